import PyProof.Rows.All
import Wide.All
import OpenK.AllK
import Wide.FinOn
import HandS.ForMost
import HandS.Set
import HandS.SetKeys
import HandS.TupSets
import PyProof.Rows.SortShellAny
import HandS.Strs
import HandS.IsInst
import HandS.TupAny
import HandS.TupMul
import HandS.TupLe
import HandS.Style
import HandS.Deep
import HandS.NoneIn
import HandS.Codes
import HandS.Lambda
import HandS.EndTab
import PyProof.ReprRoads
import HandS.TryMany
import HandS.ExcField
import HandS.Zip
import PyProof.IsRules
import PyProof.AutoSeq1
import PyProof.NeData
import PyProof.StrBlock2
import PyProof.Rows.StrMul
import KE.SortCalls
import HandS.Text
import PyProof.StrLawsRepr
import PyProof.CallFns
import KE.DataCmp
import HandS.OwnEq
import KE.KOpsOwn
import HandS.ExcInit
import HandS.WordsExc
import HandS.Defaults
import KE.GoesMore
import PyProof.TupleOfSeq
import HandS.Walk
import HandS.ExcIs
import HandS.ExcValue
import KE.KExcIs
import HandS.DictComp
import HandS.Iter
import KE.GoesEnum
import KE.KRevSl
import PySem.Challenge.RW_againnotes_k22_whole_first_wrong_places
set_option Elab.async false
set_option linter.all false
set_option maxRecDepth 100000
set_option maxHeartbeats 4000000
/-! Sets of scannable keys of one kind, with what a walk over them asks for; set(list of texts), sorted of such a set. -/
namespace Ag
open PySem PySem.Spec PyProof.Rows L2

section gen
variable {P : Program} {w : World} {κ : Type} [DecidableEq κ] {kd : KeyKind P w κ}
/-- two entries have no key in common -/
def Apart (kd : KeyKind P w κ) (e f : Int × Value) : Prop := ∀ k, kd.is k e.2 = true → kd.is k f.2 = false
theorem Apart.symm {e f : Int × Value} (h : Apart kd e f) : Apart kd f e := fun k hf => by
  cases q : kd.is k e.2 with
  | false => rfl
  | true => have := h k q; rw [hf] at this; cases this

structure SetG (kd : KeyKind P w κ) (h : Heap) (a : Addr) (S : κ → Bool) (n : Nat) (o : Obj) (es : Array (Int × Value)) (ep : Nat) (t : SetTable) : Prop where
  at_ : h.get? a = some o
  ex : o.ExactSet
  dat : o.data = .set es ep t
  els : ElemsOf kd es.toList
  mem : ∀ k, S k = true ↔ ∃ e ∈ es.toList, kd.is k e.2 = true
  room : es.size < scanBound
  fit : t.fits es.size = true
  num : es.size = n
  ris : Ris t.place.toList
  led : w.params.followText "set-order" = true ∨ t.led = true
  nd : es.toList.Pairwise (Apart kd)

def SetAtG (kd : KeyKind P w κ) (h : Heap) (a : Addr) (S : κ → Bool) (n : Nat) : Prop := ∃ o es ep t, SetG kd h a S n o es ep t
theorem SetAtG.keep {h h' : Heap} {a : Addr} {S : κ → Bool} {n : Nat} (R : SetAtG kd h a S n) (k : ∀ o, h.get? a = some o → h'.get? a = some o) : SetAtG kd h' a S n := by
  obtain ⟨o, es, ep, t, r⟩ := R
  exact ⟨o, es, ep, t, ⟨k o r.at_, r.ex, r.dat, r.els, r.mem, r.room, r.fit, r.num, r.ris, r.led, r.nd⟩⟩
theorem SetAtG.fresh {h : Heap} {a : Addr} (ho : h.get? a = some { cls := .type "set", dict := none, data := .set #[] 0 (.fresh 0 0 (!w.params.followText "set-order")) }) : SetAtG kd h a (fun _ => false) 0 :=
  ⟨_, #[], 0, _, ⟨ho, ⟨rfl, rfl, rfl⟩, rfl, fun e he => (by simp at he), fun k => (by simp), (by decide), (by rfl), rfl, List.Pairwise.nil, by
    show _ ∨ (!w.params.followText "set-order") = true
    cases w.params.followText "set-order" <;> simp, List.Pairwise.nil⟩⟩

variable {A : Around} {E : Value → Shared → Prop} {s : Shared} {a : Addr} {S : κ → Bool} {n : Nat}

theorem addG_tail {g : Bool → Sem Unit} (hg : ∀ (b : Bool) (s₁ : Shared) (Q' : Unit → Shared → Prop), Q' () s₁ → wpAny (model P w) A (g b) Q' E s₁)
    {o : Obj} {es es1 : Array (Int × Value)} {ep : Nat} {t t2 : SetTable} {S' : κ → Bool} (ho : s.heap.get? a = some o) (hex : o.ExactSet) (hd : o.data = .set es ep t)
    (el1 : ElemsOf kd es1.toList) (m1 : ∀ k, S' k = true ↔ ∃ e ∈ es1.toList, kd.is k e.2 = true) (nd1 : es1.toList.Pairwise (Apart kd))
    (b1 : es1.size < scanBound) (f2 : t2.fits es1.size = true) (r2 : Ris t2.place.toList) (l2 : w.params.followText "set-order" = true ∨ t2.led = true) {wasD : Bool} {R : Option Bool → Shared → Prop}
    (hR : ∀ h', Heap.SameBut a s.heap h' → SetAtG kd h' a S' es1.size → R (some true) { s with heap := h' }) :
    wpAny (model P w) A (do
        storeSet a es1 t2
        if (!wasD && t2.tooFull) = true then do
            g (relayAll t2 es1 (SetTable.grown es1.size)).2.2
            storeSet a (relayAll t2 es1 (SetTable.grown es1.size)).1 (relayAll t2 es1 (SetTable.grown es1.size)).2.1
            pure (some true)
          else pure (some true)) R E s := by
  refine wpAny_bind (wpAny_storeSet_of ho hd ?_ (fits_of_scanBound b1))
  have q1 := store_at (es' := es1) (t' := t2) ho hd
  have k1 := Heap.SameBut.update s.heap a (Obj.putSet es1 t2)
  by_cases hc : (!wasD && t2.tooFull) = true
  · rw [if_pos hc]
    have pm := relayAll_perm t2 es1 (SetTable.grown es1.size)
    have f3 := relayAll_fits t2 es1 (SetTable.grown es1.size)
    have r3 := relayAll_ris t2 es1 (SetTable.grown es1.size)
    have l3 := relayAll_led t2 es1 (SetTable.grown es1.size)
    generalize relayAll t2 es1 (SetTable.grown es1.size) = Z at pm f3 r3 l3 ⊢
    obtain ⟨es2, t3, gv⟩ := Z
    dsimp only at pm f3 r3 l3 ⊢
    have z2 : es2.size = es1.size := by rw [← Array.length_toList, pm.length_eq, Array.length_toList]
    have b2 : es2.size < scanBound := z2 ▸ b1
    refine wpAny_bind (hg _ _ _ ?_)
    refine wpAny_bind (wpAny_storeSet_of q1 rfl ?_ (fits_of_scanBound b2))
    have q2 := store_at (es' := es2) (t' := t3) q1 rfl
    have m2 : ∀ k, S' k = true ↔ ∃ e ∈ es2.toList, kd.is k e.2 = true := fun k => (m1 k).trans ⟨fun ⟨e, he, q⟩ => ⟨e, pm.mem_iff.mpr he, q⟩, fun ⟨e, he, q⟩ => ⟨e, pm.mem_iff.mp he, q⟩⟩
    exact wpAny_pure (hR _ (k1.trans (Heap.SameBut.update _ a _)) ⟨_, es2, _, t3, ⟨q2, hex, rfl, el1.perm pm, m2, b2, f3, z2, r3, l2.imp id fun z => l3 ▸ z, (pm.pairwise_iff (fun h => Apart.symm h)).mpr nd1⟩⟩)
  · rw [if_neg hc]
    exact wpAny_pure (hR _ k1 ⟨_, es1, _, t2, ⟨q1, hex, rfl, el1, m1, b1, f2, rfl, r2, l2, nd1⟩⟩)

theorem addG {k : κ} {x : Value} {Q : Bool → Shared → Prop} (hk : kd.is k x = true) (hx : x.scannable = true) (R : SetAtG kd s.heap a S n) (hroom : n + 1 < scanBound)
    (hQ : ∀ h', Heap.SameBut a s.heap h' → SetAtG kd h' a (fun j => S j || decide (j = k)) (if S k = true then n else n + 1) → Q (!S k) { s with heap := h' }) :
    wpAny (model P w) A (setAddHashed a x (kd.hash k)) Q E s := by
  obtain ⟨o, es, ep, t, R⟩ := R
  have bz : es.size + 1 < scanBound := by rw [R.num]; exact hroom
  unfold setAddHashed setAddHashedIn
  refine wpAny_holding (wpAny_bind (wpAny_setState_of R.at_ R.dat R.fit ?_))
  dsimp only
  rw [byScan_of hx R.room R.els]
  simp only [↓reduceIte]
  unfold setAddByScan
  refine wpAny_bind (wpAny_bind (wpAny_rule (wpAny_bind (wpAny_setScan_of hk R.at_ R.dat R.fit R.els ?_))))
  cases hfi : List.findIdx? (fun e => kd.is k e.2) es.toList with
  | some j =>
    obtain ⟨hj, pj, _⟩ := List.findIdx?_eq_some_iff_getElem.mp hfi
    have hS : S k = true := (R.mem k).mpr ⟨_, List.getElem_mem hj, pj⟩
    refine wpAny_pure (wpAny_pure ?_)
    have q := hQ s.heap (Heap.SameBut.refl a s.heap) ⟨o, es, ep, t, ⟨R.at_, R.ex, R.dat, R.els, fun i => (by
      rw [Bool.or_eq_true, decide_eq_true_eq, ← R.mem i]
      exact ⟨fun z => z.elim id (fun e => e ▸ hS), .inl⟩), R.room, R.fit, (by rw [if_pos hS]; exact R.num), R.ris, R.led, R.nd⟩⟩
    rw [hS] at q
    exact q
  | none =>
    have hno : ∀ e ∈ es.toList, kd.is k e.2 = false := fun e he => by
      have c := List.findIdx?_eq_none_iff.mp hfi e he
      cases q : kd.is k e.2 with
      | false => rfl
      | true => rw [q] at c; cases c
    have hS : S k = false := by
      cases q : S k with
      | false => rfl
      | true =>
        obtain ⟨e, he, z⟩ := (R.mem k).mp q
        rw [hno e he] at z; cases z
    have pm := layNew_perm t es (kd.hash k) x
    have f1 := layNew_fits t es (kd.hash k) x
    have r1 := layNew_ris t es (kd.hash k) x R.ris
    have l1 := layNew_led t es (kd.hash k) x
    dsimp only
    generalize layNew t es (kd.hash k) x = Z at pm f1 r1 l1 ⊢
    obtain ⟨es1, t1, wasD, gv⟩ := Z
    dsimp only at pm f1 r1 l1 ⊢
    rw [Array.toList_push] at pm
    have el1 : ElemsOf kd es1.toList := (R.els.push hk hx).perm pm
    have m1 : ∀ i, (S i || decide (i = k)) = true ↔ ∃ e ∈ es1.toList, kd.is i e.2 = true := mem_push_iff hk R.mem pm
    have nd1 : es1.toList.Pairwise (Apart kd) := by
      refine (pm.pairwise_iff (fun h => Apart.symm h)).mpr (List.pairwise_append.mpr ⟨R.nd, List.pairwise_singleton _ _, fun e he f hf => ?_⟩)
      rw [List.mem_singleton.mp hf]
      refine Apart.symm fun j hj => ?_
      have : j = k := kd.inj x j k hj hk
      rw [this]; exact hno e he
    have z1 : es1.size = n + 1 := by rw [← Array.length_toList, pm.length_eq, List.length_append, Array.length_toList, R.num]; rfl
    have b1 : es1.size < scanBound := by rw [z1]; exact hroom
    have ld : w.params.followText "set-order" = true ∨ t1.led = true := R.led.imp id fun z => by rw [l1]; exact z
    have fin : ∀ h', Heap.SameBut a s.heap h' → SetAtG kd h' a (fun j => S j || decide (j = k)) es1.size → Q true { s with heap := h' } := fun h' sb r => by
      have q := hQ h' sb
      rw [hS] at q
      rw [z1] at r
      exact q r
    have gw : ∀ (b : Bool) {s₁ : Shared} {Q' : Unit → Shared → Prop}, Q' () s₁ → wpAny (model P w) A (match b with | true => rule "set.scan.the-table-gave-way" | false => pure ()) Q' E s₁ :=
      fun b s₁ Q' q => by cases b <;> first | exact wpAny_pure q | exact wpAny_rule q
    refine wpAny_bind (gw _ ?_)
    split
    · refine wpAny_bind ?_
      rw [hashByValue_scannable 8 hx]
      refine wpAny_pure (addG_tail (fun b s₁ Q' q => by cases b <;> first | exact wpAny_pure q | exact wpAny_rule q) R.at_ R.ex R.dat el1 m1 nd1 b1 ?_ ?_ ?_ ?_)
      · split <;> first | exact f1 | exact SetTable.fits_plain_off f1
      · split <;> exact r1
      · split <;> exact ld
      · intro h' sb r; dsimp only; exact wpAny_pure (fin h' sb r)
    · refine wpAny_bind (wpAny_pure ?_)
      simp only [↓reduceIte]
      refine addG_tail (fun b s₁ Q' q => by cases b <;> first | exact wpAny_pure q | exact wpAny_rule q) R.at_ R.ex R.dat el1 m1 nd1 b1 f1 r1 ld ?_
      intro h' sb r; dsimp only; exact wpAny_pure (fin h' sb r)
end gen
end Ag

set_option Elab.async false
set_option linter.all false
set_option maxRecDepth 100000
set_option maxHeartbeats 4000000
namespace Ag
open PySem PySem.Spec PyProof.Rows L2
section
variable {P : Program} {w : World} {A : Around} {E : Value → Shared → Prop}

/-- set.update's loop over texts -/
theorem upd_loop {I : Addr} {fp wr : List Addr} {G : Array GenState → Array GenState → Prop} {n : Nat} {Pv : Nat → Value → Prop} {St : Nat → Shared → Prop} {R : Result → Shared → Prop}
    (W : WalksS P w A.in1 I fp wr G n Pv St) (C : Addr) (hC : C ∉ fp) (xs : List Str) (hn : n = xs.length) (hb : xs.length + 1 < scanBound) (hv : ∀ i v, Pv i v → ∃ x t, xs[i]? = some x ∧ v = .str x t) :
    ∀ (j i : Nat) (s : Shared), n - i = j → i ≤ n → St i s → (∃ S m, SetAtG (PySem.strKind P w) s.heap C S m ∧ m ≤ i ∧ ∀ k, S k = true ↔ k ∈ xs.take i) →
      (∀ s' S m, Moved (C :: wr) G s s' → SetAtG (PySem.strKind P w) s'.heap C S m → m ≤ n → (∀ k, S k = true ↔ k ∈ xs) → R (.ok (.ret .none)) s') →
      codeAny (model P w) A (.builtin "set.update.loop" ⟨[.ref C, .ref I], []⟩) R s := by
  have hCw : C ∉ wr := fun z => hC (W.sub _ z)
  have wide : ∀ b ∈ wr, b ∈ C :: wr := fun b z => List.mem_cons_of_mem _ z
  intro j
  induction j with
  | zero =>
    intro i s hj hi st ⟨S, m, hS, hm, hk⟩ hR
    obtain rfl : i = n := by omega
    refine codeAny_builtin F.entry_set_update_loop ?_
    rw [Around.under_plainId F.plain_set_update_loop _]
    show wpAny _ A.in1 (pyNext (.ref I) >>= _) _ _ s
    refine wpAny_bind (W.done s _ _ st fun s' mv => ?_)
    show wpAny _ A.in1 (ret Value.none) _ _ s'
    refine wpAny_pure (hR s' S m (mv.mono wide) (hS.keep fun o e => mv.heap C o hCw e) hm fun k => ?_)
    rw [hk k, hn, List.take_length]
  | succ j ih =>
    intro i s hj hi st ⟨S, m, hS, hm, hk⟩ hR
    have lt : i < n := by omega
    refine codeAny_builtin F.entry_set_update_loop ?_
    rw [Around.under_plainId F.plain_set_update_loop _]
    show wpAny _ A.in1 (pyNext (.ref I) >>= _) _ _ s
    refine wpAny_bind (W.item i s _ _ lt st fun v s' pv st' mv => ?_)
    obtain ⟨x, tk, hx, rfl⟩ := hv i v pv
    have hS' := hS.keep (h' := s'.heap) fun o e => mv.heap C o hCw e
    show wpAny _ A.in1 (holding [Value.str x tk] (setAdd C (.str x tk)) >>= _) _ _ s'
    refine wpAny_bind (wpAny_holding ?_)
    unfold setAdd
    refine wpAny_holding (wpAny_bind ((PySem.strKind P w).pyHash (k := x) (strKind_is _ _ _ _) ?_))
    refine addG (kd := PySem.strKind P w) (s := { s' with toks := s'.toks + 1 }) (strKind_is _ _ _ _) rfl hS' (by omega) fun h' sb hS2 => ?_
    have tk1 : xs.take (i + 1) = xs.take i ++ [x] := by rw [List.take_succ, hx]; rfl
    refine wpAny_pure ⟨plainId_quiet F.plain_set_update_loop _, ih (i + 1) _ (by omega) lt (W.frame _ s' _ _ st' (Nat.le_succ _) fun b z o e => ?_) ⟨_, _, hS2, ?_, fun k => ?_⟩ fun s2 S2 m2 mv2 h2 l2 k2 => hR s2 S2 m2 ?_ h2 l2 k2⟩
    · rw [sb.2 b (fun q => hC (q ▸ z))]; exact e
    · split <;> omega
    · rw [tk1, Bool.or_eq_true, hk k, List.mem_append, List.mem_singleton, decide_eq_true_eq]
    · refine Moved.trans W.gtrans ((mv.mono wide).then_heap (Nat.le_succ _) fun b o z e => ?_) mv2
      rw [sb.2 b (fun q => z (q ▸ List.mem_cons_self))]; exact e

set_option maxHeartbeats 4000000 in
theorem set_of_strs {s : Shared} {l : Addr} {items : Array Value} {xs : List Str} {Q : Value → Shared → Prop} (hh : A.handled = none) (hl : s.heap.IsList l items) (hi : StrsAre items.toList xs) (hb : xs.length + 1 < scanBound)
    (hQ : ∀ (h' : Heap) (tk : Nat) S m, SetAtG (PySem.strKind P w) h' s.heap.objs.size S m → m ≤ xs.length → (∀ k, S k = true ↔ k ∈ xs) → (∀ b o, s.heap.get? b = some o → h'.get? b = some o) → Q (.ref s.heap.objs.size) { s with heap := h', toks := tk }) :
    wpAny (model P w) A (call (.type "set") [.ref l]) Q E s := by
  have isz : items.size = xs.length := by rw [← StrsAre.len_eq hi, Array.length_toList]
  obtain ⟨c, tl, hmro⟩ := F.called_set.mro
  have hmade := F.called_set.made
  have hsub := F.called_set.sub
  refine wpAny_call (codeAny_of_tree ?_)
  show wpAny _ _ (callAny (.type "set") _) _ _ _
  refine wpAny_pure ⟨Code.quiet_builtin _ (by decide +kernel), codeAny_builtin F.entry_type_call ?_⟩
  rw [Around.under_plain (weight_type_call_type "set" [.ref l] []) rfl]
  have h1 := F.called_set.notType
  have h2 := F.called_set.canCreate
  have hct := F.typeCall_set_1 (.ref l)
  repeat (any_goals (first | assumption | wp_step))
  refine codeAny_mono (code_set_led1 (.ref l) (E := E) (Q₁ := fun obj s₁ => obj = .ref s.heap.objs.size ∧ s₁ = { s with heap := s.heap.push ({ cls := .type "set", dict := none, data := .set #[] 0 (.fresh 0 0 (!w.params.followText "set-order")) } : Obj) }) ⟨rfl, rfl⟩) fun r s₁ hr => ?_
  cases r with
  | error e => exact hr
  | ok fl =>
    cases fl with
    | ret obj =>
      obtain ⟨rfl, rfl⟩ := hr
      have hS : (s.heap.push ({ cls := .type "set", dict := none, data := .set #[] 0 (.fresh 0 0 (!w.params.followText "set-order")) } : Obj)).get? s.heap.objs.size = some ({ cls := .type "set", dict := none, data := .set #[] 0 (.fresh 0 0 (!w.params.followText "set-order")) } : Obj) := Heap.get?_push_size _ rfl
      have hT : Shared.TypeIs { s with heap := s.heap.push ({ cls := .type "set", dict := none, data := .set #[] 0 (.fresh 0 0 (!w.params.followText "set-order")) } : Obj) } (.ref s.heap.objs.size) "set" := ⟨_, hS, rfl⟩
      have hli := F.called_set.init.lookup
      have hbi := F.called_set.init.bind (.ref s.heap.objs.size)
      repeat (any_goals (first | assumption | wp_step))
      refine codeAny_mono (codeAny_call_builtin (R := wants (fun r s₂ => r = .none ∧ ∃ h' tk S m, s₂ = { s with heap := h', toks := tk } ∧ SetAtG (PySem.strKind P w) h' s.heap.objs.size S m ∧ m ≤ xs.length ∧ (∀ k, S k = true ↔ k ∈ xs) ∧
          (∀ b o, s.heap.get? b = some o → h'.get? b = some o)) E) F.called_set.init.plain F.entry_set_init (check_set_init_1 hT ?_)) fun r₂ s₂ hr₂ => ?_
      · obtain ⟨ol, hol, hcl, nl, hdl⟩ := hl
        obtain ⟨ocls, odict, odata, oslots⟩ := ol
        simp only at hcl hdl
        subst hcl; subst hdl
        have hol1 : (s.heap.push ({ cls := .type "set", dict := none, data := .set #[] 0 (.fresh 0 0 (!w.params.followText "set-order")) } : Obj)).get? l = some { cls := .type "list", dict := odict, data := .seq items nl, slots := oslots } := Heap.get?_push_of_some _ hol
        have hsls := F.sub_list_set
        have hslf := F.sub_list_frozenset
        have hne : (Value.type "list" == Value.type "dict") = false := by decide
        have hl1 : (s.heap.push ({ cls := .type "set", dict := none, data := .set #[] 0 (.fresh 0 0 (!w.params.followText "set-order")) } : Obj)).IsList l items := ⟨_, hol1, rfl, nl, rfl⟩
        unfold Builtin.«set.__init__» noKeywords Builtin.Frozenset.updateFrom
        generalize hPI : pyIter = PI
        wp_walk
        subst hPI
        refine wpAny_pyIter_list hl1 ?_
        refine wpAny_bind (wpAny_runValue ?_)
        have llt : l < s.heap.objs.size := Heap.lt_size hol
        have hh3 : A.in1.in1.in1.handled = none := by simp [hh]
        have z1 : (s.heap.push ({ cls := .type "set", dict := none, data := .set #[] 0 (.fresh 0 0 (!w.params.followText "set-order")) } : Obj)).objs.size = s.heap.objs.size + 1 := Heap.size_push ..
        have ne1 : l ≠ (s.heap.push ({ cls := .type "set", dict := none, data := .set #[] 0 (.fresh 0 0 (!w.params.followText "set-order")) } : Obj)).objs.size := by rw [z1]; exact Nat.ne_of_lt (Nat.lt_succ_of_lt llt)
        have hnf : s.heap.objs.size ∉ [(s.heap.push ({ cls := .type "set", dict := none, data := .set #[] 0 (.fresh 0 0 (!w.params.followText "set-order")) } : Obj)).objs.size, l] := by
          rw [z1]; intro z
          rcases List.mem_cons.mp z with z | z
          · exact Nat.ne_of_lt (Nat.lt_succ_self _) z
          · exact Nat.ne_of_gt llt (List.mem_singleton.mp z)
        have hval : ∀ (i : Nat) (v : Value), items[i]? = some v → ∃ x t, xs[i]? = some x ∧ v = .str x t := fun i v q => by
          have q2 : items.toList[i]? = some v := by rw [Array.getElem?_toList]; exact q
          obtain ⟨t, e⟩ := SS.strs_at hi i v q2
          have il : i < xs.length := by rw [← isz, ← Array.length_toList]; exact (List.getElem?_eq_some_iff.mp q2).1
          refine ⟨_, t, ?_, e⟩
          rw [List.getD_eq_getElem?_getD, List.getElem?_eq_getElem il]; rfl
        refine upd_loop ((Walks.list hh3 _ l ne1 items).toS) s.heap.objs.size hnf xs isz hb hval (items.size - 0) 0 _ (by omega) (Nat.zero_le _)
          ⟨⟨_, Heap.get?_push_size _ rfl, rfl, rfl⟩, (hl1.push _)⟩ ⟨_, 0, SetAtG.fresh (kd := PySem.strKind P w) (Heap.get?_push_of_some _ hS), Nat.le_refl _, fun k => (by simp)⟩ fun s' S m mv hS' hm hk => ?_
        obtain ⟨h', g2, d', tk', os'⟩ := s'
        have eg : g2 = s.gens := mv.gens
        have ed : d' = s.drawn := mv.drawn
        have eo : os' = s.os := mv.os
        subst eg; subst ed; subst eo
        show wpAny _ _ _ _ _ _
        refine wpAny_pure ?_
        show wpAny _ _ (ret Value.none) _ _ _
        refine wpAny_pure ⟨rfl, h', tk', S, m, rfl, hS', by rw [← isz]; exact hm, hk, fun b o e => mv.heap b o (fun z => ?_) (Heap.get?_push_of_some _ (Heap.get?_push_of_some _ e))⟩
        have lb := Heap.lt_size e
        rcases List.mem_cons.mp z with z | z
        · exact Nat.ne_of_lt lb z
        · exact Nat.ne_of_lt (Nat.lt_succ_of_lt lb) ((List.mem_singleton.mp z).trans z1)
      · cases r₂ with
        | error e => exact hr₂
        | ok fl₂ =>
          cases fl₂ with
          | ret r =>
            obtain ⟨rfl, h', tk, S, m, rfl, hS', hm, hk, kp⟩ := hr₂
            repeat (any_goals (first | assumption | wp_step))
            exact hQ _ _ _ _ hS' hm hk kp
          | _ => exact hr₂.elim
    | _ => exact hr.elim
end
end Ag

set_option Elab.async false
set_option linter.all false
set_option maxRecDepth 100000
set_option maxHeartbeats 4000000
namespace Ag
open PySem PySem.Spec PyProof.Rows L2
section
variable {P : Program} {w : World} {A : Around} {E : Value → Shared → Prop} {s : Shared}

theorem strs_pick : ∀ (l : List (Int × Value)), ElemsOf (PySem.strKind P w) l → ∃ xs : List Str, StrsAre (l.map (·.2)) xs ∧ ∀ k, k ∈ xs ↔ ∃ e ∈ l, (PySem.strKind P w).is k e.2 = true
  | [], _ => ⟨[], .nil, fun k => by simp⟩
  | e :: l, h => by
    obtain ⟨xs, r, m⟩ := strs_pick l h.tail
    obtain ⟨⟨k, hk, _⟩, _⟩ := h.head
    obtain ⟨t, q⟩ := Value.isStrOf_shape (x := k) (v := e.2) hk
    refine ⟨k :: xs, ?_, fun j => ?_⟩
    · show StrsAre (e.2 :: l.map (·.2)) _
      rw [q]; exact .cons k t r
    · rw [List.mem_cons, m j]
      constructor
      · rintro (rfl | ⟨f, hf, z⟩)
        · exact ⟨e, List.mem_cons_self, hk⟩
        · exact ⟨f, List.mem_cons_of_mem _ hf, z⟩
      · rintro ⟨f, hf, z⟩
        rcases List.mem_cons.mp hf with rfl | hf
        · exact .inl ((PySem.strKind P w).inj _ _ _ z hk)
        · exact .inr ⟨f, hf, z⟩

theorem strs_of_perm : ∀ {us vs : List Value} {xs : List Str}, us.Perm vs → StrsAre vs xs → ∃ ys : List Str, StrsAre us ys ∧ ys.Perm xs := by
  intro us vs xs p
  induction p generalizing xs with
  | nil => intro h; cases h; exact ⟨[], .nil, .nil⟩
  | cons v _ ih =>
    intro h
    cases h with
    | cons x t r =>
      obtain ⟨ys, a, b⟩ := ih r
      exact ⟨x :: ys, .cons x t a, b.cons x⟩
  | swap v u l =>
    intro h
    cases h with
    | cons x t r =>
      cases r with
      | cons y t' r' => exact ⟨y :: x :: _, .cons y t' (.cons x t r'), .swap x y _⟩
  | trans _ _ ih1 ih2 =>
    intro h
    obtain ⟨ys, a, b⟩ := ih2 h
    obtain ⟨zs, c, d⟩ := ih1 a
    exact ⟨zs, c, d.trans b⟩

theorem strsAre_inj : ∀ {us : List Value} {xs ys : List Str}, StrsAre us xs → StrsAre us ys → xs = ys
  | _, _, _, .nil, h => by cases h; rfl
  | _, _, _, .cons x t r, h => by
    cases h with
    | cons y t' r' => rw [strsAre_inj r r']

theorem strs_nodup : ∀ {l : List (Int × Value)} {xs : List Str}, StrsAre (l.map (·.2)) xs → l.Pairwise (Apart (PySem.strKind P w)) → ElemsOf (PySem.strKind P w) l → xs.Nodup
  | [], _, .nil, _, _ => List.nodup_nil
  | e :: l, _, h, nd, el => by
    obtain ⟨v, hv⟩ : ∃ v, e.2 = v := ⟨_, rfl⟩
    rw [List.map_cons, hv] at h
    cases h with
    | cons x t r =>
      obtain ⟨n1, n2⟩ := List.pairwise_cons.mp nd
      refine List.nodup_cons.mpr ⟨fun hx => ?_, strs_nodup r n2 el.tail⟩
      obtain ⟨ys, r', m⟩ := strs_pick (P := P) (w := w) l el.tail
      have same : ys = _ := strsAre_inj r' r
      subst same
      obtain ⟨f, hf, z⟩ := (m x).mp hx
      have := n1 f hf x (by rw [hv]; exact strKind_is _ _ _ _)
      rw [z] at this; cases this

theorem sorted_of_strset {a : Addr} {S : Str → Bool} {m : Nat} {Q : Value → Shared → Prop} (R : SetAtG (PySem.strKind P w) s.heap a S m) (hh : A.handled = none)
    (hQ : ∀ s' p (out : Array Value) (c : Nat) (ys : List Str), (∀ b o, s.heap.get? b = some o → s'.heap.get? b = some o) → s'.gens = s.gens → s'.os = s.os → s.heap.objs.size ≤ p →
      s'.heap.get? p = some (seqObj "list" out c) → StrsAre out.toList ys → sortedS ys = true → ys.Nodup → (∀ k, k ∈ ys ↔ S k = true) → ys.length = m → Q (.ref p) s') :
    wpAny (model P w) A (call (.builtin "sorted") [.ref a]) Q E s := by
  obtain ⟨o, es, ep, t, R⟩ := R
  obtain ⟨xs, hxs, mx⟩ := strs_pick (P := P) (w := w) es.toList R.els
  have nx := strs_nodup hxs R.nd R.els
  refine Calls.call_function_entry kind_sorted plain_sorted entry_sorted (args_sorted1 _) ?_
  unfold Builtin.«sorted»
  refine wpAny_bind (m := checkCount "sorted" 1 1 _) (wpAny_pure ?_)
  refine wpAny_bind (collect_set (A := A.in1) hh ⟨o, R.at_, R.ex.1, R.dat⟩ R.fit R.room R.ris R.led fun s1 vs k1 hz g1 o1 pm => ?_)
  have vl : vs.length = m := by rw [pm.length_eq, List.length_map, Array.length_toList]; exact R.num
  obtain ⟨zs, hzs, pz⟩ := strs_of_perm pm hxs
  have mb : m < scanBound := R.num ▸ R.room
  have small : vs.length ≤ sizeLine := by rw [vl]; exact fits_of_scanBound mb
  refine wpAny_bind (wpAny_newList ?_ small)
  have hoL : (s1.heap.push (seqObj "list" vs.toArray 0)).get? s1.heap.objs.size = some (seqObj "list" vs.toArray 0) := Heap.get?_push_size _ rfl
  refine wpAny_bind (wpAny_holding (wpAny_call_entry slot_list_sort ⟨_, hoL, rfl⟩ entry_list_sort (list_sort_treeKAny strKind_oneLt hoL hzs.keysOf (fun v₁ v₂ rest e => keyKind_strs (by rw [← e]; exact hzs)) small fun st' hp hs => ⟨_, rfl, ?_⟩) (args_list_sort _)))
  obtain ⟨ys, a1, a2, a3⟩ := sorted_out_str hzs hp hs
  obtain ⟨c, hc⟩ := sortedHeap_at (vs := vs) (out := (arrOf st').map (·.2)) hoL
  have py : ys.Perm xs := a2.trans pz
  refine wpAny_pure ⟨_, rfl, hQ _ s1.heap.objs.size _ c ys (fun b u e => ?_) g1 o1 hz hc a1 a3 (py.nodup_iff.mpr nx) (fun k => by rw [py.mem_iff, mx k, ← R.mem k]) ?_⟩
  · have q := k1 b u e
    have lt := Heap.lt_size q
    show (sortedHeap (s1.heap.push (seqObj "list" vs.toArray 0)) s1.heap.objs.size vs _).get? b = some u
    rw [sortedHeap_old (Nat.ne_of_lt lt) (by rw [size_push']; exact Nat.lt_succ_of_lt lt)]
    exact Heap.get?_push_of_some _ q
  · have h1 := StrsAre.len_eq hzs
    rw [a2.length_eq, ← h1, vl]
end

/-! ### over the layer -/
/-- the set of the texts xs, at a -/
def StrSet (P : Program) (w : World) (a : Addr) (xs : List Str) : HO := .ext fun h => ∃ S m, SetAtG (PySem.strKind P w) h a S m ∧ m ≤ xs.length ∧ ∀ k, S k = true ↔ k ∈ xs
def rSetS (K : PySem.W.Frag) (P : Program) (w : World) : List V → Hp → VK → Prop := fun vs H Q => ∃ (a : Addr) (xs : List Str), vs = [V.ref a] ∧ (SqL K H a (xs.map V.str)) ∧ xs.length < 4000 ∧
  ∀ p, H p = none → Q (.ref p) (upd H p (StrSet P w p xs))
def rSortSetS (P : Program) (w : World) : List V → Hp → VK → Prop := fun vs H Q => ∃ (a : Addr) (xs : List Str), vs = [V.ref a] ∧ H a = some (StrSet P w a xs) ∧
  ∀ ys p, sortedS ys = true → ys.Nodup → (∀ k, k ∈ ys ↔ k ∈ xs) → H p = none → Q (.ref p) (upd H p (.lst (ys.map V.str)))
theorem cr_setS {X : Cx} (hc : X.calm = true) : CallR X (.type "set") (rSetS X.K X.prog X.w) := by
  intro pins s σ H vs us Q I r h
  obtain ⟨a, xs, rfl, hs, hb, q⟩ := h
  obtain ⟨its, rv, hl, _⟩ := I.list hs
  rw [Vals.ref1 r]
  have hn : H s.heap.objs.size = none := I.hok.fresh (Nat.le_refl _)
  refine set_of_strs (P := X.prog) (w := X.w) (I.ok.hd hc) hl.isList rv.strs (by unfold scanBound; omega) fun h' tk S m hS hm hk kp => ?_
  refine ⟨.ref s.heap.objs.size, upd H s.heap.objs.size (StrSet X.prog X.w s.heap.objs.size xs), I.laid (t' := tk) kp (Nat.le_refl _) ?_, rfl, q _ hn⟩
  refine ⟨⟨S, m, hS, hm, hk⟩, ?_, ?_⟩
  · obtain ⟨o, es, ep, t, R⟩ := hS
    exact ⟨o, R.at_⟩
  · rintro h1 h2 ⟨S, m, hS, hm, hk⟩ e
    exact ⟨S, m, hS.keep e, hm, hk⟩
theorem cr_sortSetS {X : Cx} (hc : X.calm = true) : CallR X (.builtin "sorted") (rSortSetS X.prog X.w) := by
  intro pins s σ H vs us Q I r h
  obtain ⟨a, xs, rfl, ha, q⟩ := h
  obtain ⟨⟨S, m, hS, hm, hk⟩, _⟩ := I.hok a _ ha
  rw [Vals.ref1 r]
  refine sorted_of_strset hS (I.ok.hd hc) fun s' p out c ys kp g o hp hg hout srt nd mem hlen => ?_
  have hn : H p = none := I.hok.fresh hp
  have mb : m < scanBound := by
    obtain ⟨o, es, ep, t, R⟩ := hS
    exact R.num ▸ R.room
  have small : (ys.map V.str).length ≤ sizeLine := by rw [List.length_map, hlen]; exact fits_of_scanBound mb
  have J : Inv X pins σ (upd H p (.lst (ys.map V.str))) { s with heap := s'.heap, gens := s'.gens, drawn := s'.drawn, toks := s'.toks } :=
    I.call (ch := []) (Un.laid kp hp hn) (I.hok.laid kp hp ⟨small, out.toList, c, vals_of_strs hout, hg⟩) (by rw [g]; exact I.bare) (fun _ z => nomatch z)
  have e : s' = { s with heap := s'.heap, gens := s'.gens, drawn := s'.drawn, toks := s'.toks } := by
    cases s'; cases s; cases o; rfl
  rw [e]
  exact ⟨.ref p, _, J, rfl, q ys p srt nd (fun k => (mem k).trans (hk k)) hn⟩
end Ag

set_option Elab.async false
set_option linter.all false
set_option maxRecDepth 100000
set_option maxHeartbeats 1000000
/-! Data: what a reading of an expression over plain values gives, with the heap only growing. -/
namespace Ag
open PySem PySem.Spec PyProof.Rows L2

/-! ### heaps that keep -/
theorem _root_.L2.Same.newA {H : Hp} {p : Addr} {o : HO} (h : H p = none) : Same H (upd H p o) := fun a u e => by
  rw [upd_ne (ne_of_none e h)]; exact e
theorem _root_.L2.Same.rdA {H H' : Hp} {a : Addr} {u : HO} (e : Same H H') (h : Rd H a u) : Rd H' a u :=
  h.elim (fun z => .inl (e _ _ z)) fun ⟨o, z⟩ => .inr ⟨o, e _ _ z⟩
theorem _root_.L2.Same.slA {K : PySem.W.Frag} {H H' : Hp} {a : Addr} {xs : List V} (e : Same H H') (h : SqL K H a xs) : SqL K H' a xs := h.imp e.rdA id
theorem _root_.L2.Same.stA {K : PySem.W.Frag} {H H' : Hp} {a : Addr} {xs : List V} (e : Same H H') (h : SqT K H a xs) : SqT K H' a xs := h.imp e.rdA id
theorem _root_.L2.Same.freshA {H H' : Hp} {p : Addr} (e : Same H H') (h : H' p = none) : H p = none := e.free h

/-! ### plain data -/
mutual
theorem dp_mono {K : PySem.W.Frag} {H H' : Hp} (e : Same H H') : ∀ {v : V} {d : PyData}, Dp K H v d → Dp K H' v d
  | _, _, .non => .non
  | _, _, .bl b => .bl b
  | _, _, .int i => .int i
  | _, _, .str x => .str x
  | _, _, .lst h r => .lst (e.slA h) (dps_mono e r)
  | _, _, .tup h r => .tup (e.stA h) (dps_mono e r)
theorem dps_mono {K : PySem.W.Frag} {H H' : Hp} (e : Same H H') : ∀ {vs : List V} {ds : List PyData}, DpAll K H vs ds → DpAll K H' vs ds
  | _, _, .nil => .nil
  | _, _, .cons h r => .cons (dp_mono e h) (dps_mono e r)
end
theorem dps_len {K : PySem.W.Frag} {H : Hp} : ∀ {vs : List V} {ds : List PyData}, DpAll K H vs ds → vs.length = ds.length
  | _, _, .nil => rfl
  | _, _, .cons _ r => by rw [List.length_cons, List.length_cons, dps_len r]
theorem dps_get {K : PySem.W.Frag} {H : Hp} : ∀ {vs : List V} {ds : List PyData} {i : Nat} {d : PyData}, DpAll K H vs ds → ds[i]? = some d → ∃ v, vs[i]? = some v ∧ Dp K H v d
  | _, _, _, _, .nil, h => by simp at h
  | _, _, 0, _, .cons a r, h => by simp at h; subst h; exact ⟨_, rfl, a⟩
  | _, _, i + 1, _, .cons a r, h => by
    obtain ⟨v, e, q⟩ := dps_get (i := i) r (by simpa using h)
    exact ⟨v, by simpa using e, q⟩
theorem dps_get' {K : PySem.W.Frag} {H : Hp} : ∀ {vs : List V} {ds : List PyData} {i : Nat} {v : V}, DpAll K H vs ds → vs[i]? = some v → ∃ d, ds[i]? = some d ∧ Dp K H v d
  | _, _, _, _, .nil, h => by simp at h
  | _, _, 0, _, .cons a r, h => by simp at h; subst h; exact ⟨_, rfl, a⟩
  | _, _, i + 1, _, .cons a r, h => by
    obtain ⟨v, e, q⟩ := dps_get' (i := i) r (by simpa using h)
    exact ⟨v, by simpa using e, q⟩
theorem dps_app {K : PySem.W.Frag} {H : Hp} : ∀ {vs us : List V} {ds es : List PyData}, DpAll K H vs ds → DpAll K H us es → DpAll K H (vs ++ us) (ds ++ es)
  | _, _, _, _, .nil, q => q
  | _, _, _, _, .cons a r, q => .cons a (dps_app r q)
theorem dps_take {K : PySem.W.Frag} {H : Hp} : ∀ {vs : List V} {ds : List PyData} (n : Nat), DpAll K H vs ds → DpAll K H (vs.take n) (ds.take n)
  | _, _, 0, _ => .nil
  | _, _, _ + 1, .nil => .nil
  | _, _, n + 1, .cons a r => .cons a (dps_take n r)
theorem dps_drop {K : PySem.W.Frag} {H : Hp} : ∀ {vs : List V} {ds : List PyData} (n : Nat), DpAll K H vs ds → DpAll K H (vs.drop n) (ds.drop n)
  | _, _, 0, h => h
  | _, _, _ + 1, .nil => .nil
  | _, _, n + 1, .cons _ r => dps_drop n r
theorem dps_strs {K : PySem.W.Frag} {H : Hp} : ∀ (xs : List Str), DpAll K H (xs.map V.str) (xs.map .str)
  | [] => .nil
  | x :: xs => .cons (.str x) (dps_strs xs)
theorem strs_dps {K : PySem.W.Frag} {H : Hp} : ∀ {xs : List Str} {vs : List V}, DpAll K H vs (xs.map .str) → vs = xs.map V.str
  | [], _, h => by cases h; rfl
  | x :: xs, _, h => by
    cases h with
    | cons a r => cases a; rw [strs_dps r]; rfl
theorem ints_dps {K : PySem.W.Frag} {H : Hp} : ∀ {xs : List Int} {vs : List V}, DpAll K H vs (xs.map .int) → vs = xs.map V.int
  | [], _, h => by cases h; rfl
  | x :: xs, _, h => by
    cases h with
    | cons a r => cases a; rw [ints_dps r]; rfl
theorem bls_dps {K : PySem.W.Frag} {H : Hp} : ∀ {xs : List Bool} {vs : List V}, DpAll K H vs (xs.map .bool) → vs = xs.map V.bl
  | [], _, h => by cases h; rfl
  | x :: xs, _, h => by
    cases h with
    | cons a r => cases a; rw [bls_dps r]; rfl


/-! ### data whose lists stand where F allows -/
def KL (K : PySem.W.Frag) (a : Addr) (xs : List V) : Prop := ∃ (o : Obj) (its : Array Value) (n : Nat), K.lookup a = some o ∧ o.cls = .type "list" ∧ o.dict = none ∧ o.data = .seq its n ∧ its.size ≤ sizeLine ∧ Vals xs its.toList
mutual
inductive Df (K : PySem.W.Frag) (F : Addr → Prop) (H : Hp) : V → PyData → Prop
  | non : Df K F H .non .none
  | bl (b : Bool) : Df K F H (.bl b) (.bool b)
  | int (i : Int) : Df K F H (.int i) (.int i)
  | str (x : Str) : Df K F H (.str x) (.str x)
  | lst {a : Addr} {xs : List V} {ds : List PyData} : (Rd H a (.lst xs) ∧ F a) ∨ KL K a xs → DfAll K F H xs ds → Df K F H (.ref a) (.list ds)
  | tup {a : Addr} {xs : List V} {ds : List PyData} : SqT K H a xs → DfAll K F H xs ds → Df K F H (.ref a) (.tuple ds)
inductive DfAll (K : PySem.W.Frag) (F : Addr → Prop) (H : Hp) : List V → List PyData → Prop
  | nil : DfAll K F H [] []
  | cons {v : V} {vs : List V} {d : PyData} {ds : List PyData} : Df K F H v d → DfAll K F H vs ds → DfAll K F H (v :: vs) (d :: ds)
end
section
variable {K : PySem.W.Frag} {F G : Addr → Prop} {H H' : Hp}
mutual
theorem df_dp : ∀ {v : V} {d : PyData}, Df K F H v d → Dp K H v d
  | _, _, .non => .non
  | _, _, .bl b => .bl b
  | _, _, .int i => .int i
  | _, _, .str x => .str x
  | _, _, .lst h r => .lst (h.imp (fun z => z.1) id) (dfs_dps r)
  | _, _, .tup h r => .tup h (dfs_dps r)
theorem dfs_dps : ∀ {vs : List V} {ds : List PyData}, DfAll K F H vs ds → DpAll K H vs ds
  | _, _, .nil => .nil
  | _, _, .cons h r => .cons (df_dp h) (dfs_dps r)
end
mutual
theorem dp_df : ∀ {v : V} {d : PyData}, Dp K H v d → Df K (fun a => H a ≠ none) H v d
  | _, _, .non => .non
  | _, _, .bl b => .bl b
  | _, _, .int i => .int i
  | _, _, .str x => .str x
  | _, _, .lst h r => .lst (h.imp (fun z => ⟨z, by rcases z with z | ⟨o, z⟩ <;> (rw [z]; exact fun q => nomatch q)⟩) id) (dps_dfs r)
  | _, _, .tup h r => .tup h (dps_dfs r)
theorem dps_dfs : ∀ {vs : List V} {ds : List PyData}, DpAll K H vs ds → DfAll K (fun a => H a ≠ none) H vs ds
  | _, _, .nil => .nil
  | _, _, .cons h r => .cons (dp_df h) (dps_dfs r)
end
mutual
theorem df_mono (e : Same H H') (f : ∀ a, F a → G a) : ∀ {v : V} {d : PyData}, Df K F H v d → Df K G H' v d
  | _, _, .non => .non
  | _, _, .bl b => .bl b
  | _, _, .int i => .int i
  | _, _, .str x => .str x
  | _, _, .lst h r => .lst (h.imp (fun z => ⟨e.rdA z.1, f _ z.2⟩) id) (dfs_mono e f r)
  | _, _, .tup h r => .tup (e.stA h) (dfs_mono e f r)
theorem dfs_mono (e : Same H H') (f : ∀ a, F a → G a) : ∀ {vs : List V} {ds : List PyData}, DfAll K F H vs ds → DfAll K G H' vs ds
  | _, _, .nil => .nil
  | _, _, .cons h r => .cons (df_mono e f h) (dfs_mono e f r)
end
theorem rd_other {a D : Addr} {u o : HO} (h : Rd H a u) (n : a ≠ D) : Rd (upd H D o) a u := by
  rcases h with h | ⟨x, h⟩
  · exact .inl (by rw [upd_ne n]; exact h)
  · exact .inr ⟨x, by rw [upd_ne n]; exact h⟩
mutual
/-- a list that the data does not hold is changed -/
theorem df_upd {D : Addr} {ys : List V} {o : HO} (hD : H D = some (.lst ys)) (nf : ¬ F D) : ∀ {v : V} {d : PyData}, Df K F H v d → Df K F (upd H D o) v d
  | _, _, .non => .non
  | _, _, .bl b => .bl b
  | _, _, .int i => .int i
  | _, _, .str x => .str x
  | _, _, .lst h r => .lst (h.imp (fun z => ⟨rd_other z.1 (fun q => nf (q ▸ z.2)), z.2⟩) id) (dfs_upd hD nf r)
  | _, _, .tup h r => .tup (h.imp (fun z => rd_other z (fun q => by
      subst q
      rcases z with z | ⟨x, z⟩ <;> (rw [hD] at z; cases z))) id) (dfs_upd hD nf r)
theorem dfs_upd {D : Addr} {ys : List V} {o : HO} (hD : H D = some (.lst ys)) (nf : ¬ F D) : ∀ {vs : List V} {ds : List PyData}, DfAll K F H vs ds → DfAll K F (upd H D o) vs ds
  | _, _, .nil => .nil
  | _, _, .cons h r => .cons (df_upd hD nf h) (dfs_upd hD nf r)
end
theorem dfs_len : ∀ {vs : List V} {ds : List PyData}, DfAll K F H vs ds → vs.length = ds.length
  | _, _, .nil => rfl
  | _, _, .cons _ r => by rw [List.length_cons, List.length_cons, dfs_len r]
theorem dfs_get : ∀ {vs : List V} {ds : List PyData} {i : Nat} {d : PyData}, DfAll K F H vs ds → ds[i]? = some d → ∃ v, vs[i]? = some v ∧ Df K F H v d
  | _, _, _, _, .nil, h => by simp at h
  | _, _, 0, _, .cons a r, h => by simp at h; subst h; exact ⟨_, rfl, a⟩
  | _, _, i + 1, _, .cons a r, h => by
    obtain ⟨v, e, q⟩ := dfs_get (i := i) r (by simpa using h)
    exact ⟨v, by simpa using e, q⟩
theorem dfs_get' : ∀ {vs : List V} {ds : List PyData} {i : Nat} {v : V}, DfAll K F H vs ds → vs[i]? = some v → ∃ d, ds[i]? = some d ∧ Df K F H v d
  | _, _, _, _, .nil, h => by simp at h
  | _, _, 0, _, .cons a r, h => by simp at h; subst h; exact ⟨_, rfl, a⟩
  | _, _, i + 1, _, .cons a r, h => by
    obtain ⟨d, e, q⟩ := dfs_get' (i := i) r (by simpa using h)
    exact ⟨d, by simpa using e, q⟩
theorem dfs_app : ∀ {vs us : List V} {ds es : List PyData}, DfAll K F H vs ds → DfAll K F H us es → DfAll K F H (vs ++ us) (ds ++ es)
  | _, _, _, _, .nil, q => q
  | _, _, _, _, .cons a r, q => .cons a (dfs_app r q)
theorem dfs_take : ∀ {vs : List V} {ds : List PyData} (n : Nat), DfAll K F H vs ds → DfAll K F H (vs.take n) (ds.take n)
  | _, _, 0, _ => .nil
  | _, _, _ + 1, .nil => .nil
  | _, _, n + 1, .cons a r => .cons a (dfs_take n r)
theorem dfs_drop : ∀ {vs : List V} {ds : List PyData} (n : Nat), DfAll K F H vs ds → DfAll K F H (vs.drop n) (ds.drop n)
  | _, _, 0, h => h
  | _, _, _ + 1, .nil => .nil
  | _, _, n + 1, .cons _ r => dfs_drop n r
theorem dfs_strs : ∀ (xs : List Str), DfAll K F H (xs.map V.str) (xs.map .str)
  | [] => .nil
  | x :: xs => .cons (.str x) (dfs_strs xs)
end
/-- what F allows, or is younger than H1 -/
def Fr (F : Addr → Prop) (H1 : Hp) : Addr → Prop := fun a => F a ∨ H1 a = none
theorem Fr.to {F : Addr → Prop} {H1 H2 : Hp} (s : Same H1 H2) : ∀ a, Fr F H2 a → Fr F H1 a := fun a z => z.imp id fun q => s.freshA q
theorem Fr.base {F : Addr → Prop} {H1 : Hp} : ∀ a, F a → Fr F H1 a := fun a z => .inl z
/-- what stands -/
def nn (H : Hp) : Addr → Prop := fun a => H a ≠ none
/-- all but lists that F does not allow are kept -/
def isLst : HO → Bool | .lst _ => true | _ => false
def SameF (F : Addr → Prop) (H H' : Hp) : Prop := ∀ a u, H a = some u → (F a ∨ isLst u = false) → H' a = some u
theorem SameF.refl {F : Addr → Prop} {H : Hp} : SameF F H H := fun _ _ h _ => h
theorem SameF.trans {F : Addr → Prop} {H H1 H2 : Hp} (a : SameF F H H1) (b : SameF F H1 H2) : SameF F H H2 := fun x u h z => b x u (a x u h z) z
theorem SameF.sub {F G : Addr → Prop} {H H1 : Hp} (a : SameF F H H1) (f : ∀ x, G x → F x) : SameF G H H1 := fun x u h z => a x u h (z.imp (f x) id)
theorem _root_.L2.Same.F {F : Addr → Prop} {H H1 : Hp} (a : Same H H1) : SameF F H H1 := fun x u h _ => a x u h
theorem SameF.upd {F : Addr → Prop} {H : Hp} {D : Addr} {ys : List V} {o : HO} (hD : H D = some (.lst ys)) (nf : ¬ F D) : SameF F H (upd H D o) := fun x u h z => by
  rw [upd_ne (fun q => ?_)]
  · exact h
  · subst q
    rw [hD] at h; cases h
    exact z.elim nf (fun q => nomatch q)
theorem rd_lstF {F : Addr → Prop} {H H1 : Hp} {a : Addr} {xs : List V} (s : SameF F H H1) (h : Rd H a (.lst xs)) (f : F a) : Rd H1 a (.lst xs) := h.elim (fun z => .inl (s _ _ z (.inl f))) fun ⟨o, z⟩ => .inr ⟨o, s _ _ z (.inl f)⟩
theorem sqt_F {K : PySem.W.Frag} {F : Addr → Prop} {H H1 : Hp} {a : Addr} {xs : List V} (s : SameF F H H1) (h : SqT K H a xs) : SqT K H1 a xs := h.imp (fun z => z.elim (fun z => .inl (s _ _ z (.inr rfl))) fun ⟨o, z⟩ => .inr ⟨o, s _ _ z (.inr rfl)⟩) id
mutual
theorem df_monoF {K : PySem.W.Frag} {F : Addr → Prop} {H H1 : Hp} (s : SameF F H H1) : ∀ {v : V} {d : PyData}, Df K F H v d → Df K F H1 v d
  | _, _, .non => .non
  | _, _, .bl b => .bl b
  | _, _, .int i => .int i
  | _, _, .str x => .str x
  | _, _, .lst h r => .lst (h.imp (fun z => ⟨rd_lstF s z.1 z.2, z.2⟩) id) (dfs_monoF s r)
  | _, _, .tup h r => .tup (sqt_F s h) (dfs_monoF s r)
theorem dfs_monoF {K : PySem.W.Frag} {F : Addr → Prop} {H H1 : Hp} (s : SameF F H H1) : ∀ {vs : List V} {ds : List PyData}, DfAll K F H vs ds → DfAll K F H1 vs ds
  | _, _, .nil => .nil
  | _, _, .cons h r => .cons (df_monoF s h) (dfs_monoF s r)
end
/-- a later heap, whose lists allow what stood -/
structure Ext (F : Addr → Prop) (H : Hp) (F2 : Addr → Prop) (H2 : Hp) : Prop where
  same : SameF F H H2
  ok : ∀ a, F a → H a ≠ none → F2 a
theorem Ext.refl {F : Addr → Prop} {H : Hp} : Ext F H F H := ⟨SameF.refl, fun _ h _ => h⟩
mutual
theorem df_in {K : PySem.W.Frag} {F : Addr → Prop} {H : Hp} : ∀ {v : V} {d : PyData}, Df K F H v d → Df K (fun a => F a ∧ H a ≠ none) H v d
  | _, _, .non => .non
  | _, _, .bl b => .bl b
  | _, _, .int i => .int i
  | _, _, .str x => .str x
  | _, _, .lst h r => .lst (h.imp (fun z => ⟨z.1, z.2, by rcases z.1 with z | ⟨o, z⟩ <;> (rw [z]; exact fun q => nomatch q)⟩) id) (dfs_in r)
  | _, _, .tup h r => .tup h (dfs_in r)
theorem dfs_in {K : PySem.W.Frag} {F : Addr → Prop} {H : Hp} : ∀ {vs : List V} {ds : List PyData}, DfAll K F H vs ds → DfAll K (fun a => F a ∧ H a ≠ none) H vs ds
  | _, _, .nil => .nil
  | _, _, .cons h r => .cons (df_in h) (dfs_in r)
end
theorem df_ext {K : PySem.W.Frag} {F F2 : Addr → Prop} {H H2 : Hp} {v : V} {d : PyData} (e : Ext F H F2 H2) (h : Df K F H v d) : Df K F2 H2 v d := df_mono (Same.refl _) (fun a z => e.ok a z.1 z.2) (df_monoF (e.same.sub fun _ z => z.1) (df_in h))
theorem dfs_ext {K : PySem.W.Frag} {F F2 : Addr → Prop} {H H2 : Hp} {v : List V} {d : List PyData} (e : Ext F H F2 H2) (h : DfAll K F H v d) : DfAll K F2 H2 v d := dfs_mono (Same.refl _) (fun a z => e.ok a z.1 z.2) (dfs_monoF (e.same.sub fun _ z => z.1) (dfs_in h))

theorem small5 {n : Nat} (h : n ≤ 100000) : n ≤ sizeLine := Nat.le_trans h (by decide)
theorem lt5 {n : Nat} (h : n < 100000) : n < sizeLine := Nat.lt_of_lt_of_le h (by decide)

/-! ### what evaluates to what, the heap growing -/
def ED (K : PySem.W.Frag) (te : TE) (σ : L2.St) (F : Addr → Prop) (H : Hp) (d : PyData) : Prop := ∀ H1, Same H H1 → ∀ Q : VK, (∀ v H2, Same H1 H2 → Df K (Fr F H1) H2 v d → Q v H2) → te σ H1 Q
def ET (tt : TT) (σ : L2.St) (H : Hp) (b : Bool) : Prop := ∀ H1, Same H H1 → ∀ Q : Bool → Hp → Prop, (∀ H2, Same H1 H2 → Q b H2) → tt σ H1 Q
def EA (K : PySem.W.Frag) (ta : TA) (σ : L2.St) (F : Addr → Prop) (H : Hp) (ds : List PyData) : Prop := ∀ H1, Same H H1 → ∀ Q : List V → Hp → Prop, (∀ vs H2, Same H1 H2 → DfAll K (Fr F H1) H2 vs ds → Q vs H2) → ta σ H1 Q
def EO (to : TO) (σ : L2.St) (H : Hp) (o : Option Int) : Prop := ∀ H1, Same H H1 → ∀ Q : Option Int → Hp → Prop, (∀ H2, Same H1 H2 → Q o H2) → to σ H1 Q

section
variable {K : PySem.W.Frag} {σ : L2.St} {F : Addr → Prop} {H H' : Hp} {ta tb te tc : TE} {t u : TT} {d e : PyData}
theorem ED.mono (s : Same H H') (h : ED K te σ F H d) : ED K te σ F H' d := fun H1 a Q q => h H1 (s.trans a) Q q
theorem ET.mono {b : Bool} (s : Same H H') (h : ET t σ H b) : ET t σ H' b := fun H1 a Q q => h H1 (s.trans a) Q q
theorem ed_var {i : Nat} {v : V} (h : σ[i]? = some (some v)) (hd : Df K F H v d) : ED K (tVar i) σ F H d := fun H1 s Q q => ⟨v, h, q v H1 (Same.refl _) (df_mono s Fr.base hd)⟩
theorem ed_c {v : V} (hd : ∀ F H, Df K F H v d) : ED K (tC v) σ F H d := fun H1 _ _ q => q v H1 (Same.refl _) (hd _ H1)
theorem ed_int {i : Int} : ED K (tC (.int i)) σ F H (.int i) := ed_c fun _ _ => .int i
theorem ed_str {x : Str} : ED K (tC (.str x)) σ F H (.str x) := ed_c fun _ _ => .str x
theorem ed_bl {b : Bool} : ED K (tC (.bl b)) σ F H (.bool b) := ed_c fun _ _ => .bl b
theorem ed_non : ED K (tC .non) σ F H .none := ed_c fun _ _ => .non
theorem ea_nil : EA K tNil σ F H [] := fun H1 _ _ q => q [] H1 (Same.refl _) .nil
theorem ea_cons {tr : TA} {ds : List PyData} (h : ED K te σ F H d) (r : EA K tr σ F H ds) : EA K (tCons te tr) σ F H (d :: ds) := fun H1 s Q q =>
  h H1 s _ fun v H2 s2 hv => r H2 (s.trans s2) _ fun vs H3 s3 hvs => q (v :: vs) H3 (s2.trans s3) (.cons (df_mono s3 (fun _ z => z) hv) (dfs_mono (Same.refl _) (Fr.to s2) hvs))
theorem ed_tup {ta : TA} {ds : List PyData} (h : EA K ta σ F H ds) (hl : ds.length ≤ 100000) : ED K (tTup ta) σ F H (.tuple ds) := fun H1 s Q q =>
  h H1 s _ fun vs H2 s2 hv => ⟨by rw [dfs_len hv]; exact small5 hl, fun p hp => q _ _ (s2.trans (Same.newA hp)) (.tup (.of upd_same) (dfs_mono (Same.newA hp) (fun _ z => z) hv))⟩
theorem ed_lst {ta : TA} {ds : List PyData} (h : EA K ta σ F H ds) (hl : ds.length ≤ 100000) : ED K (tLst ta) σ F H (.list ds) := fun H1 s Q q =>
  h H1 s _ fun vs H2 s2 hv => ⟨by rw [dfs_len hv]; exact small5 hl, fun p hp => q _ _ (s2.trans (Same.newA hp)) (.lst (.inl ⟨.inl upd_same, .inr (s2.freshA hp)⟩) (dfs_mono (Same.newA hp) (fun _ z => z) hv))⟩

/-- an operation of two values, read by its rule -/
def RD (K : PySem.W.Frag) (r : R2) (d e f : PyData) : Prop := ∀ (F : Addr → Prop) x y H1, Df K F H1 x d → Df K F H1 y e → ∀ Q : VK, (∀ v H2, Same H1 H2 → Df K (fun a => F a ∨ H1 a = none) H2 v f → Q v H2) → r x y H1 Q
theorem ed_op {r : R2} {f : PyData} (ha : ED K ta σ F H d) (hb : ED K tb σ F H e) (hr : RD K r d e f) : ED K (tOp r ta tb) σ F H f := fun H1 s Q q =>
  ha H1 s _ fun x H2 s2 hx => hb H2 (s.trans s2) _ fun y H3 s3 hy => hr (Fr F H1) x y H3 (df_mono s3 (fun _ z => z) hx) (df_mono (Same.refl _) (Fr.to s2) hy) Q fun v H4 s4 hv =>
    q v H4 ((s2.trans s3).trans s4) (df_mono (Same.refl _) (fun _ z => z.elim id fun e => .inr ((s2.trans s3).freshA e)) hv)
theorem rd_int {C : Int → Int → Prop} {g : Int → Int → Int} {i j : Int} (hc : C i j) : RD K (rI C fun i j => .int (g i j)) (.int i) (.int j) (.int (g i j)) := fun F x y H1 hx hy Q q => by
  cases hx; cases hy; exact ⟨i, j, rfl, rfl, hc, q _ _ (Same.refl _) (.int _)⟩
theorem rd_int0 {g : Int → Int → Int} {i j : Int} : RD K (rI0 fun i j => .int (g i j)) (.int i) (.int j) (.int (g i j)) := fun F x y H1 hx hy Q q => by
  cases hx; cases hy; exact ⟨i, j, rfl, rfl, q _ _ (Same.refl _) (.int _)⟩
theorem rd_cmp {g : Int → Int → Bool} {i j : Int} : RD K (rI0 fun i j => .bl (g i j)) (.int i) (.int j) (.bool (g i j)) := fun F x y H1 hx hy Q q => by
  cases hx; cases hy; exact ⟨i, j, rfl, rfl, q _ _ (Same.refl _) (.bl _)⟩
theorem ed_add {i j : Int} (ha : ED K ta σ F H (.int i)) (hb : ED K tb σ F H (.int j)) : ED K (tOp (rI0 fun i j => .int (i + j)) ta tb) σ F H (.int (i + j)) := ed_op ha hb rd_int0
theorem ed_sub {i j : Int} (ha : ED K ta σ F H (.int i)) (hb : ED K tb σ F H (.int j)) : ED K (tOp (rI0 fun i j => .int (i - j)) ta tb) σ F H (.int (i - j)) := ed_op ha hb rd_int0
theorem ed_lt {i j : Int} (ha : ED K ta σ F H (.int i)) (hb : ED K tb σ F H (.int j)) : ED K (tOp (rI0 fun i j => .bl (decide (i < j))) ta tb) σ F H (.bool (decide (i < j))) := ed_op ha hb rd_cmp
theorem ed_le {i j : Int} (ha : ED K ta σ F H (.int i)) (hb : ED K tb σ F H (.int j)) : ED K (tOp (rI0 fun i j => .bl (decide (i ≤ j))) ta tb) σ F H (.bool (decide (i ≤ j))) := ed_op ha hb rd_cmp
theorem ed_gt {i j : Int} (ha : ED K ta σ F H (.int i)) (hb : ED K tb σ F H (.int j)) : ED K (tOp (rI0 fun i j => .bl (decide (j < i))) ta tb) σ F H (.bool (decide (j < i))) := ed_op ha hb rd_cmp
theorem ed_ge {i j : Int} (ha : ED K ta σ F H (.int i)) (hb : ED K tb σ F H (.int j)) : ED K (tOp (rI0 fun i j => .bl (decide (j ≤ i))) ta tb) σ F H (.bool (decide (j ≤ i))) := ed_op ha hb rd_cmp
theorem ed_eqD (ha : ED K ta σ F H d) (hb : ED K tb σ F H e) (h1 : SeqAt.shaped d = true) (h2 : SeqAt.shaped e = true) : ED K (tOp (rEqD K) ta tb) σ F H (.bool (PyData.eqv d e)) :=
  ed_op ha hb fun F x y H1 hx hy Q q => ⟨d, e, df_dp hx, df_dp hy, h1, h2, q _ _ (Same.refl _) (.bl _)⟩
theorem ed_neD (ha : ED K ta σ F H d) (hb : ED K tb σ F H e) (h1 : SeqAt.shaped d = true) (h2 : SeqAt.shaped e = true) : ED K (tOp (rNeD K) ta tb) σ F H (.bool (!PyData.eqv d e)) :=
  ed_op ha hb fun F x y H1 hx hy Q q => ⟨d, e, df_dp hx, df_dp hy, h1, h2, q _ _ (Same.refl _) (.bl _)⟩
theorem ed_eqS {x y : Str} (ha : ED K ta σ F H (.str x)) (hb : ED K tb σ F H (.str y)) : ED K (tOp rEq ta tb) σ F H (.bool (decide (x = y))) :=
  ed_op ha hb fun F a b H1 hx hy Q q => by
    cases hx; cases hy
    refine ⟨rfl, ?_⟩
    have e : decide (V.str x = V.str y) = decide (x = y) := by
      by_cases z : x = y
      · rw [decide_eq_true z, decide_eq_true (congrArg V.str z)]
      · rw [decide_eq_false z, decide_eq_false (fun q => z (V.str.inj q))]
    rw [e]; exact q _ _ (Same.refl _) (.bl _)
theorem ed_eqI {x y : Int} (ha : ED K ta σ F H (.int x)) (hb : ED K tb σ F H (.int y)) : ED K (tOp rEq ta tb) σ F H (.bool (decide (x = y))) :=
  ed_op ha hb fun F a b H1 hx hy Q q => by
    cases hx; cases hy
    refine ⟨rfl, ?_⟩
    have e : decide (V.int x = V.int y) = decide (x = y) := by
      by_cases z : x = y
      · rw [decide_eq_true z, decide_eq_true (congrArg V.int z)]
      · rw [decide_eq_false z, decide_eq_false (fun q => z (V.int.inj q))]
    rw [e]; exact q _ _ (Same.refl _) (.bl _)
theorem ed_neS {x y : Str} (ha : ED K ta σ F H (.str x)) (hb : ED K tb σ F H (.str y)) : ED K (tOp rNe ta tb) σ F H (.bool (!decide (x = y))) :=
  ed_op ha hb fun F a b H1 hx hy Q q => by
    cases hx; cases hy
    refine ⟨rfl, ?_⟩
    have e : decide (V.str x = V.str y) = decide (x = y) := by
      by_cases z : x = y
      · rw [decide_eq_true z, decide_eq_true (congrArg V.str z)]
      · rw [decide_eq_false z, decide_eq_false (fun q => z (V.str.inj q))]
    rw [e]; exact q _ _ (Same.refl _) (.bl _)
theorem ed_neI {x y : Int} (ha : ED K ta σ F H (.int x)) (hb : ED K tb σ F H (.int y)) : ED K (tOp rNe ta tb) σ F H (.bool (!decide (x = y))) :=
  ed_op ha hb fun F a b H1 hx hy Q q => by
    cases hx; cases hy
    refine ⟨rfl, ?_⟩
    have e : decide (V.int x = V.int y) = decide (x = y) := by
      by_cases z : x = y
      · rw [decide_eq_true z, decide_eq_true (congrArg V.int z)]
      · rw [decide_eq_false z, decide_eq_false (fun q => z (V.int.inj q))]
    rw [e]; exact q _ _ (Same.refl _) (.bl _)
theorem ed_catS {x y : Str} (ha : ED K ta σ F H (.str x)) (hb : ED K tb σ F H (.str y)) (hl : x.length + y.length ≤ 100000) :
    ED K (tOp (fun x y H Q => ∃ i j, x = .str i ∧ y = .str j ∧ i.length + j.length ≤ sizeLine ∧ Q (.str (i ++ j)) H) ta tb) σ F H (.str (x ++ y)) :=
  ed_op ha hb fun F a b H1 hx hy Q q => by
    cases hx; cases hy; exact ⟨x, y, rfl, rfl, small5 hl, q _ _ (Same.refl _) (.str _)⟩
/-- x is None -/
def isNone : PyData → Bool | .none => true | _ => false
theorem isN_of {F : Addr → Prop} {H : Hp} {x : V} (h : Df K F H x d) : decide (x = .non) = isNone d := by cases h <;> rfl
theorem ed_isN (ha : ED K ta σ F H d) : ED K (tOp (fun x y H Q => y = .non ∧ Q (.bl (decide (x = .non))) H) ta (tC .non)) σ F H (.bool (isNone d)) :=
  ed_op ha ed_non fun F a b H1 hx hy Q q => by
    cases hy; refine ⟨rfl, ?_⟩; rw [isN_of hx]; exact q _ _ (Same.refl _) (.bl _)
/-- a written item of a list, a tuple, a text -/
theorem ed_ixT {ds : List PyData} {j : Nat} (ha : ED K ta σ F H (.tuple ds)) (hb : ED K tb σ F H (.int j)) (h : ds[j]? = some d) : ED K (tOp (rIx K) ta tb) σ F H d :=
  ed_op ha hb fun F a b H1 hx hy Q q => by
    cases hy
    cases hx with
    | tup hs r =>
      obtain ⟨v, e, hv⟩ := dfs_get r h
      exact .inr (.inl ⟨_, _, _, v, rfl, rfl, hs, atI_nat e, q _ _ (Same.refl _) (df_mono (Same.refl _) (fun _ z => .inl z) hv)⟩)
theorem ed_ixL {ds : List PyData} {j : Nat} (ha : ED K ta σ F H (.list ds)) (hb : ED K tb σ F H (.int j)) (h : ds[j]? = some d) : ED K (tOp (rIx K) ta tb) σ F H d :=
  ed_op ha hb fun F a b H1 hx hy Q q => by
    cases hy
    cases hx with
    | lst hs r =>
      obtain ⟨v, e, hv⟩ := dfs_get r h
      exact .inl ⟨_, _, _, v, rfl, rfl, hs.imp (fun z => z.1) id, atI_nat e, q _ _ (Same.refl _) (df_mono (Same.refl _) (fun _ z => .inl z) hv)⟩
theorem ed_ixS {x : Str} {j c : Nat} (ha : ED K ta σ F H (.str x)) (hb : ED K tb σ F H (.int j)) (hl : x.length ≤ 100000) (h : x.cps.toList[j]? = some c) : ED K (tOp (rIx K) ta tb) σ F H (.str ⟨#[c]⟩) :=
  ed_op ha hb fun F a b H1 hx hy Q q => by
    cases hy; cases hx
    exact .inr (.inr ⟨_, _, c, rfl, rfl, small5 hl, atI_nat h, q _ _ (Same.refl _) (.str _)⟩)

/-! ### tests -/
theorem et_test {b : Bool} (h : ED K te σ F H (.bool b)) : ET (tTest te) σ H b := fun H1 s Q q => h H1 s _ fun v H2 s2 hv => by
  cases hv; exact ⟨b, rfl, q H2 s2⟩
theorem et_B {b : Bool} (h : ED K te σ F H (.bool b)) : ET (tB te) σ H b := fun H1 s Q q => h H1 s _ fun v H2 s2 hv => by
  cases hv; exact ⟨b, rfl, q H2 s2⟩
theorem et_and {a b : Bool} (h1 : ET t σ H a) (h2 : a = true → ET u σ H b) : ET (tAnd t u) σ H (a && b) := fun H1 s Q q => h1 H1 s _ fun H2 s2 => by
  cases a with
  | true => exact h2 rfl H2 (s.trans s2) Q fun H3 s3 => q H3 (s2.trans s3)
  | false => exact q H2 s2
theorem et_or {a b : Bool} (h1 : ET t σ H a) (h2 : a = false → ET u σ H b) : ET (tOr t u) σ H (a || b) := fun H1 s Q q => h1 H1 s _ fun H2 s2 => by
  cases a with
  | true => exact q H2 s2
  | false => exact h2 rfl H2 (s.trans s2) Q fun H3 s3 => q H3 (s2.trans s3)
theorem et_not {a : Bool} (h1 : ET t σ H a) : ET (tNot t) σ H (!a) := fun H1 s Q q => h1 H1 s _ fun H2 s2 => q H2 s2
theorem et_is {a b : Bool} (h : ET t σ H a) (e : a = b) : ET t σ H b := e ▸ h
theorem ed_is (h : ED K te σ F H d) (z : d = e) : ED K te σ F H e := z ▸ h
theorem ed_andV {a b : Bool} (h1 : ED K ta σ F H (.bool a)) (h2 : a = true → ED K tb σ F H (.bool b)) : ED K (tAndV ta tb) σ F H (.bool (a && b)) := fun H1 s Q q => h1 H1 s _ fun v H2 s2 hv => by
  cases hv
  refine ⟨a, rfl, ?_⟩
  cases a with
  | true => exact h2 rfl H2 (s.trans s2) Q fun v H3 s3 hv => q v H3 (s2.trans s3) (df_mono (Same.refl _) (Fr.to s2) hv)
  | false => exact q _ H2 s2 (.bl _)
theorem ed_orV {a b : Bool} (h1 : ED K ta σ F H (.bool a)) (h2 : a = false → ED K tb σ F H (.bool b)) : ED K (tOrV ta tb) σ F H (.bool (a || b)) := fun H1 s Q q => h1 H1 s _ fun v H2 s2 hv => by
  cases hv
  refine ⟨a, rfl, ?_⟩
  cases a with
  | true => exact q _ H2 s2 (.bl _)
  | false => exact h2 rfl H2 (s.trans s2) Q fun v H3 s3 hv => q v H3 (s2.trans s3) (df_mono (Same.refl _) (Fr.to s2) hv)
theorem ed_notV {a : Bool} (h1 : ED K ta σ F H (.bool a)) : ED K (tNotV ta) σ F H (.bool (!a)) := fun H1 s Q q => h1 H1 s _ fun v H2 s2 hv => by
  cases hv; exact ⟨a, rfl, q _ H2 s2 (.bl _)⟩
theorem ed_if {b : Bool} (h : ET t σ H b) (h1 : b = true → ED K ta σ F H d) (h2 : b = false → ED K tb σ F H d) : ED K (tIf t ta tb) σ F H d := fun H1 s Q q => h H1 s _ fun H2 s2 => by
  cases b with
  | true => exact h1 rfl H2 (s.trans s2) Q fun v H3 s3 hv => q v H3 (s2.trans s3) (df_mono (Same.refl _) (Fr.to s2) hv)
  | false => exact h2 rfl H2 (s.trans s2) Q fun v H3 s3 hv => q v H3 (s2.trans s3) (df_mono (Same.refl _) (Fr.to s2) hv)
theorem ed_chain {r r' : R2} {a b : Bool} {f : PyData} (ha : ED K ta σ F H d) (hb : ED K tb σ F H e) (hc : ED K tc σ F H f) (h1 : RD K r d e (.bool a)) (h2 : a = true → RD K r' e f (.bool b)) :
    ED K (tChain r r' ta tb tc) σ F H (.bool (a && b)) := fun H1 s Q q =>
  ha H1 s _ fun x H2 s2 hx => hb H2 (s.trans s2) _ fun y H3 s3 hy => h1 (fun _ => True) x y H3 (df_mono s3 (fun _ _ => trivial) hx) (df_mono (Same.refl _) (fun _ _ => trivial) hy) _ fun z H4 s4 hz => by
    cases hz
    refine ⟨a, rfl, ?_⟩
    cases a with
    | true =>
      refine hc H4 (((s.trans s2).trans s3).trans s4) _ fun w H5 s5 hw => h2 rfl (fun _ => True) y w H5 (df_mono (s4.trans s5) (fun _ _ => trivial) hy) (df_mono (Same.refl _) (fun _ _ => trivial) hw) Q fun v H6 s6 hv => ?_
      cases hv
      exact q _ H6 ((((s2.trans s3).trans s4).trans s5).trans s6) (.bl _)
    | false => exact q _ H4 ((s2.trans s3).trans s4) (.bl _)

/-! ### built-in calls -/
def RDC (K : PySem.W.Frag) (r : List V → Hp → VK → Prop) (ds : List PyData) (f : PyData) : Prop := ∀ (F : Addr → Prop) vs H1, DfAll K F H1 vs ds → ∀ Q : VK, (∀ v H2, Same H1 H2 → Df K (fun a => F a ∨ H1 a = none) H2 v f → Q v H2) → r vs H1 Q
theorem ed_cb {r : List V → Hp → VK → Prop} {ta : TA} {ds : List PyData} (h : EA K ta σ F H ds) (hr : RDC K r ds d) : ED K (tCB r ta) σ F H d := fun H1 s Q q =>
  h H1 s _ fun vs H2 s2 hv => hr (Fr F H1) vs H2 hv Q fun v H3 s3 hv3 => q v H3 (s2.trans s3) (df_mono (Same.refl _) (fun _ z => z.elim id fun e => .inr (s2.freshA e)) hv3)
theorem ed_call {sp : Sp} {E : XK} {ta : TA} {ds : List PyData} (h : EA K ta σ F H ds) (hr : RDC K (fun vs H Q => sp vs H Q E) ds d) : ED K (tCall sp [] E ta) σ F H d := fun H1 s Q q =>
  h H1 s _ fun vs H2 s2 hv => by
    show sp (vs ++ []) H2 Q E
    rw [List.append_nil]
    exact hr (Fr F H1) vs H2 hv Q fun v H3 s3 hv3 => q v H3 (s2.trans s3) (df_mono (Same.refl _) (fun _ z => z.elim id fun e => .inr (s2.freshA e)) hv3)
/-- len of data -/
def lenP : PyData → Nat | .list ds => ds.length | .tuple ds => ds.length | .str x => x.length | _ => 0
def hasLen : PyData → Bool | .list _ => true | .tuple _ => true | .str x => decide (x.length ≤ 100000) | _ => false
theorem rdc_len (h : hasLen d = true) : RDC K (fun xs H Q => ∃ x n, xs = [x] ∧ LenV K x H n ∧ Q (.int n) H) [d] (.int (lenP d : Int)) := fun F vs H1 hv Q q => by
  cases hv with
  | cons a r =>
    cases r
    refine ⟨_, lenP d, rfl, ?_, q _ _ (Same.refl _) (.int _)⟩
    cases a with
    | lst hs r => exact .inl ⟨_, hs.imp (fun z => z.1) id, (dfs_len r).symm⟩
    | tup hs r => exact .inr ⟨_, hs, (dfs_len r).symm⟩
    | str x => exact ⟨small5 (of_decide_eq_true h), rfl⟩
    | _ => cases h
theorem ed_len (ha : ED K ta σ F H d) (h : hasLen d = true) : ED K (tCB (fun xs H Q => ∃ x n, xs = [x] ∧ LenV K x H n ∧ Q (.int n) H) (tCons ta tNil)) σ F H (.int (lenP d : Int)) := ed_cb (ea_cons ha ea_nil) (rdc_len h)
/-- isinstance of data -/
def tyName : PyData → String | .none => "NoneType" | .bool _ => "bool" | .int _ => "int" | .str _ => "str" | .list _ => "list" | .tuple _ => "tuple" | .dict _ => "dict"
theorem tyx_of {H : Hp} {x : V} (h : Dp K H x d) : TyX K H x (.type (tyName d)) := by
  cases h with
  | non => exact .base .non
  | bl b => exact .base (.bl b)
  | int i => exact .base (.int i)
  | str x => exact .base (.str x)
  | lst hs r =>
    rcases hs with (h | ⟨o, h⟩) | ⟨o, its, n, hk, hc, _⟩
    · exact .base (.lst h)
    · exact .base (.frz h)
    · exact .kList hk hc
  | tup hs r =>
    rcases hs with (h | ⟨o, h⟩) | ⟨o, its, n, hk, hc, _⟩
    · exact .base (.tup h)
    · exact .fTuple h
    · exact .kTuple hk hc
def isiB (T : String) : PyData → Bool
  | .none => false | .bool _ => T == "bool" || T == "int" | .int _ => T == "int" | .str _ => T == "str" | .list _ => T == "list" | .tuple _ => T == "tuple" | .dict _ => T == "dict"
theorem kit_all {T : String} (hT : T = "str" ∨ T = "tuple" ∨ T = "list" ∨ T = "int" ∨ T = "bool") {H : Hp} {x : V} (h : Dp K H x d) : PySem.W.kitOne K (.type (tyName d)) (.type T) = some (isiB T d) := by
  rcases hT with rfl | rfl | rfl | rfl | rfl
  · cases h with
    | non => exact kit_ty (show kitB "NoneType" "str" = some false by decide +kernel)
    | bl b => exact kit_ty (show kitB "bool" "str" = some false by decide +kernel)
    | int i => exact kit_ty (show kitB "int" "str" = some false by decide +kernel)
    | str x => exact kit_ty (show kitB "str" "str" = some true by decide +kernel)
    | lst hs r => exact kit_ty (show kitB "list" "str" = some false by decide +kernel)
    | tup hs r => exact kit_ty (show kitB "tuple" "str" = some false by decide +kernel)
  · cases h with
    | non => exact kit_ty (show kitB "NoneType" "tuple" = some false by decide +kernel)
    | bl b => exact kit_ty (show kitB "bool" "tuple" = some false by decide +kernel)
    | int i => exact kit_ty (show kitB "int" "tuple" = some false by decide +kernel)
    | str x => exact kit_ty (show kitB "str" "tuple" = some false by decide +kernel)
    | lst hs r => exact kit_ty (show kitB "list" "tuple" = some false by decide +kernel)
    | tup hs r => exact kit_ty (show kitB "tuple" "tuple" = some true by decide +kernel)
  · cases h with
    | non => exact kit_ty (show kitB "NoneType" "list" = some false by decide +kernel)
    | bl b => exact kit_ty (show kitB "bool" "list" = some false by decide +kernel)
    | int i => exact kit_ty (show kitB "int" "list" = some false by decide +kernel)
    | str x => exact kit_ty (show kitB "str" "list" = some false by decide +kernel)
    | lst hs r => exact kit_ty (show kitB "list" "list" = some true by decide +kernel)
    | tup hs r => exact kit_ty (show kitB "tuple" "list" = some false by decide +kernel)
  · cases h with
    | non => exact kit_ty (show kitB "NoneType" "int" = some false by decide +kernel)
    | bl b => exact kit_ty (show kitB "bool" "int" = some true by decide +kernel)
    | int i => exact kit_ty (show kitB "int" "int" = some true by decide +kernel)
    | str x => exact kit_ty (show kitB "str" "int" = some false by decide +kernel)
    | lst hs r => exact kit_ty (show kitB "list" "int" = some false by decide +kernel)
    | tup hs r => exact kit_ty (show kitB "tuple" "int" = some false by decide +kernel)
  · cases h with
    | non => exact kit_ty (show kitB "NoneType" "bool" = some false by decide +kernel)
    | bl b => exact kit_ty (show kitB "bool" "bool" = some true by decide +kernel)
    | int i => exact kit_ty (show kitB "int" "bool" = some false by decide +kernel)
    | str x => exact kit_ty (show kitB "str" "bool" = some false by decide +kernel)
    | lst hs r => exact kit_ty (show kitB "list" "bool" = some false by decide +kernel)
    | tup hs r => exact kit_ty (show kitB "tuple" "bool" = some false by decide +kernel)
theorem ed_isi {T : String} (ha : ED K ta σ F H d) (hT : T = "str" ∨ T = "tuple" ∨ T = "list" ∨ T = "int" ∨ T = "bool") : ED K (tCB (rIsi K) (tCons ta (tCons (tC (.ty T)) tNil))) σ F H (.bool (isiB T d)) := fun H1 s Q q =>
  ha H1 s _ fun x H2 s2 hx => ⟨x, .ty T, _, _, _, rfl, .ty T, tyx_of (df_dp hx), kit_all hT (df_dp hx), q _ _ s2 (.bl _)⟩
/-- all, any of bools -/
theorem ed_all {bs : List Bool} (ha : ED K ta σ F H (.list (bs.map .bool))) : ED K (tCB (rAll K) (tCons ta tNil)) σ F H (.bool (bs.all id)) := ed_cb (ea_cons ha ea_nil) fun F vs H1 hv Q q => by
  cases hv with
  | cons a r =>
    cases r
    cases a with
    | lst hs r => rw [bls_dps (dfs_dps r)] at hs; exact ⟨_, bs, rfl, hs.imp (fun z => z.1) id, q _ _ (Same.refl _) (.bl _)⟩
theorem ed_sum {ns : List Int} (ha : ED K ta σ F H (.list (ns.map .int))) : ED K (tCB (rSum K) (tCons ta tNil)) σ F H (.int ns.sum) := ed_cb (ea_cons ha ea_nil) fun F vs H1 hv Q q => by
  cases hv with
  | cons a r =>
    cases r
    cases a with
    | lst hs r => rw [ints_dps (dfs_dps r)] at hs; exact ⟨_, ns, rfl, hs.imp (fun z => z.1) id, q _ _ (Same.refl _) (.int _)⟩
/-- tuple(xs), list(xs) -/
def seqOf : PyData → List PyData | .list ds => ds | .tuple ds => ds | _ => []
def isSeq : PyData → Bool | .list _ => true | .tuple _ => true | _ => false
theorem ed_tupleOf (ha : ED K ta σ F H d) (h : isSeq d = true) : ED K (tCB (fun xs H Q => ∃ p ys, xs = [.ref p] ∧ ((SqL K H p ys ∧ ∀ l, H l = none → Q (.ref l) (upd H l (.tup ys))) ∨ (SqT K H p ys ∧ Q (.ref p) H))) (tCons ta tNil)) σ F H (.tuple (seqOf d)) := ed_cb (ea_cons ha ea_nil) fun F vs H1 hv Q q => by
  cases hv with
  | cons a r =>
    cases r
    cases a with
    | lst hs r => exact ⟨_, _, rfl, .inl ⟨hs.imp (fun z => z.1) id, fun l hl => q _ _ (Same.newA hl) (.tup (.of upd_same) (dfs_mono (Same.newA hl) (fun _ z => .inl z) r))⟩⟩
    | tup hs r => exact ⟨_, _, rfl, .inr ⟨hs, q _ _ (Same.refl _) (.tup hs (dfs_mono (Same.refl _) (fun _ z => .inl z) r))⟩⟩
    | _ => cases h
theorem ed_listOf (ha : ED K ta σ F H d) (h : isSeq d = true) : ED K (tCB (fun xs H Q => ∃ p ys, xs = [.ref p] ∧ (SqL K H p ys ∨ SqT K H p ys) ∧ ∀ l, H l = none → Q (.ref l) (upd H l (.lst ys))) (tCons ta tNil)) σ F H (.list (seqOf d)) := ed_cb (ea_cons ha ea_nil) fun F vs H1 hv Q q => by
  cases hv with
  | cons a r =>
    cases r
    cases a with
    | lst hs r => exact ⟨_, _, rfl, .inl (hs.imp (fun z => z.1) id), fun l hl => q _ _ (Same.newA hl) (.lst (.inl ⟨.inl upd_same, .inr hl⟩) (dfs_mono (Same.newA hl) (fun _ z => .inl z) r))⟩
    | tup hs r => exact ⟨_, _, rfl, .inr hs, fun l hl => q _ _ (Same.newA hl) (.lst (.inl ⟨.inl upd_same, .inr hl⟩) (dfs_mono (Same.newA hl) (fun _ z => .inl z) r))⟩
    | _ => cases h
end
end Ag

set_option Elab.async false
set_option linter.all false
set_option maxRecDepth 100000
set_option maxHeartbeats 1000000
/-! The pen: a dict of five written keys; what a draw leaves. -/
namespace Ag
open PySem PySem.Spec PyProof.Rows L2

abbrev ck (s : Str) : Key := Sum.inr s
def penKV (c : Addr) (at_ dig cnt fold : Int) : List (Key × V) :=
  [(ck "cells", .ref c), (ck "at", .int at_), (ck "digits", .int dig), (ck "count", .int cnt), (ck "fold", .int fold)]
theorem kn1 : ¬ ck "cells" = ck "at" := by decide +kernel
theorem kn2 : ¬ ck "cells" = ck "digits" := by decide +kernel
theorem kn3 : ¬ ck "cells" = ck "count" := by decide +kernel
theorem kn4 : ¬ ck "cells" = ck "fold" := by decide +kernel
theorem kn5 : ¬ ck "at" = ck "digits" := by decide +kernel
theorem kn6 : ¬ ck "at" = ck "count" := by decide +kernel
theorem kn7 : ¬ ck "at" = ck "fold" := by decide +kernel
theorem kn8 : ¬ ck "digits" = ck "count" := by decide +kernel
theorem kn9 : ¬ ck "digits" = ck "fold" := by decide +kernel
theorem kn0 : ¬ ck "count" = ck "fold" := by decide +kernel
theorem sn_cells_at : ¬ Str.ofString "cells" = Str.ofString "at" := by decide +kernel
theorem sn_cells_digits : ¬ Str.ofString "cells" = Str.ofString "digits" := by decide +kernel
theorem sn_cells_count : ¬ Str.ofString "cells" = Str.ofString "count" := by decide +kernel
theorem sn_cells_fold : ¬ Str.ofString "cells" = Str.ofString "fold" := by decide +kernel
theorem sn_at_cells : ¬ Str.ofString "at" = Str.ofString "cells" := by decide +kernel
theorem sn_at_digits : ¬ Str.ofString "at" = Str.ofString "digits" := by decide +kernel
theorem sn_at_count : ¬ Str.ofString "at" = Str.ofString "count" := by decide +kernel
theorem sn_at_fold : ¬ Str.ofString "at" = Str.ofString "fold" := by decide +kernel
theorem sn_digits_cells : ¬ Str.ofString "digits" = Str.ofString "cells" := by decide +kernel
theorem sn_digits_at : ¬ Str.ofString "digits" = Str.ofString "at" := by decide +kernel
theorem sn_digits_count : ¬ Str.ofString "digits" = Str.ofString "count" := by decide +kernel
theorem sn_digits_fold : ¬ Str.ofString "digits" = Str.ofString "fold" := by decide +kernel
theorem sn_count_cells : ¬ Str.ofString "count" = Str.ofString "cells" := by decide +kernel
theorem sn_count_at : ¬ Str.ofString "count" = Str.ofString "at" := by decide +kernel
theorem sn_count_digits : ¬ Str.ofString "count" = Str.ofString "digits" := by decide +kernel
theorem sn_count_fold : ¬ Str.ofString "count" = Str.ofString "fold" := by decide +kernel
theorem sn_fold_cells : ¬ Str.ofString "fold" = Str.ofString "cells" := by decide +kernel
theorem sn_fold_at : ¬ Str.ofString "fold" = Str.ofString "at" := by decide +kernel
theorem sn_fold_digits : ¬ Str.ofString "fold" = Str.ofString "digits" := by decide +kernel
theorem sn_fold_count : ¬ Str.ofString "fold" = Str.ofString "count" := by decide +kernel
section
variable {c : Addr} {a d n f x : Int}
theorem pen_cells : valV (penKV c a d n f) (ck "cells") = some (.ref c) := valV_pos rfl
theorem pen_at : valV (penKV c a d n f) (ck "at") = some (.int a) := by unfold penKV; rw [valV_neg kn1]; exact valV_pos rfl
theorem pen_dig : valV (penKV c a d n f) (ck "digits") = some (.int d) := by unfold penKV; rw [valV_neg kn2, valV_neg kn5]; exact valV_pos rfl
theorem pen_cnt : valV (penKV c a d n f) (ck "count") = some (.int n) := by unfold penKV; rw [valV_neg kn3, valV_neg kn6, valV_neg kn8]; exact valV_pos rfl
theorem pen_fold : valV (penKV c a d n f) (ck "fold") = some (.int f) := by unfold penKV; rw [valV_neg kn4, valV_neg kn7, valV_neg kn9, valV_neg kn0]; exact valV_pos rfl
theorem put_at : putK (penKV c a d n f) (ck "at") (.int x) = penKV c x d n f := by
  unfold putK; rw [valV_any, pen_at]
  simp [penKV, ck, sn_cells_at, sn_cells_digits, sn_cells_count, sn_cells_fold, sn_at_cells, sn_at_digits, sn_at_count, sn_at_fold, sn_digits_cells, sn_digits_at, sn_digits_count, sn_digits_fold, sn_count_cells, sn_count_at, sn_count_digits, sn_count_fold, sn_fold_cells, sn_fold_at, sn_fold_digits, sn_fold_count]
theorem put_dig : putK (penKV c a d n f) (ck "digits") (.int x) = penKV c a x n f := by
  unfold putK; rw [valV_any, pen_dig]
  simp [penKV, ck, sn_cells_at, sn_cells_digits, sn_cells_count, sn_cells_fold, sn_at_cells, sn_at_digits, sn_at_count, sn_at_fold, sn_digits_cells, sn_digits_at, sn_digits_count, sn_digits_fold, sn_count_cells, sn_count_at, sn_count_digits, sn_count_fold, sn_fold_cells, sn_fold_at, sn_fold_digits, sn_fold_count]
theorem put_cnt : putK (penKV c a d n f) (ck "count") (.int x) = penKV c a d x f := by
  unfold putK; rw [valV_any, pen_cnt]
  simp [penKV, ck, sn_cells_at, sn_cells_digits, sn_cells_count, sn_cells_fold, sn_at_cells, sn_at_digits, sn_at_count, sn_at_fold, sn_digits_cells, sn_digits_at, sn_digits_count, sn_digits_fold, sn_count_cells, sn_count_at, sn_count_digits, sn_count_fold, sn_fold_cells, sn_fold_at, sn_fold_digits, sn_fold_count]
theorem put_fold : putK (penKV c a d n f) (ck "fold") (.int x) = penKV c a d n x := by
  unfold putK; rw [valV_any, pen_fold]
  simp [penKV, ck, sn_cells_at, sn_cells_digits, sn_cells_count, sn_cells_fold, sn_at_cells, sn_at_digits, sn_at_count, sn_at_fold, sn_digits_cells, sn_digits_at, sn_digits_count, sn_digits_fold, sn_count_cells, sn_count_at, sn_count_digits, sn_count_fold, sn_fold_cells, sn_fold_at, sn_fold_digits, sn_fold_count]
end
/-- the pen at p, its cells at c; n bounds how often it has been drawn -/
def Pen (p c : Addr) (n : Nat) (H : Hp) : Prop :=
  ∃ (cells : List Int) (a d k f : Int), H p = some (.dK (penKV c a d k f)) ∧ Rd H c (.lst (cells.map V.int)) ∧ 0 ≤ a ∧ 0 ≤ d ∧ 0 ≤ k ∧ k ≤ n ∧ 0 ≤ f ∧ f < 2147483648
/-- all but the pen is kept -/
def But (p : Addr) (H H' : Hp) : Prop := ∀ a o, a ≠ p → H a = some o → H' a = some o
theorem But.refl (p : Addr) (H : Hp) : But p H H := fun _ _ _ h => h
theorem But.trans {p : Addr} {H H1 H2 : Hp} (a : But p H H1) (b : But p H1 H2) : But p H H2 := fun x o n h => b x o n (a x o n h)
theorem But.of {p : Addr} {H H1 : Hp} (a : Same H H1) : But p H H1 := fun x o _ h => a x o h
theorem But.free {p a : Addr} {H H1 : Hp} (b : But p H H1) (h : H1 a = none) (n : a ≠ p) : H a = none := by
  cases q : H a with
  | none => rfl
  | some o => rw [b a o n q] at h; cases h
section
variable {K : PySem.W.Frag} {p c : Addr} {n : Nat} {H H' : Hp}
theorem Pen.ne {a : Addr} {o : HO} (h : Pen p c n H) (e : H a = some o) (no : ∀ kvs, o ≠ .dK kvs) : a ≠ p := by
  obtain ⟨cells, a', d, k, f, hp, _⟩ := h
  exact ne_of e hp (no _)
theorem Pen.rd {a : Addr} {u : HO} (h : Pen p c n H) (b : But p H H') (r : Rd H a u) (no : ∀ kvs, u ≠ .dK kvs) : Rd H' a u := by
  rcases r with r | ⟨o, r⟩
  · exact .inl (b _ _ (h.ne r no) r)
  · exact .inr ⟨o, b _ _ (h.ne r (fun _ z => nomatch z)) r⟩
theorem Pen.sl {a : Addr} {xs : List V} (h : Pen p c n H) (b : But p H H') (r : SqL K H a xs) : SqL K H' a xs := r.imp (fun z => h.rd b z (fun _ z => nomatch z)) id
theorem Pen.st {a : Addr} {xs : List V} (h : Pen p c n H) (b : But p H H') (r : SqT K H a xs) : SqT K H' a xs := r.imp (fun z => h.rd b z (fun _ z => nomatch z)) id
mutual
theorem Pen.dp (h : Pen p c n H) (b : But p H H') : ∀ {v : V} {d : PyData}, Dp K H v d → Dp K H' v d
  | _, _, .non => .non
  | _, _, .bl b => .bl b
  | _, _, .int i => .int i
  | _, _, .str x => .str x
  | _, _, .lst q r => .lst (h.sl b q) (Pen.dps h b r)
  | _, _, .tup q r => .tup (h.st b q) (Pen.dps h b r)
theorem Pen.dps (h : Pen p c n H) (b : But p H H') : ∀ {vs : List V} {ds : List PyData}, DpAll K H vs ds → DpAll K H' vs ds
  | _, _, .nil => .nil
  | _, _, .cons q r => .cons (Pen.dp h b q) (Pen.dps h b r)
end
theorem Pen.same (h : Pen p c n H) (s : Same H H') : Pen p c n H' := by
  obtain ⟨cells, a, d, k, f, hp, hc, r⟩ := h
  exact ⟨cells, a, d, k, f, s _ _ hp, s.rdA hc, r⟩
theorem Pen.more {m : Nat} (h : Pen p c n H) (l : n ≤ m) : Pen p c m H := by
  obtain ⟨cells, a, d, k, f, hp, hc, h1, h2, h3, h4, r⟩ := h
  exact ⟨cells, a, d, k, f, hp, hc, h1, h2, h3, Int.le_trans h4 (by omega), r⟩
theorem Pen.some_p (h : Pen p c n H) : ∃ o, H p = some o := by
  obtain ⟨cells, a, d, k, f, hp, _⟩ := h; exact ⟨_, hp⟩
theorem Pen.some_c (h : Pen p c n H) : ∃ o, H c = some o := by
  obtain ⟨cells, a, d, k, f, hp, hc, _⟩ := h
  rcases hc with hc | ⟨o, hc⟩ <;> exact ⟨_, hc⟩
/-- an own object is changed or made: the pen stands -/
theorem Pen.upd {l : Addr} {o : HO} (h : Pen p c n H) (h1 : l ≠ p) (h2 : l ≠ c) : Pen p c n (L2.upd H l o) := by
  obtain ⟨cells, a, d, k, f, hp, hc, r⟩ := h
  refine ⟨cells, a, d, k, f, by rw [upd_ne (Ne.symm h1)]; exact hp, ?_, r⟩
  rcases hc with hc | ⟨o, hc⟩
  · exact .inl (by rw [upd_ne (Ne.symm h2)]; exact hc)
  · exact .inr ⟨o, by rw [upd_ne (Ne.symm h2)]; exact hc⟩
theorem Pen.ne_p {l : Addr} (h : Pen p c n H) (hl : H l = none) : l ≠ p := by
  obtain ⟨o, e⟩ := h.some_p
  exact Ne.symm (ne_of_none e hl)
theorem Pen.ne_c {l : Addr} (h : Pen p c n H) (hl : H l = none) : l ≠ c := by
  obtain ⟨o, e⟩ := h.some_c
  exact Ne.symm (ne_of_none e hl)
end

section
variable {H : Hp} {p c : Addr} {a d n f x : Int}
theorem pg_cells (h : H p = some (.dK (penKV c a d n f))) : DGet H p (.str "cells") (some (.ref c)) := by
  have q := DGet.k (k := ck "cells") h
  rw [pen_cells] at q; exact q
theorem pg_at (h : H p = some (.dK (penKV c a d n f))) : DGet H p (.str "at") (some (.int a)) := by
  have q := DGet.k (k := ck "at") h
  rw [pen_at] at q; exact q
theorem pg_dig (h : H p = some (.dK (penKV c a d n f))) : DGet H p (.str "digits") (some (.int d)) := by
  have q := DGet.k (k := ck "digits") h
  rw [pen_dig] at q; exact q
theorem pg_cnt (h : H p = some (.dK (penKV c a d n f))) : DGet H p (.str "count") (some (.int n)) := by
  have q := DGet.k (k := ck "count") h
  rw [pen_cnt] at q; exact q
theorem pg_fold (h : H p = some (.dK (penKV c a d n f))) : DGet H p (.str "fold") (some (.int f)) := by
  have q := DGet.k (k := ck "fold") h
  rw [pen_fold] at q; exact q
theorem pp_at (h : H p = some (.dK (penKV c a d n f))) : DPut H p (.str "at") (.int x) (upd H p (.dK (penKV c x d n f))) := by
  have q := DPut.k (k := ck "at") (v := .int x) h (by show 5 < sizeLine; decide)
  rw [put_at] at q; exact q
theorem pp_dig (h : H p = some (.dK (penKV c a d n f))) : DPut H p (.str "digits") (.int x) (upd H p (.dK (penKV c a x n f))) := by
  have q := DPut.k (k := ck "digits") (v := .int x) h (by show 5 < sizeLine; decide)
  rw [put_dig] at q; exact q
theorem pp_cnt (h : H p = some (.dK (penKV c a d n f))) : DPut H p (.str "count") (.int x) (upd H p (.dK (penKV c a d x f))) := by
  have q := DPut.k (k := ck "count") (v := .int x) h (by show 5 < sizeLine; decide)
  rw [put_cnt] at q; exact q
theorem pp_fold (h : H p = some (.dK (penKV c a d n f))) : DPut H p (.str "fold") (.int x) (upd H p (.dK (penKV c a d n x))) := by
  have q := DPut.k (k := ck "fold") (v := .int x) h (by show 5 < sizeLine; decide)
  rw [put_fold] at q; exact q
end
/-- the promise of a draw -/
def spDraw : Sp := fun vs H Q _ => ∃ (p c : Addr) (many : Int) (n : Nat), vs = [.ref p, .int many] ∧ Pen p c n H ∧ 0 < many ∧ many < 1000000 ∧ n < 1000000000000 ∧
  ∀ (d : Int) H', 0 ≤ d → d < many → But p H H' → Pen p c (n + 1) H' → Q (.int d) H'
end Ag

set_option Elab.async false
set_option linter.all false
set_option maxRecDepth 100000
set_option maxHeartbeats 1000000
/-! The end of a law row, the law run at the caller's very surroundings (so that nothing is being shown there), with tables of code objects. -/
namespace Ag
open PySem PySem.Spec PyProof.Rows L2 LamX
def emptyT : Obj := { cls := .none, data := .fields #[] }
/-- what is tracked ahead of the law: the script, unless it is written, and the tables -/
def lawH (a : Addr) (tabs : List Addr) (o : Obj) (xs : List V) (wr : Bool) : Hp := fun b => if b ∈ tabs then some (.tbl #[]) else if b = a ∧ wr = false then some (.frz o (.lst xs)) else none
section
variable {a b : Addr} {tabs : List Addr} {o : Obj} {xs : List V} {wr : Bool} {u : HO}
theorem lawH_tab (h : b ∈ tabs) : lawH a tabs o xs wr b = some (.tbl #[]) := if_pos h
theorem lawH_at (h : a ∉ tabs) : lawH a tabs o xs false a = some (.frz o (.lst xs)) := by
  unfold lawH; rw [if_neg h, if_pos ⟨rfl, rfl⟩]
theorem lawH_cases (h : lawH a tabs o xs wr b = some u) : (b ∈ tabs ∧ u = .tbl #[]) ∨ (b = a ∧ wr = false ∧ b ∉ tabs ∧ u = .frz o (.lst xs)) := by
  unfold lawH at h
  by_cases h1 : b ∈ tabs
  · rw [if_pos h1] at h; cases h; exact .inl ⟨h1, rfl⟩
  · rw [if_neg h1] at h
    by_cases h2 : b = a ∧ wr = false
    · rw [if_pos h2] at h; cases h; exact .inr ⟨h2.1, h2.2, h1, rfl⟩
    · rw [if_neg h2] at h; cases h
theorem lawH_none (h : lawH a tabs o xs wr b = none) : b ∉ tabs := fun z => by rw [lawH_tab z] at h; cases h
end
/-- the law's call: F tells what it does over a heap in which just the script and the tables are tracked -/
theorem law_callG {P : Program} {w : World} {K : PySem.W.Frag} {mg mb : Str → Option Value} {fa a : Addr} {cs : List (Addr × Addr)} {s₁ : Shared} {vs : List Value} {ns : List Int}
    (KX : K.In s₁.heap) (hns : s₁.heap.Ns mainGlobals mg) (hb : s₁.heap.Ns builtinsNs mb) (hbb : ∀ x : Str, x ≠ "__name__" → mb x = bootBuiltins x) (hlim : s₁.heap.NoLimit) (hg : s₁.gens = #[])
    (hT : ∀ p ∈ cs, s₁.heap.get? p.2 = some emptyT) (nT : ∀ p ∈ cs, K.lookup p.2 = none) (C : ∀ p ∈ cs, PySem.W.CodeHd s₁.heap p.1 p.2)
    (hbm : ∃ (bm : Addr) (ob : Obj), mg "__builtins__" = some (.ref bm) ∧ bm ≠ builtinsNs ∧ s₁.heap.get? bm = some ob ∧ ob.cls = .type "module" ∧ ob.dict = some builtinsNs ∧ ob.data = .plain)
    (ha : s₁.heap.get? a = some { cls := .type "list", data := .seq vs.toArray }) (hi : IntsAre vs ns) (hl : ns.length ≤ sizeLine)
    (F : ∀ (base : Heap) (H : Hp), K.In base → base.Ns mainGlobals mg → (∀ p ∈ cs, TabB base mg p.1 p.2) → (∀ p ∈ cs, H p.2 = some (.tbl #[])) → SqL K H a (ns.map V.int) → Env0 P w K mg base callerA [] s₁ H →
      codeAny (model P w) callerA (.call (.ref fa) ⟨[.ref a], []⟩) (CR CX0 [] P w H s₁ (fun v _ => v = .bl true) fun _ _ _ => False) s₁) :
    codeAny (model P w) callerA (.call (.ref fa) ⟨[.ref a], []⟩) (fun r s' => r = .ok (.ret (.bool true)) ∧ OldK s₁.heap s'.heap ∧ s'.os = s₁.os ∧ AllBare s'.gens) s₁ := by
  let sc : Obj := { cls := .type "list", data := .seq vs.toArray }
  let tabs := cs.map Prod.snd
  let wr : Bool := (K.lookup a).isSome
  let H : Hp := lawH a tabs sc (ns.map V.int) wr
  have tget : ∀ b ∈ tabs, s₁.heap.get? b = some emptyT := fun b hb => by
    obtain ⟨p, hp, rfl⟩ := List.mem_map.mp hb; exact hT p hp
  have tmem : ∀ p ∈ cs, p.2 ∈ tabs := fun p hp => List.mem_map_of_mem hp
  have na : a ∉ tabs := fun z => by
    have q := tget a z
    rw [ha] at q
    have := congrArg Obj.data (Option.some.inj q)
    exact nomatch this
  have nk : ∀ b ∈ tabs, K.lookup b = none := fun b hb => by
    obtain ⟨p, hp, rfl⟩ := List.mem_map.mp hb; exact nT p hp
  -- an object that is neither a list nor fields is not tracked
  have free : ∀ {b : Addr} {o : Obj}, s₁.heap.get? b = some o → (∀ z n, o.data ≠ .seq z n) → o.data ≠ .fields #[] → H b = none := fun {b o} e n1 n2 => by
    cases q : H b with
    | none => rfl
    | some u =>
      rcases lawH_cases q with ⟨m, _⟩ | ⟨m, _, _, _⟩
      · rw [tget b m] at e; cases e; exact absurd rfl n2
      · subst m; rw [ha] at e; cases e; exact absurd rfl (n1 _ _)
  have baseG : ∀ {b : Addr} {o : Obj}, s₁.heap.get? b = some o → (∀ z n, o.data ≠ .seq z n) → o.data ≠ .fields #[] → (hidT s₁.heap H).get? b = some o := fun e n1 n2 => hidT_get e (free e n1 n2)
  have nsB : ∀ {b : Addr} {m : Str → Option Value}, s₁.heap.Ns b m → (hidT s₁.heap H).Ns b m := fun ⟨o, es, ep, e, d, r⟩ =>
    ⟨o, es, ep, baseG e (fun z n q => by rw [d] at q; exact nomatch q) (fun q => by rw [d] at q; exact nomatch q), d, r⟩
  have kB : K.In (hidT s₁.heap H) := fun b o e => hidT_get (KX b o e) (by
    cases q : H b with
    | none => rfl
    | some u =>
      rcases lawH_cases q with ⟨m, _⟩ | ⟨m, wf, _, _⟩
      · rw [nk b m] at e; cases e
      · subst m
        have wf : (K.lookup b).isSome = false := wf
        rw [e] at wf; cases wf)
  have mod : L2.Mod K mg (hidT s₁.heap H) := ⟨kB, nsB hns, ⟨mb, nsB hb, hbb⟩, let ⟨mc, h1, h2⟩ := hlim; ⟨mc, nsB h1, h2⟩⟩
  have tb : ∀ p ∈ cs, TabB (hidT s₁.heap H) mg p.1 p.2 := fun p hp => by
    have hp2 := hT p hp
    obtain ⟨bm, ob, b1, b2, b3, b4, b5, b6⟩ := hbm
    refine ⟨?_, ⟨bm, ob, b1, b2, fun q => ?_, fun q => ?_, baseG b3 (fun z n q => by rw [b6] at q; exact nomatch q) (fun q => by rw [b6] at q; exact nomatch q), b4, b5, b6⟩, fun q => ?_⟩
    · obtain ⟨o, us, file, tf, flags, tg, inF, text, tt, e1, r1, r2, r3, rest⟩ := C p hp
      exact ⟨o, us, file, tf, flags, tg, inF, text, tt, baseG e1 (fun z n q => by rw [r2] at q; exact nomatch q) (fun q => by
        rw [r2] at q
        have q := Data.fields.inj q
        subst q; simp at r3), r1, r2, r3, rest⟩
    · obtain ⟨o, es, ep, e, d, _⟩ := hns
      rw [q, e] at b3; cases b3; rw [d] at b6; exact nomatch b6
    · rw [q, hp2] at b3; cases b3; exact nomatch b6
    · obtain ⟨o, es, ep, e, d, _⟩ := hns
      rw [q, hp2] at e; cases e; exact nomatch d
  have hok : HOk P w H s₁.heap := fun b u q => by
    rcases lawH_cases q with ⟨m, rfl⟩ | ⟨rfl, _, _, rfl⟩
    · exact tget b m
    · exact ⟨ha, by rw [List.length_map]; exact hl, vs, 0, vals_ints hi, ha⟩
  have e0 : Env0 P w K mg (hidT s₁.heap H) callerA [] s₁ H := ⟨rfl, mod, fun b o e => of_hidT e, Nat.le_of_eq (hidT_size _ _), trivial, fun b z => (nomatch z), hok, .of_eq hg⟩
  have sq : SqL K H a (ns.map V.int) := by
    cases q : K.lookup a with
    | none =>
      have wf : wr = false := by show (K.lookup a).isSome = false; rw [q]; rfl
      refine .inl (.inr ⟨sc, ?_⟩)
      show lawH a tabs sc (ns.map V.int) wr a = _
      rw [wf]; exact lawH_at na
    | some o =>
      have e := KX a o q
      rw [ha] at e; cases e
      exact .inr ⟨_, vs.toArray, _, q, rfl, rfl, rfl, by rw [List.size_toArray, hi.length]; exact hl, vals_ints hi⟩
  refine codeAny_mono (F _ H kB (nsB hns) tb (fun p hp => lawH_tab (tmem p hp)) sq e0) fun r s' h => ?_
  cases r with
  | error e => exact (show False from h).elim
  | ok fl =>
    cases fl with
    | ret u =>
      obtain ⟨v, H', os, bare, un, hok', rv, q⟩ := h
      cases (show v = V.bl true from q)
      obtain rfl : u = Value.bool true := rv
      have grown : ∀ b ∈ tabs, ∃ more : Array Value, s'.heap.get? b = some { cls := .none, data := .fields more } := fun b hb => by
        obtain ⟨more, z⟩ := un.tbls b #[] (lawH_tab hb)
        exact ⟨_, hok' b _ z⟩
      have kept : ∀ b o, b ∉ tabs → s₁.heap.get? b = some o → s'.heap.get? b = some o := fun b o nb e => by
        cases q : H b with
        | none => exact un.keep b o e q (fun z => nomatch z) (fun z => nomatch z)
        | some u =>
          rcases lawH_cases q with ⟨m, _⟩ | ⟨m, _, _, hu⟩
          · exact absurd m nb
          · subst m; subst hu
            have e2 := (hok' b _ (un.frzs b sc _ q)).1
            rw [ha] at e; cases e; exact e2
      refine ⟨rfl, ⟨fun b o e => ?_, fun b o e => ?_⟩, os, bare⟩
      · by_cases hb : b ∈ tabs
        · obtain ⟨p, hp, rfl⟩ := List.mem_map.mp hb
          obtain ⟨more, hm⟩ := grown _ hb
          rw [hT p hp] at e; cases e
          exact .inr (.inl ⟨((C p hp).tab (hT p hp)).isCodeTable, rfl, #[], more, rfl, by rw [Array.empty_append]; exact hm⟩)
        · exact .inl (kept b o hb e)
      · by_cases hb : b ∈ tabs
        · obtain ⟨more, hm⟩ := grown b hb; exact ⟨_, hm⟩
        · exact ⟨o, kept b o hb e⟩
    | next => exact False.elim h
    | brk => exact False.elim h
    | cont => exact False.elim h
/-- what is known of the law at the head's heap -/
def LawG (l : PySem.W.OpenLaw) (w : World) (K : PySem.W.Frag) (n : Nat) (mg : Str → Option Value) (fa : Addr) (s : Shared) : Prop :=
  ∃ cs : List (Addr × Addr), (∀ p ∈ cs, s.heap.get? p.2 = some emptyT) ∧ (∀ p ∈ cs, K.lookup p.2 = none) ∧ (∀ p ∈ cs, PySem.W.CodeHd s.heap p.1 p.2) ∧
    ∀ (a : Addr) (ns : List Int) (base : Heap) (H : Hp), ns.length ≤ n → (∀ z ∈ ns, Builtin.Int.intBits z ≤ 1048576) → K.In base → base.Ns mainGlobals mg → (∀ p ∈ cs, TabB base mg p.1 p.2) → (∀ p ∈ cs, H p.2 = some (.tbl #[])) → SqL K H a (ns.map V.int) → Env0 l.prog w K mg base callerA [] s H →
      codeAny (model l.prog w) callerA (.call (.ref fa) ⟨[.ref a], []⟩) (CR CX0 [] l.prog w H s (fun v _ => v = .bl true) fun _ _ _ => False) s
theorem walk_G {l : PySem.W.OpenLaw} {n : Nat} {q : Program} {loose : List Str} {XP : (Str → Option Value) → Heap → Prop} {YP : World → Heap → Prop} {d : DefRec} {K : Params → PySem.W.Frag}
    (hn : l.most = some n) (hn2 : n ≤ sizeLine) (hdf : d.params.defaults = []) (hY : ∀ (w : World) (h : Heap), YP w h → (K w.params).In h)
    (F : ∀ (w : World) (mg mb : Str → Option Value) (fa : Addr) (s : Shared) (mean : ExcName → Option Value), PyProof.Rows.Top q (PySem.W.looseW q loose) mean mg mb s.heap → (K w.params).In s.heap → mg d.name = some (.ref fa) → LawG l w (K w.params) n mg fa s) :
    PySem.W.WalkO q loose XP YP l.row.toRowW d [] (fun f vs => PySem.call f vs) := by
  refine Att.attach_callB hn hdf fun w s₀ s₁ mg mb fa o pm cd doc a vs ns G Y ho hd hcd hmg hobj hints hlen hbits hg => ?_
  have KX := hY w _ Y
  obtain ⟨cs, hT, nT, C, hF⟩ := F w mg mb fa s₁ _ G.T KX hmg
  exact law_callG KX G.T.g G.T.b G.T.builtins G.T.nolimit hg hT nT C G.T.bmain hobj hints (Nat.le_trans hlen hn2) fun base H h1 h2 h3 h4 h5 h6 => hF a ns base H hlen hbits h1 h2 h3 h4 h5 h6
end Ag

set_option Elab.async false
set_option linter.all false
set_option maxRecDepth 100000
set_option maxHeartbeats 2000000
/-! try with several clauses, each of which binds what it catches to a name. -/
namespace Ag
open PySem PySem.Spec PyProof.Rows L2
/-- a clause: the class, the slot of its name, and its suite's reading -/
structure Clause where
  cls : Value
  slot : Nat
  ts : Addr → Value → Option Addr → TS
/-- the ends of a suite whose name is unbound behind it -/
def endsU (i : Nat) (D : Ends) : Ends := ⟨fun σ H => D.nx (σ.set i none) H, D.rt, fun σ H => D.bk (σ.set i none) H, fun σ H => D.ct (σ.set i none) H⟩
def wNamed (K : PySem.W.Frag) (n : Nat) (Wout : WX) (D : Ends) : List Clause → WX
  | [] => Wout
  | q :: r => fun c d σ H => ∃ b, PySem.W.exmOne K c q.cls = some b ∧ (b = true → σ.length = n → ∀ a, H a = none → q.ts a c d (endsU q.slot D) (σ.set q.slot (some (.ref a))) H) ∧ (b = false → wNamed K n Wout D r c d σ H)
inductive ClausesOk (X : Cx) : List ExceptHandler → List Clause → Prop
  | nil : ClausesOk X [] []
  | cons {x n : Str} {q : Clause} {b₀ : Stmt} {suite : List Stmt} {np hp : Pos} {hds : List ExceptHandler} {l : List Clause} (names : Names X x q.cls) (hi : X.N[q.slot]? = some n) (loc : X.env.kindOf n = some .local)
      (run : ∀ (a : Addr) (oe : Obj) (c : Value) (d : Option Addr) (pn : List (Addr × Obj)), Zc c d oe → (∃ vs, oe.data = .fields vs) → PSs (X.suite a ((a, oe) :: pn)) (b₀ :: suite) (q.ts a c d)) (rest : ClausesOk X hds l) :
      ClausesOk X (.ExceptHandler (some (.Name x np)) (some n) (b₀ :: suite) hp :: hds) (q :: l)
section
variable {X : Cx} {body : List Stmt} {h₀ : ExceptHandler} {hds : List ExceptHandler} {l : List Clause} {pos : Pos} {tb : WX → TS} {Wout : WX}
theorem ps_try_named (stk : X.stack = X.env :: X.outer) (frm : X.env.frame = some X.env.locals) (nd : X.N.Nodup) (out : Takes X Wout)
    (hb : ∀ (W : WX) (pn : List (Addr × Obj)) (xe : Value → Shared → Prop), Takes (X.tr pn xe) W → PassesOwn (model X.prog X.w) X.A X.env xe → PSs (X.tr pn xe) body (tb W))
    (hh : ClausesOk X (h₀ :: hds) l) : PS X (.Try body (h₀ :: hds) [] [] pos) (fun D σ H => tb (wNamed X.K X.N.length Wout D l) D σ H) := by
  refine ⟨fun pins s σ H D I h => wpAny_Try_except ?_⟩
  have ok := I.ok
  have fr : X.A.frames = some (X.env :: X.outer) := by rw [ok.frames, stk]
  have caught : ∀ (u : Value) (s' : Shared), XE (X.tr (X.pn ++ pins) fun e z => wpAny (model X.prog X.w) X.A (noteFrame e X.env) (fun _ z2 => wpAny (model X.prog X.w) X.A (setFlight e none) (fun _ z3 =>
      wpAny (model X.prog X.w) X.A (handleBy e X.env (h₀ :: hds)) (SP X pins D) X.xe z3) X.xe z2) X.xe z) (wNamed X.K X.N.length Wout D l) u s' →
      wpAny (model X.prog X.w) X.A (noteFrame u X.env) (fun _ z2 => wpAny (model X.prog X.w) X.A (setFlight u none) (fun _ z3 => wpAny (model X.prog X.w) X.A (handleBy u X.env (h₀ :: hds)) (SP X pins D) X.xe z3) X.xe z2) X.xe s' := by
    rintro u s' ⟨a, B, sI, pins', σ1, H1, c, d, rfl, J0, nb, up, sky, na, os, ag, w⟩
    have J : Inv X pins σ1 H1 sI := J0.ofTry ok
    refine Sky.land Zc.steady fr frm (show Sky B (X.env :: X.outer) a (Zc c d) X.env.locals s'.heap by rw [← stk]; exact sky) fun g1 fl1 u1 => ?_
    have J1 : Inv X pins σ1 H1 { s' with heap := g1 } := J.landed nb fl1.1 (up.trans u1) os ag
    obtain ⟨o1, vs1, e1, z1, d1⟩ := fl1.there
    have nfr : a ∉ frs (X.env :: X.outer) := fun hm => by
      obtain ⟨_, o2, e2, no⟩ := fl1.2.2.1.mem hm
      rw [e1] at e2; cases e2
      exact no _ d1
    have nL : a ≠ X.env.locals := fun z => nfr (List.mem_filterMap.mpr ⟨X.env, .head _, by rw [frm, z]⟩)
    have nF : a ∉ X.fs := fun hm => by
      obtain ⟨e, he, q⟩ := List.mem_filterMap.mp hm
      exact nfr (List.mem_filterMap.mpr ⟨e, .tail _ he, q⟩)
    have S1 := J1.suite e1 d1 na nL nF
    have go : ∀ {hs : List ExceptHandler} {ls : List Clause}, ClausesOk X hs ls → wNamed X.K X.N.length Wout D ls c d σ1 H1 → wpAny (model X.prog X.w) X.A (handleBy (.ref a) X.env hs) (SP X pins D) X.xe { s' with heap := g1 } := by
      intro hs ls hk
      induction hk with
      | nil =>
        intro w
        refine wpAny_handleBy_nil ?_
        obtain ⟨_, _, _, o2, vs2, T, oT, ts2, e2, z2, d2, t1, _⟩ := id fl1
        unfold PySem.passOn
        refine wpAny_bind (wpAny_field e2 d2 t1 ?_)
        rw [if_neg (show ¬ (Value.ref T == Value.none) = true from fun z => nomatch z)]
        have last : wpAny (model X.prog X.w) X.A (setFlight (.ref a) X.env.frame) (fun _ z4 => wpAny (model X.prog X.w) X.A (throw (.ref a) : Sem Flow) (SP X pins D) X.xe z4) X.xe { s' with heap := g1 } := by
          rw [frm]
          exact HandSPX.setFlight_upZ fl1 fun g2 h2 u2 => wpAny_throw (out _ _ ⟨a, B, sI, pins, σ1, H1, c, d, rfl, J, nb, (up.trans u1).trans u2, .inr (.inr (by rw [stk]; exact h2)), na, os, ag, w⟩)
        first
          | exact wpAny_bind (wpAny_pure (wpAny_bind last))
          | exact wpAny_bind last
      | @cons x n q b₀ suite np hp hds2 l2 names hi loc run rest ih =>
        rintro ⟨b, hb1, yes, no⟩
        refine wpAny_handleBy_cons (codeAny_handlers_test ?_) (fun z => nomatch z)
        have looks : PySem.W.Looks (model X.prog X.w) g1 (typeOf (.ref a)) c := fun A Q E s k z => wpAny_typeOf_ref (k _ _ e1) (by rw [z1.1]; exact z)
        have tst : ∀ {Q : Value → Shared → Prop} {E : Value → Shared → Prop}, Q q.cls { s' with heap := g1 } → wpAny (model X.prog X.w) (X.A.mark (some (.ref a))) (eval (.Name x np) X.env) Q E { s' with heap := g1 } := fun z => by
          obtain ⟨hg, hdb, hm | ⟨hm, hv, hnn⟩⟩ := names
          · exact ld_glob (X := X.suite a ((a, o1) :: (X.pn ++ pins))) S1 hg hm z hdb
          · exact ld_blt (X := X.suite a ((a, o1) :: (X.pn ++ pins))) S1 hg hm hv z hnn hdb
        refine tst ((PySem.W.exm_one (M := model X.prog X.w) J1.kIn looks hb1).here ?_)
        cases b with
        | false =>
          show wpAny _ X.A (handleBy (.ref a) X.env hds2) _ _ _
          exact ih (no rfl)
        | true =>
          refine codeAny_handlers_suite_as (HandSPX.lands_againZ fl1 fun g2 fl2 u2 => ?_)
          have J2 : Inv X pins σ1 H1 { s' with heap := g2 } := J.landed nb fl2.1 ((up.trans u1).trans u2) os ag
          obtain ⟨o2, vs2, e2, z2, d2⟩ := fl2.there
          refine store_ok (X := X.suite a ((a, o2) :: (X.pn ++ pins))) (v := .ref a) (J2.suite e2 d2 na nL nF) nd hi (show Loc X.env.scope n from .inl loc) rfl (fun s5 S5 => ?_) (.inr loc)
          refine wpAny_mono ((run a o2 c d (X.pn ++ pins) z2 ⟨_, d2⟩).run [] s5 _ H1 _ S5 (yes rfl J2.len a na)) (fun f s6 r6 => ?_) (fun _ _ z => False.elim z)
          have fin : ∀ {σ6 : L2.St} {H6 : Hp} {R : Shared → Prop}, Inv (X.suite a ((a, o2) :: (X.pn ++ pins))) [] σ6 H6 s6 → (∀ s7, Inv X pins (σ6.set q.slot none) H6 s7 → R s7) →
              wpAny (model X.prog X.w) X.A (do bindName X.env n .none; unbindBehindTheSuite X.env n hp) (fun _ s7 => R s7) X.xe s6 := fun S6 r => gone_ok (S6.unsuite ok) nd hi loc r
          cases f with
          | next => obtain ⟨σ6, H6, S6, q6⟩ := r6; exact fin S6 fun s7 J7 => ⟨_, _, J7, q6⟩
          | brk => obtain ⟨σ6, H6, S6, q6⟩ := r6; exact fin S6 fun s7 J7 => ⟨_, _, J7, q6⟩
          | cont => obtain ⟨σ6, H6, S6, q6⟩ := r6; exact fin S6 fun s7 J7 => ⟨_, _, J7, q6⟩
          | ret u => obtain ⟨v6, σ6, H6, S6, v7, q6⟩ := r6; exact fin S6 fun s7 J7 => ⟨_, _, _, J7, v7, q6⟩
    exact go hh w
  refine wpAny_mono ((hb (wNamed X.K X.N.length Wout D l) (X.pn ++ pins) _ (fun u s' xx => caught u s' xx) PassesOwn.looking).run [] s σ H D (I.toTry _) h) (fun f s1 r => ?_) (fun e s1 z => z)
  cases f with
  | next => obtain ⟨σ', H', J', q⟩ := r; exact wpAny_execs_nil ⟨σ', H', J'.ofTry ok, q⟩
  | brk => obtain ⟨σ', H', J', q⟩ := r; exact ⟨σ', H', J'.ofTry ok, q⟩
  | cont => obtain ⟨σ', H', J', q⟩ := r; exact ⟨σ', H', J'.ofTry ok, q⟩
  | ret u => obtain ⟨v, σ', H', J', rv, q⟩ := r; exact ⟨v, σ', H', J'.ofTry ok, rv, q⟩
end
/-- code that is never come to -/
theorem pss_never {X : Cx} {sts : List Stmt} : PSs X sts (fun _ _ _ => False) := ⟨fun _ _ _ _ _ _ h => h.elim⟩
theorem ps_never {X : Cx} {st : Stmt} : PS X st (fun _ _ _ => False) := ⟨fun _ _ _ _ _ _ h => h.elim⟩
theorem pe_never {X : Cx} {e : Expr} : PE X e (fun _ _ _ => False) := ⟨fun _ _ _ _ _ _ h => h.elim⟩
end Ag

set_option Elab.async false
set_option linter.all false
set_option maxRecDepth 100000
set_option maxHeartbeats 1000000
/-! Comprehensions over data, statements over data. -/
namespace Ag
open PySem PySem.Spec PyProof.Rows L2
/-- a walk that hands out the data ds, as long as what stood at H stands -/
structure Wk (K : PySem.W.Frag) (F : Addr → Prop) (H : Hp) (J : It) (ds : List PyData) : Prop where
  go : ∀ i H', SameF F H H' → i < ds.length → J.go i H'
  stop : ∀ H', SameF F H H' → J.stop ds.length H'
  yld : ∀ i H' x H'', i < ds.length → SameF F H H' → J.yld i H' x H'' → ∃ d, ds[i]? = some d ∧ Same H' H'' ∧ Df K (fun a => F a ∧ H a ≠ none) H'' x d
def EI (K : PySem.W.Frag) (wi : TI) (σ : L2.St) (F : Addr → Prop) (H : Hp) (ds : List PyData) : Prop := ∀ H1, Same H H1 → ∀ R : It → Hp → Prop, (∀ J H2, Same H1 H2 → Wk K (Fr F H1) H2 J ds → R J H2) → wi σ H1 R
section
variable {K : PySem.W.Frag} {σ : L2.St} {F : Addr → Prop} {H : Hp} {te tl : TE} {ds : List PyData}
theorem slF {a : Addr} {xs : List V} {H' : Hp} (s : SameF F H H') (h : (Rd H a (.lst xs) ∧ F a) ∨ KL K a xs) : SqL K H' a xs := h.imp (fun z => rd_lstF s z.1 z.2) id
theorem wk_list {a : Addr} {xs : List V} (h : (Rd H a (.lst xs) ∧ F a) ∨ KL K a xs) (r : DfAll K F H xs ds) : Wk K F H (Itl K a) ds where
  go := fun i H' s hi => by
    obtain ⟨d, e⟩ : ∃ d, ds[i]? = some d := ⟨_, List.getElem?_eq_getElem hi⟩
    obtain ⟨v, q, _⟩ := dfs_get r e
    exact ⟨xs, v, slF s h, q⟩
  stop := fun H' s => ⟨xs, slF s h, by rw [dfs_len r]; exact Nat.le_refl _⟩
  yld := fun i H' x H'' _ s y => by
    obtain ⟨rfl, y⟩ := y
    obtain ⟨d, e, hd⟩ := dfs_get' (dfs_monoF (s.sub fun _ z => z.1) (dfs_in r)) (y xs (slF s h))
    exact ⟨d, e, Same.refl _, hd⟩
theorem wk_tup {a : Addr} {xs : List V} (h : SqT K H a xs) (r : DfAll K F H xs ds) : Wk K F H (Itt K a) ds where
  go := fun i H' s hi => by
    obtain ⟨d, e⟩ : ∃ d, ds[i]? = some d := ⟨_, List.getElem?_eq_getElem hi⟩
    obtain ⟨v, q, _⟩ := dfs_get r e
    exact ⟨xs, v, sqt_F s h, q⟩
  stop := fun H' s => ⟨xs, sqt_F s h, by rw [dfs_len r]; exact Nat.le_refl _⟩
  yld := fun i H' x H'' _ s y => by
    obtain ⟨rfl, y⟩ := y
    obtain ⟨d, e, hd⟩ := dfs_get' (dfs_monoF (s.sub fun _ z => z.1) (dfs_in r)) (y xs (sqt_F s h))
    exact ⟨d, e, Same.refl _, hd⟩
theorem ei_list (h : ED K tl σ F H (.list ds)) : EI K (iList K tl) σ F H ds := fun H1 s R q => h H1 s _ fun v H2 s2 hv => by
  cases hv with
  | lst hs r => exact ⟨_, rfl, ⟨_, hs.imp (fun z => z.1) id⟩, q _ H2 s2 (wk_list hs r)⟩
theorem ei_tup (h : ED K tl σ F H (.tuple ds)) : EI K (iTup K tl) σ F H ds := fun H1 s R q => h H1 s _ fun v H2 s2 hv => by
  cases hv with
  | tup hs r => exact ⟨_, rfl, ⟨_, hs⟩, q _ H2 s2 (wk_tup hs r)⟩
def signs (x : Str) : List PyData := x.cps.toList.map fun c => .str ⟨#[c]⟩
theorem ei_str {x : Str} (h : ED K te σ F H (.str x)) : EI K (iStr te) σ F H (signs x) := fun H1 s R q => h H1 s _ fun v H2 s2 hv => by
  cases hv
  refine ⟨x, rfl, q _ H2 s2 ⟨fun i H' _ hi => ?_, fun H' _ => ?_, fun i H' y H'' _ _ z => ?_⟩⟩
  · show i < x.cps.size
    rw [← Array.length_toList]; unfold signs at hi; rw [List.length_map] at hi; exact hi
  · show x.cps.size ≤ (signs x).length
    unfold signs; rw [List.length_map, Array.length_toList]; exact Nat.le_refl _
  · obtain ⟨rfl, c, e, rfl⟩ := z
    refine ⟨.str ⟨#[c]⟩, ?_, Same.refl _, .str _⟩
    unfold signs
    rw [List.getElem?_map, Array.getElem?_toList, e]; rfl
/-- the numbers below n -/
def nums (n : Nat) : List PyData := (List.range n).map fun i => .int (i : Nat)
theorem ei_range {n : Nat} (h : ED K te σ F H (.int (n : Nat))) (hn : n ≤ 100000) : EI K (iRng1 (tCons te tNil)) σ F H (nums n) := fun H1 s R q => h H1 s _ fun v H2 s2 hv => by
  cases hv
  refine ⟨_, rfl, by omega, by omega, q _ H2 s2 ⟨fun i H' _ hi => ?_, fun H' _ => ?_, fun i H' y H'' hi _ z => ?_⟩⟩
  · show i < ((n : Int)).toNat
    unfold nums at hi; rw [List.length_map, List.length_range] at hi; omega
  · show ((n : Int)).toNat ≤ (nums n).length
    unfold nums; rw [List.length_map, List.length_range]; omega
  · obtain ⟨rfl, rfl⟩ := z
    unfold nums at hi; rw [List.length_map, List.length_range] at hi
    refine ⟨.int (i : Nat), ?_, Same.refl _, by rw [Int.zero_add]; exact .int _⟩
    unfold nums; rw [List.getElem?_map, List.getElem?_range hi]; rfl
def zipD (xs ys : List PyData) : List PyData := List.zipWith (fun a b => .tuple [a, b]) xs ys
theorem ei_zip {ta : TA} {xs ys : List PyData} (h : EA K ta σ F H [.tuple xs, .tuple ys]) : EI K (RZ.iZipA K ta) σ F H (zipD xs ys) := fun H1 s R q => h H1 s _ fun vs H2 s2 hv => by
  cases hv with
  | cons a r =>
    cases r with
    | cons b r =>
      cases r
      cases a with
      | tup ha ra =>
        cases b with
        | tup hb rb =>
          refine ⟨_, _, _, _, rfl, .inr ⟨ha, hb, q _ H2 s2 ⟨fun i H' s3 hi => ?_, fun H' s3 => ?_, fun i H' y H'' _ s3 z => ?_⟩⟩⟩
          · have hi' : i < xs.length ∧ i < ys.length := by
              unfold zipD at hi; rw [List.length_zipWith] at hi; omega
            obtain ⟨v, e, _⟩ := dfs_get ra (List.getElem?_eq_getElem hi'.1)
            obtain ⟨v2, e2, _⟩ := dfs_get rb (List.getElem?_eq_getElem hi'.2)
            exact ⟨_, _, v, v2, sqt_F s3 ha, sqt_F s3 hb, e, e2⟩
          · refine ⟨_, _, sqt_F s3 ha, sqt_F s3 hb, ?_⟩
            unfold zipD; rw [List.length_zipWith, dfs_len ra, dfs_len rb]; omega
          · obtain ⟨T, x, x2, rfl, hT, rfl, e1, e2⟩ := z
            obtain ⟨d, q1, hd⟩ := dfs_get' (dfs_in ra) (e1 _ (sqt_F s3 ha))
            obtain ⟨d2, q2, hd2⟩ := dfs_get' (dfs_in rb) (e2 _ (sqt_F s3 hb))
            refine ⟨.tuple [d, d2], ?_, Same.newA hT, .tup (.of upd_same) (.cons (df_mono (Same.newA hT) (fun _ z => z) (df_monoF (s3.sub fun _ z => z.1) hd)) (.cons (df_mono (Same.newA hT) (fun _ z => z) (df_monoF (s3.sub fun _ z => z.1) hd2)) .nil))⟩
            unfold zipD; rw [List.getElem?_zipWith, q1, q2]
/-- a comprehension over data: the list made -/
theorem lc_run {wi : TI} {g : TG} {tt : TT} {vs : List Nat} {f : PyData → Bool} {m : PyData → PyData} (hi : EI K wi σ F H ds) (hl : ds.length ≤ 50000)
    (ht : ∀ F2 H1, Ext F H F2 H1 → ∀ v d, d ∈ ds → Df K F2 H1 v d → ∃ σ2, (∀ Q : L2.St → Hp → Prop, Q σ2 H1 → g v (wipe σ vs) H1 Q) ∧ wipe σ2 vs = wipe σ vs ∧ ET tt σ2 H1 (f d) ∧ (f d = true → ED K te σ2 F2 H1 (m d))) :
    ∀ H1, Same H H1 → ∀ Q : VK, (∀ D ys H', Same H1 H' → H1 D = none → H' D = some (.lst ys) → DfAll K (fun a => Fr F H1 a ∧ a ≠ D) H' ys ((ds.filter f).map m) → Q (.ref D) H') → tLc wi g tt te vs σ H1 Q := fun H1 s Q q => hi H1 s _ fun J H2 s2 W D hD => by
  have out : ∀ i, i ≤ ds.length → (((ds.take i).filter f).map m).length < 100000 := fun i hi => by
    rw [List.length_map]
    have := List.length_filter_le f (ds.take i)
    rw [List.length_take] at this
    omega
  have hD1 : H1 D = none := s2.freshA hD
  -- what items may be: lists not at D
  let F2 : Addr → Prop := fun a => Fr F H1 a ∧ a ≠ D
  have nF : ¬ F2 D := fun z => z.2 rfl
  refine ⟨fun i k H' => k = ds.length - i ∧ i ≤ ds.length ∧ Same H2 H' ∧ ∃ ys, H' D = some (.lst ys) ∧ DfAll K F2 H' ys (((ds.take i).filter f).map m), ⟨ds.length, by simp, Nat.zero_le _, Same.newA hD, [], upd_same, by simp; exact .nil⟩, ?_⟩
  rintro i k H' ⟨rfl, hi, s3, ys, e, r⟩
  by_cases lt : i < ds.length
  · refine .inr ⟨W.go i H' s3.F lt, fun H5 => Same H2 H5 ∧ ∃ ys, H5 D = some (.lst ys) ∧ DfAll K F2 H5 ys (((ds.take (i + 1)).filter f).map m), fun H5 ⟨a, b⟩ => ⟨ds.length - (i + 1), by omega, rfl, lt, a, b⟩, fun x H3 y => ?_⟩
    obtain ⟨d, hd, s4, hx⟩ := W.yld i H' x H3 lt s3.F y
    have hx2 : Df K F2 H3 x d := df_mono (Same.refl _) (fun a z => ⟨z.1, fun q => z.2 (q ▸ hD)⟩) hx
    obtain ⟨σ2, hg, hw, htt, hte⟩ := ht F2 H3 ⟨(((s.trans s2).trans s3).trans s4).F, fun a z n => ⟨.inl z, fun q => n (s.freshA (q ▸ hD1))⟩⟩ x d (List.mem_of_getElem? hd) hx2
    have tk : ds.take (i + 1) = ds.take i ++ [d] := by rw [List.take_succ, hd]; rfl
    refine hg _ ⟨hw, htt H3 (Same.refl _) _ fun H4 s5 => ?_⟩
    cases hf : f d with
    | true =>
      refine hte hf H4 s5 _ fun v H5 s6 hv => ?_
      have e4 : H4 D = some (.lst ys) := s5 _ _ (s4 _ _ e)
      have e5 : H5 D = some (.lst ys) := s6 _ _ e4
      have s45 := (s4.trans s5).trans s6
      have r5 : DfAll K F2 H5 ys (((ds.take i).filter f).map m) := dfs_mono s45 (fun _ z => z) r
      have v5 : Df K F2 H5 v (m d) := df_mono (Same.refl _) (fun a z => by
        rcases z with z | z
        · exact z
        · exact ⟨.inr (s2.freshA (s3.freshA ((s4.trans s5).freshA z))), fun q => by rw [q, e4] at z; cases z⟩) hv
      refine ⟨ys, e5, lt5 (by rw [dfs_len r5]; exact out i hi), fun a u h => ?_, ys ++ [v], upd_same, ?_⟩
      · rw [upd_ne (ne_of_none h hD)]; exact s45 _ _ (s3 _ _ h)
      · rw [tk, List.filter_append, List.map_append]
        have e1 : ([d].filter f).map m = [m d] := by simp [hf]
        rw [e1]
        exact dfs_app (dfs_upd e5 nF r5) (.cons (df_upd e5 nF v5) .nil)
    | false =>
      refine ⟨fun a u h => s5 _ _ (s4 _ _ (s3 _ _ h)), ys, s5 _ _ (s4 _ _ e), ?_⟩
      rw [tk, List.filter_append, List.map_append]
      have e1 : ([d].filter f).map m = [] := by simp [hf]
      rw [e1, List.append_nil]
      exact dfs_mono (s4.trans s5) (fun _ z => z) r
  · have : i = ds.length := by omega
    subst this
    refine .inl ⟨W.stop H' s3.F, q D ys H' (s2.trans s3) hD1 e ?_⟩
    rw [List.take_length] at r; exact r
/-- a comprehension over data -/
theorem ed_lc {wi : TI} {g : TG} {tt : TT} {vs : List Nat} {f : PyData → Bool} {m : PyData → PyData} (hi : EI K wi σ F H ds) (hl : ds.length ≤ 50000)
    (ht : ∀ F2 H1, Ext F H F2 H1 → ∀ v d, d ∈ ds → Df K F2 H1 v d → ∃ σ2, (∀ Q : L2.St → Hp → Prop, Q σ2 H1 → g v (wipe σ vs) H1 Q) ∧ wipe σ2 vs = wipe σ vs ∧ ET tt σ2 H1 (f d) ∧ (f d = true → ED K te σ2 F2 H1 (m d))) :
    ED K (tLc wi g tt te vs) σ F H (.list ((ds.filter f).map m)) := fun H1 s Q q => lc_run hi hl ht H1 s Q fun D ys H' s2 n e r => q _ _ s2 (.lst (.inl ⟨.inl e, .inr n⟩) (dfs_mono (Same.refl _) (fun _ z => z.1) r))
theorem et_yes : ET tYes σ H true := fun H1 _ _ q => q H1 (Same.refl _)
end
/-! ### statements over data -/
section
variable {K : PySem.W.Frag} {σ : L2.St} {F : Addr → Prop} {H : Hp} {te ta tb : TE} {t : TT} {d e : PyData} {D : Ends} {tu tw : TS}
theorem s_ret (h : ED K te σ F H d) (k : ∀ v H1, Same H H1 → Df K (Fr F H) H1 v d → D.rt v H1) : tRet te D σ H := h H (Same.refl _) _ k
theorem s_set {i : Nat} (h : ED K te σ F H d) (k : ∀ v H1, Same H H1 → Df K (Fr F H) H1 v d → D.nx (σ.set i (some v)) H1) : tAsg te (gName i) D σ H := h H (Same.refl _) _ k
theorem s_if {b : Bool} (h : ET t σ H b) (h1 : b = true → ∀ H1, Same H H1 → tu D σ H1) (h2 : b = false → ∀ H1, Same H H1 → tw D σ H1) : tIfS t tu tw D σ H := h H (Same.refl _) _ fun H1 s => by
  cases b with
  | true => exact h1 rfl H1 s
  | false => exact h2 rfl H1 s
theorem ed_notInS {c : Nat} {z : Str} (ha : ED K ta σ F H (.str ⟨#[c]⟩)) (hb : ED K tb σ F H (.str z)) :
    ED K (tOp (fun x y H Q => ∃ (c : Nat) (z : Str), x = .str ⟨#[c]⟩ ∧ y = .str z ∧ Q (.bl (!decide (c ∈ z.cps.toList))) H) ta tb) σ F H (.bool (!decide (c ∈ z.cps.toList))) :=
  ed_op ha hb fun F a b H1 hx hy Q q => by
    cases hx; cases hy; exact ⟨c, z, rfl, rfl, q _ _ (Same.refl _) (.bl _)⟩
theorem ed_inS {c : Nat} {z : Str} (ha : ED K ta σ F H (.str ⟨#[c]⟩)) (hb : ED K tb σ F H (.str z)) :
    ED K (tOp (fun x y H Q => ∃ (c : Nat) (z : Str), x = .str ⟨#[c]⟩ ∧ y = .str z ∧ Q (.bl (decide (c ∈ z.cps.toList))) H) ta tb) σ F H (.bool (decide (c ∈ z.cps.toList))) :=
  ed_op ha hb fun F a b H1 hx hy Q q => by
    cases hx; cases hy; exact ⟨c, z, rfl, rfl, q _ _ (Same.refl _) (.bl _)⟩
end
end Ag

set_option Elab.async false
set_option linter.all false
set_option maxRecDepth 100000
set_option maxHeartbeats 1000000
/-! More rules over data: x is True, in of texts, slices and sums of tuples, list.extend of a tuple. -/
namespace Ag
open PySem PySem.Spec PyProof.Rows L2
/-- a value of data -/
def isDat : V → Bool | .non | .bl _ | .int _ | .str _ | .ref _ => true | _ => false
def rIsX (neg : Bool) : R2 := fun x y H Q => ∃ b, y = .bl b ∧ isDat x = true ∧ Q (.bl (if neg then !decide (x = .bl b) else decide (x = .bl b))) H
theorem is_dat {v : Value} {x : V} {b : Bool} (r : RelV x v) (h : isDat x = true) : plainIs v (.bool b) = true ∧ (v == Value.bool b) = decide (x = .bl b) := by
  cases x with
  | non => cases r; exact ⟨rfl, by rw [decide_eq_false (fun z => nomatch z)]; rfl⟩
  | bl c => cases r; exact ⟨rfl, by cases c <;> cases b <;> decide⟩
  | int i => obtain ⟨t, rfl⟩ := r; exact ⟨rfl, by rw [decide_eq_false (fun z => nomatch z)]; rfl⟩
  | str i => obtain ⟨t, rfl⟩ := r; exact ⟨rfl, by rw [decide_eq_false (fun z => nomatch z)]; rfl⟩
  | ref a => cases r; exact ⟨rfl, by rw [decide_eq_false (fun z => nomatch z)]; rfl⟩
  | _ => cases h
theorem op_isB {X : Cx} : OpR X (compareOp .Is) (rIsX false) := by
  intro pins s σ H x y v u Q I rx ry h
  obtain ⟨b, rfl, hd, q⟩ := h
  cases (show u = Value.bool b from ry)
  obtain ⟨h1, h2⟩ := is_dat (b := b) rx hd
  exact wpAny_is_plain h1 ⟨.bl _, H, I, rfl, by rw [h2]; exact q⟩
theorem op_isnotB {X : Cx} : OpR X (compareOp .IsNot) (rIsX true) := by
  intro pins s σ H x y v u Q I rx ry h
  obtain ⟨b, rfl, hd, q⟩ := h
  cases (show u = Value.bool b from ry)
  obtain ⟨h1, h2⟩ := is_dat (b := b) rx hd
  exact wpAny_isNot_plain h1 ⟨.bl _, H, I, rfl, by rw [h2]; exact q⟩
end Ag
namespace PySem.AutoSeq1
open PySem PySem.Spec PyProof.Rows
set_option maxRecDepth 8000 in
theorem list_extend_tup (l : Addr) (items : Array Value) (n : Nat) (b : Addr) (items2 : Array Value) (n2 : Nat) (dd : Option Addr) (sl : Array (Option Value)) (hs0 : ¬(!items.isEmpty && Builtin.List.listTooLong (items.size + items2.size)) = true) (hs1 : items.size ≤ sizeLine) (hs2 : items.size + items2.size ≤ sizeLine + 1) :
    Meets (Builtin.«list.extend» ⟨[.ref l, .ref b], []⟩) (fun _ R s => s.heap.get? l = some { cls := .type "list", dict := none, data := .seq items n, slots := #[] } ∧ s.heap.get? b = some { cls := .type "tuple", dict := dd, data := .seq items2 n2, slots := sl } ∧ R (.ok (.ret Value.none)) { s with heap := s.heap.update l (Obj.mapSeq fun x => x ++ items2), toks := s.toks }) :=
  .of_wp fun prog w A R s h => by
    obtain ⟨hp, g, d, tk, os⟩ := s; obtain ⟨hl, hb, h⟩ := h; have f1 := idx_int; have f2 := sub_tuple_tuple; have f3 := sub_list_list; have f4 := sub_tuple_list; have f5 := sub_list_tuple;
    have hz' : (items ++ items2).size ≤ sizeLine + 1 := by rw [Array.size_append]; exact hs2
    wp_walk using (wpAny_updateSeq hl rfl (hz := hs1) (_hz' := hz')), wpAny_loadPart' hl, wpAny_loadPart' hb; exact ⟨_, rfl, h⟩
end PySem.AutoSeq1
namespace Ag
open PySem PySem.Spec PyProof.Rows L2
/-- l.extend(tuple) -/
def rExtendT (K : PySem.W.Frag) : V → List V → Hp → VK → Prop := fun x vs H Q => ∃ l b xs zs, x = .ref l ∧ vs = [.ref b] ∧ H l = some (.lst xs) ∧ SqT K H b zs ∧ xs.length + zs.length ≤ sizeLine ∧ Q .non (upd H l (.lst (xs ++ zs)))
theorem mt_extendT {X : Cx} : MtM X "list.extend" (rExtendT X.K) := by
  intro pins s σ H x vs v us Q I rx rv h
  obtain ⟨l, b, xs, zs, rfl, rfl, hH, hB, hz, q⟩ := h
  cases rx
  obtain ⟨u, rfl, ru⟩ := rv.one
  cases ru
  obtain ⟨z, its, n, r, hl, e⟩ := I.lstM hH
  obtain ⟨its2, r2, ⟨⟨oc, od, odt, osl⟩, e2, ec, n2, ed⟩, hz2⟩ := I.tuple hB
  simp only at ec ed
  subst ec ed
  have hl2 := r2.length
  have hsz : its.toArray.size + its2.toArray.size ≤ sizeLine := by rw [List.size_toArray, List.size_toArray]; omega
  have hlong : ¬ (!its.toArray.isEmpty && Builtin.List.listTooLong (its.toArray.size + its2.toArray.size)) = true := by
    rw [notLongL hsz, Bool.and_false]
    exact Bool.false_ne_true
  refine call_meets F.slot_list_extend ⟨_, e, rfl⟩ F.entry_list_extend (F.args_list_extend_2 _ _)
    (PySem.AutoSeq1.list_extend_tup l its.toArray n b its2.toArray n2 od osl hlong (by rw [List.size_toArray]; omega) (by omega)) ⟨e, e2, ?_⟩
  refine ⟨.non, _, I.lset (its' := its ++ its2) hH e (by simp) (r.append r2) ?_, rfl, q⟩
  rw [List.length_append]
  omega

section
variable {K : PySem.W.Frag} {σ : L2.St} {F : Addr → Prop} {H : Hp} {te ta tb : TE} {d e : PyData}
theorem df_isDat {x : V} (h : Df K F H x d) : isDat x = true := by cases h <;> rfl
def isB (b : Bool) : PyData → Bool | .bool c => c == b | _ => false
theorem isB_of {b : Bool} {x : V} (h : Df K F H x d) : decide (x = .bl b) = isB b d := by
  cases h with
  | bl c => cases c <;> cases b <;> decide
  | _ => exact decide_eq_false (fun z => nomatch z)
theorem ed_isB {b : Bool} (ha : ED K ta σ F H d) : ED K (tOp (rIsX false) ta (tC (.bl b))) σ F H (.bool (isB b d)) :=
  ed_op ha ed_bl fun F x y H1 hx hy Q q => by
    cases hy; refine ⟨b, rfl, df_isDat hx, ?_⟩
    show Q (.bl (decide (x = .bl b))) H1
    rw [isB_of hx]; exact q _ _ (Same.refl _) (.bl _)
theorem ed_isnotB {b : Bool} (ha : ED K ta σ F H d) : ED K (tOp (rIsX true) ta (tC (.bl b))) σ F H (.bool (!isB b d)) :=
  ed_op ha ed_bl fun F x y H1 hx hy Q q => by
    cases hy; refine ⟨b, rfl, df_isDat hx, ?_⟩
    show Q (.bl (!decide (x = .bl b))) H1
    rw [isB_of hx]; exact q _ _ (Same.refl _) (.bl _)
theorem inV_strs (x : Str) : ∀ (xs : List Str), inV (.str x) (xs.map V.str) = decide (x ∈ xs)
  | [] => rfl
  | y :: ys => by
    have ih := inV_strs x ys
    unfold inV at ih ⊢
    rw [List.map_cons, List.any_cons, ih]
    have e : eqV (.str y) (.str x) = decide (y = x) := rfl
    rw [e]
    by_cases h : x = y
    · subst h; simp
    · have h' : ¬ y = x := fun q => h q.symm
      simp [h, h']
theorem flat_strs : ∀ (xs : List Str), (xs.map V.str).all flatV = true
  | [] => rfl
  | y :: ys => by rw [List.map_cons, List.all_cons, flat_strs ys]; rfl
theorem ed_inSeq {x : Str} {xs : List Str} (ha : ED K ta σ F H (.str x)) (hb : ED K tb σ F H e) (he : e = .tuple (xs.map .str) ∨ e = .list (xs.map .str)) : ED K (tOp (rIn K false) ta tb) σ F H (.bool (decide (x ∈ xs))) :=
  ed_op ha hb fun F a b H1 hx hy Q q => by
    cases hx
    have h : ∃ p, b = .ref p ∧ (SqL K H1 p (xs.map V.str) ∨ SqT K H1 p (xs.map V.str)) := by
      rcases he with rfl | rfl
      · cases hy with
        | tup h r => rw [strs_dps (dfs_dps r)] at h; exact ⟨_, rfl, .inr h⟩
      · cases hy with
        | lst h r => rw [strs_dps (dfs_dps r)] at h; exact ⟨_, rfl, .inl (h.imp (fun z => z.1) id)⟩
    obtain ⟨p, rfl, h⟩ := h
    refine ⟨p, _, rfl, h, rfl, flat_strs xs, ?_⟩
    show Q (.bl (inV (.str x) (xs.map V.str))) H1
    rw [inV_strs]; exact q _ _ (Same.refl _) (.bl _)
theorem ed_notInSeq {x : Str} {xs : List Str} (ha : ED K ta σ F H (.str x)) (hb : ED K tb σ F H e) (he : e = .tuple (xs.map .str) ∨ e = .list (xs.map .str)) : ED K (tOp (rIn K true) ta tb) σ F H (.bool (!decide (x ∈ xs))) :=
  ed_op ha hb fun F a b H1 hx hy Q q => by
    cases hx
    have h : ∃ p, b = .ref p ∧ (SqL K H1 p (xs.map V.str) ∨ SqT K H1 p (xs.map V.str)) := by
      rcases he with rfl | rfl
      · cases hy with
        | tup h r => rw [strs_dps (dfs_dps r)] at h; exact ⟨_, rfl, .inr h⟩
      · cases hy with
        | lst h r => rw [strs_dps (dfs_dps r)] at h; exact ⟨_, rfl, .inl (h.imp (fun z => z.1) id)⟩
    obtain ⟨p, rfl, h⟩ := h
    refine ⟨p, _, rfl, h, rfl, flat_strs xs, ?_⟩
    show Q (.bl (!inV (.str x) (xs.map V.str))) H1
    rw [inV_strs]; exact q _ _ (Same.refl _) (.bl _)
theorem ed_catT {xs ys : List PyData} (ha : ED K ta σ F H (.tuple xs)) (hb : ED K tb σ F H (.tuple ys)) (hl : xs.length + ys.length ≤ 100000) : ED K (tOp (rCatA K) ta tb) σ F H (.tuple (xs ++ ys)) :=
  ed_op ha hb fun F a b H1 hx hy Q q => by
    cases hx with
    | tup h r =>
      cases hy with
      | tup h2 r2 =>
        refine ⟨_, _, _, _, rfl, rfl, h, h2, by rw [dfs_len r, dfs_len r2]; exact small5 hl, fun z => ?_, fun _ z => ?_, fun _ _ p hp => ?_⟩
        · subst z; cases r; exact q _ _ (Same.refl _) (.tup h2 (dfs_mono (Same.refl _) (fun _ z => .inl z) r2))
        · subst z; cases r2; exact q _ _ (Same.refl _) (by rw [List.append_nil]; exact .tup h (dfs_mono (Same.refl _) (fun _ z => .inl z) r))
        · exact q _ _ (Same.newA hp) (.tup (.of upd_same) (dfs_mono (Same.newA hp) (fun _ z => .inl z) (dfs_app r r2)))
def cutD (xs : List PyData) (lo hi : Option Int) : List PyData := (xs.drop (HT.sIx xs.length 0 lo)).take (HT.sIx xs.length xs.length hi - HT.sIx xs.length 0 lo)
theorem dfs_cut {vs : List V} {ds : List PyData} {lo hi : Option Int} (h : DfAll K F H vs ds) : DfAll K F H (cutV vs lo hi) (cutD ds lo hi) := by
  unfold cutV cutD; rw [dfs_len h]; exact dfs_take _ (dfs_drop _ h)
theorem cutD_all {ds : List PyData} {lo hi : Option Int} (h : HT.sIx ds.length 0 lo = 0 ∧ HT.sIx ds.length ds.length hi = ds.length) : cutD ds lo hi = ds := by
  unfold cutD; rw [h.1, h.2, List.drop_zero, Nat.sub_zero, List.take_length]
theorem eo_none : EO tNoPart σ H none := fun H1 s Q q => q H1 (Same.refl _)
theorem eo_some {i : Int} (h : ED K te σ F H (.int i)) : EO (tPart te) σ H (some i) := fun H1 s Q q => h H1 s _ fun v H2 s2 hv => by
  cases hv; exact ⟨i, rfl, q H2 s2⟩
theorem ed_slT {xs : List PyData} {tl th : TO} {lo hi : Option Int} (h : ED K te σ F H (.tuple xs)) (hl : EO tl σ H lo) (hh : EO th σ H hi) : ED K (tSl (rSlA K) te tl th) σ F H (.tuple (cutD xs lo hi)) := fun H1 s Q q =>
  h H1 s _ fun v H2 s2 hv => hl H2 (s.trans s2) _ fun H3 s3 => hh H3 ((s.trans s2).trans s3) _ fun H4 s4 => by
    cases hv with
    | tup ht r =>
      have s34 := s3.trans s4
      have s24 := s2.trans s34
      refine ⟨_, _, rfl, s34.stA ht, fun z => ?_, fun _ p hp => ?_⟩
      · rw [dfs_len r] at z
        exact q _ _ s24 (by rw [cutD_all z]; exact .tup (s34.stA ht) (dfs_mono s34 (fun _ z => z) r))
      · exact q _ _ (s24.trans (Same.newA hp)) (.tup (.of upd_same) (dfs_mono (s34.trans (Same.newA hp)) (fun _ z => z) (dfs_cut r)))
theorem ed_slL {xs : List PyData} {tl th : TO} {lo hi : Option Int} (h : ED K te σ F H (.list xs)) (hl : EO tl σ H lo) (hh : EO th σ H hi) : ED K (tSl (rSlL K) te tl th) σ F H (.list (cutD xs lo hi)) := fun H1 s Q q =>
  h H1 s _ fun v H2 s2 hv => hl H2 (s.trans s2) _ fun H3 s3 => hh H3 ((s.trans s2).trans s3) _ fun H4 s4 => by
    cases hv with
    | lst ht r =>
      have s34 := s3.trans s4
      have s24 := s2.trans s34
      refine ⟨_, _, rfl, s34.slA (ht.imp (fun z => z.1) id), fun p hp => ?_⟩
      exact q _ _ (s24.trans (Same.newA hp)) (.lst (.inl ⟨.inl upd_same, .inr (s24.freshA hp)⟩) (dfs_mono (s34.trans (Same.newA hp)) (fun _ z => z) (dfs_cut r)))
theorem filt_tt {α : Type} (l : List α) : l.filter (fun _ => true) = l := List.filter_eq_self.mpr fun _ _ => rfl
end
end Ag

set_option Elab.async false
set_option linter.all false
set_option maxRecDepth 100000
set_option maxHeartbeats 1000000
/-! A list beside the empty list, whatever its depth. -/
namespace Ag
open PySem PySem.Spec PyProof.Rows L2
def rNeE (K : PySem.W.Frag) : R2 := fun x y H Q => ∃ ds, Dp K H x (.list ds) ∧ Dp K H y (.list []) ∧ PyData.canLayAll0 ds = true ∧ Q (.bl (!ds.isEmpty)) H
def rEqE (K : PySem.W.Frag) : R2 := fun x y H Q => ∃ ds, Dp K H x (.list ds) ∧ Dp K H y (.list []) ∧ PyData.canLayAll0 ds = true ∧ Q (.bl ds.isEmpty) H
theorem eqv_empty : ∀ (ds : List PyData), PyData.eqv (.list ds) (.list []) = ds.isEmpty
  | [] => by simp [PyData.eqv, PyData.eqvAll]
  | _ :: _ => by simp [PyData.eqv, PyData.eqvAll]
theorem room_empty {A : Around} {d : PyData} (hu : A.units + 64 < cLine) : A.units + min d.depth (PyData.list []).depth < cLine := by
  have h : (PyData.list []).depth ≤ 64 := by decide
  have h2 : min d.depth (PyData.list []).depth ≤ (PyData.list []).depth := Nat.min_le_right _ _
  omega
theorem op_neE {X : Cx} (hu : X.A.units + 64 < cLine) : OpR X (compareOp .NotEq) (rNeE X.K) := by
  intro pins s σ H x y v u Q I rx ry h
  obtain ⟨ds, hd, he, sd, q⟩ := h
  obtain ⟨as, r1⟩ := Dp.reads I (.list ds) x v hd rx
  obtain ⟨bs, r2⟩ := Dp.reads I (.list []) y u he ry
  exact SeqAt.compareNe_reads r1 r2 (by simpa [PyData.canLay0] using sd) (by simp [PyData.canLay0, PyData.canLayAll0]) (room_empty hu) ⟨.bl _, H, I, rfl, by rw [eqv_empty]; exact q⟩
theorem op_eqE {X : Cx} (hu : X.A.units + 64 < cLine) : OpR X (compareOp .Eq) (rEqE X.K) := by
  intro pins s σ H x y v u Q I rx ry h
  obtain ⟨ds, hd, he, sd, q⟩ := h
  obtain ⟨as, r1⟩ := Dp.reads I (.list ds) x v hd rx
  obtain ⟨bs, r2⟩ := Dp.reads I (.list []) y u he ry
  exact SeqAt.compareEq_reads r1 r2 (by simpa [PyData.canLay0] using sd) (by simp [PyData.canLay0, PyData.canLayAll0]) (room_empty hu) ⟨.bl _, H, I, rfl, by rw [eqv_empty]; exact q⟩
section
variable {K : PySem.W.Frag} {σ : L2.St} {F : Addr → Prop} {H : Hp} {te ta tb : TE} {ds : List PyData}
theorem ed_neE (ha : ED K ta σ F H (.list ds)) (hb : ED K tb σ F H (.list [])) (hl : PyData.canLayAll0 ds = true) : ED K (tOp (rNeE K) ta tb) σ F H (.bool (!ds.isEmpty)) :=
  ed_op ha hb fun F a b H1 hx hy Q q => ⟨ds, df_dp hx, df_dp hy, hl, q _ _ (Same.refl _) (.bl _)⟩
theorem ed_eqE (ha : ED K ta σ F H (.list ds)) (hb : ED K tb σ F H (.list [])) (hl : PyData.canLayAll0 ds = true) : ED K (tOp (rEqE K) ta tb) σ F H (.bool ds.isEmpty) :=
  ed_op ha hb fun F a b H1 hx hy Q q => ⟨ds, df_dp hx, df_dp hy, hl, q _ _ (Same.refl _) (.bl _)⟩
theorem ed_emp : ED K (tLst tNil) σ F H (.list []) := ed_lst ea_nil (by decide)
/-- a comprehension of two clauses over data: the list made -/
theorem lc2_run {wi wi1 : TI} {g g1 : TG} {tt tt1 : TT} {vs vs1 : List Nat} {es : PyData → List PyData} {m : PyData → PyData} (hi : EI K wi σ F H ds) (hl : (ds.flatMap es).length ≤ 50000)
    (ht : ∀ F2 H1, Ext F H F2 H1 → ∀ v d, d ∈ ds → Df K F2 H1 v d → ∃ σ2, (∀ Q : L2.St → Hp → Prop, Q σ2 H1 → g v (wipe σ vs) H1 Q) ∧ wipe σ2 vs = wipe σ vs ∧ ET tt σ2 H1 true ∧ EI K wi1 σ2 F2 H1 (es d) ∧
      ∀ F3 H2, Ext F2 H1 F3 H2 → ∀ v2 d2, d2 ∈ es d → Df K F3 H2 v2 d2 → ∃ σ3, (∀ Q : L2.St → Hp → Prop, Q σ3 H2 → g1 v2 (wipe σ2 vs1) H2 Q) ∧ wipe σ3 vs1 = wipe σ2 vs1 ∧ ET tt1 σ3 H2 true ∧ ED K te σ3 F3 H2 (m d2)) :
    ∀ H1, Same H H1 → ∀ Q : VK, (∀ D ys H', Same H1 H' → H1 D = none → H' D = some (.lst ys) → DfAll K (fun a => Fr F H1 a ∧ a ≠ D) H' ys ((ds.flatMap es).map m) → Q (.ref D) H') → tLc2 wi g tt wi1 g1 tt1 te vs vs1 σ H1 Q := fun H1 s Q q => hi H1 s _ fun J H2 s2 W D hD => by
  have hD1 : H1 D = none := s2.freshA hD
  let F2 : Addr → Prop := fun a => Fr F H1 a ∧ a ≠ D
  have nF : ¬ F2 D := fun z => z.2 rfl
  refine ⟨fun i k H' => k = ds.length - i ∧ i ≤ ds.length ∧ Same H2 H' ∧ ∃ ys, H' D = some (.lst ys) ∧ DfAll K F2 H' ys (((ds.take i).flatMap es).map m), ⟨ds.length, by simp, Nat.zero_le _, Same.newA hD, [], upd_same, by simp; exact .nil⟩, ?_⟩
  rintro i k H' ⟨rfl, hi, s3, ys, e, r⟩
  by_cases lt : i < ds.length
  · refine .inr ⟨W.go i H' s3.F lt, fun H5 => Same H2 H5 ∧ ∃ ys, H5 D = some (.lst ys) ∧ DfAll K F2 H5 ys (((ds.take (i + 1)).flatMap es).map m), fun H5 ⟨a, b⟩ => ⟨ds.length - (i + 1), by omega, rfl, lt, a, b⟩, fun x H3 y => ?_⟩
    obtain ⟨d, hd, s4, hx⟩ := W.yld i H' x H3 lt s3.F y
    have hx2 : Df K F2 H3 x d := df_mono (Same.refl _) (fun a z => ⟨z.1, fun q => z.2 (q ▸ hD)⟩) hx
    obtain ⟨σ2, hg, hw, htt, hin, hte⟩ := ht F2 H3 ⟨(((s.trans s2).trans s3).trans s4).F, fun a z n => ⟨.inl z, fun q => n (s.freshA (q ▸ hD1))⟩⟩ x d (List.mem_of_getElem? hd) hx2
    have tk : ds.take (i + 1) = ds.take i ++ [d] := by rw [List.take_succ, hd]; rfl
    have tkf : (ds.take (i + 1)).flatMap es = (ds.take i).flatMap es ++ es d := by rw [tk, List.flatMap_append]; simp
    have bnd : ((ds.take i).flatMap es ++ es d).length ≤ 50000 := by
      rw [← tkf]
      refine Nat.le_trans ?_ hl
      conv => rhs; rw [← List.take_append_drop (i + 1) ds, List.flatMap_append, List.length_append]
      exact Nat.le_add_right _ _
    refine hg _ ⟨hw, htt H3 (Same.refl _) _ fun H4 s5 => ?_⟩
    have e4 : H4 D = some (.lst ys) := s5 _ _ (s4 _ _ e)
    refine hin H4 s5 _ fun J1 H6 s6 W1 => ?_
    have e6 := s6 _ _ e4
    have s36 := (s4.trans s5).trans s6
    have nF4 : ¬ Fr F2 H4 D := fun z => z.elim nF (fun z => by rw [e4] at z; cases z)
    have to2 : ∀ a, Fr F2 H4 a → F2 a := fun a z => z.elim id fun z => ⟨.inr (s2.freshA (s3.freshA ((s4.trans s5).freshA z))), fun q => by rw [q, e4] at z; cases z⟩
    refine ⟨fun j k H' => k = (es d).length - j ∧ j ≤ (es d).length ∧ Same H2 H' ∧ SameF (Fr F2 H4) H6 H' ∧ ∃ ys, H' D = some (.lst ys) ∧ DfAll K F2 H' ys (((ds.take i).flatMap es ++ (es d).take j).map m), ⟨(es d).length, by simp, Nat.zero_le _, s3.trans s36, SameF.refl, ys, e6, by simp only [List.take_zero, List.append_nil]; exact dfs_mono s36 (fun _ z => z) r⟩, ?_⟩
    rintro j k H' ⟨rfl, hj, t3, tF, zs, ez, rz⟩
    by_cases lj : j < (es d).length
    · refine .inr ⟨W1.go j H' tF lj, fun H5 => Same H2 H5 ∧ SameF (Fr F2 H4) H6 H5 ∧ ∃ ys, H5 D = some (.lst ys) ∧ DfAll K F2 H5 ys (((ds.take i).flatMap es ++ (es d).take (j + 1)).map m), fun H5 ⟨a, b, c⟩ => ⟨(es d).length - (j + 1), by omega, rfl, lj, a, b, c⟩, fun x2 H7 y2 => ?_⟩
      obtain ⟨d2, hd2, t4, hx3⟩ := W1.yld j H' x2 H7 lj tF y2
      have hx4 : Df K F2 H7 x2 d2 := df_mono (Same.refl _) (fun a z => to2 a z.1) hx3
      have F37 : SameF F2 H3 H7 := ((s5.trans s6).F.trans (tF.sub fun a z => .inl z)).trans t4.F
      obtain ⟨σ3, hg3, hw3, htt3, hte3⟩ := hte F2 H7 ⟨F37, fun a z _ => z⟩ x2 d2 (List.mem_of_getElem? hd2) hx4
      have tk2 : (es d).take (j + 1) = (es d).take j ++ [d2] := by rw [List.take_succ, hd2]; rfl
      refine hg3 _ ⟨hw3, htt3 H7 (Same.refl _) _ fun H8 t5 => ?_⟩
      refine hte3 H8 t5 _ fun v H9 t6 hv => ?_
      have t46 := (t4.trans t5).trans t6
      have e9 : H9 D = some (.lst zs) := t46 _ _ ez
      have r9 : DfAll K F2 H9 zs (((ds.take i).flatMap es ++ (es d).take j).map m) := dfs_mono t46 (fun _ z => z) rz
      have v9 : Df K F2 H9 v (m d2) := df_mono (Same.refl _) (fun a z => by
        rcases z with z | z
        · exact z
        · exact ⟨.inr (s2.freshA (t3.freshA ((t4.trans t5).freshA z))), fun q => by
            have := (t4.trans t5) _ _ ez
            rw [q, this] at z; cases z⟩) hv
      have len9 := dfs_len r9
      rw [List.length_map, List.length_append, List.length_take] at len9
      rw [List.length_append] at bnd
      refine ⟨zs, e9, lt5 (by omega), fun a u h => ?_, (tF.trans t46.F).trans (SameF.upd e9 nF4), zs ++ [v], upd_same, ?_⟩
      · rw [upd_ne (ne_of_none h hD)]; exact t46 _ _ (t3 _ _ h)
      · rw [tk2, ← List.append_assoc, List.map_append]
        exact dfs_app (dfs_upd e9 nF r9) (.cons (df_upd e9 nF v9) .nil)
    · have : j = (es d).length := by omega
      subst this
      refine .inl ⟨W1.stop H' tF, t3, zs, ez, ?_⟩
      rw [tkf]; rw [List.take_length] at rz; exact rz
  · have : i = ds.length := by omega
    subst this
    refine .inl ⟨W.stop H' s3.F, q D ys H' (s2.trans s3) hD1 e ?_⟩
    rw [List.take_length] at r; exact r
end
end Ag

set_option Elab.async false
set_option linter.all false
set_option maxRecDepth 100000
set_option maxHeartbeats 1000000
/-! A text times an int; data that is good, made without naming it. -/
namespace Ag
open PySem PySem.Spec PyProof.Rows L2
def rRepS : R2 := fun x y H Q => ∃ (z : Str) (n : Nat), x = .str z ∧ y = .int (n : Int) ∧ z.length ≤ 1000 ∧ n ≤ 1000 ∧ Q (.str (Txt.mul z n)) H
theorem op_repS {X : Cx} : OpR X (binaryOp .Mult) rRepS := by
  intro pins s σ H x y v u Q I rx ry h
  obtain ⟨z, n, rfl, rfl, h1, h2, q⟩ := h
  obtain ⟨t, rfl⟩ := rx
  obtain ⟨t', rfl⟩ := ry
  exact SB.mul (mulOk_of 1000 1000 h1 (by omega) (by omega) (by decide) (by decide)) fun t' k => ⟨.str _, H, I.tok _, ⟨_, rfl⟩, q⟩
end Ag

set_option Elab.async false
set_option linter.all false
set_option maxRecDepth 100000
set_option maxHeartbeats 1000000
/-! sorted(list of alike data) over the layer: texts, ints, tuples of such. -/
namespace Ag
open PySem PySem.Spec PyProof.Rows L2
open PySem.W (EachIs AllAlike Sortable dataKind sortLe dataLt keyToks)
/-- a is not behind b -/
def leD (a b : PyData) : Bool := !dataLt b a
theorem each_of {h : Heap} : ∀ {xs : List V} {us : List Value} {ds : List PyData} {as : List Addr}, Vals xs us → ReadsAll h us ds as → EachIs (fun (u : Value) (b : V × PyData) => RelV b.1 u ∧ (∃ as, Reads h u b.2 as) ∧ b.2 ∈ ds) us (xs.zip ds)
  | [], _, _, _, .nil, .nil => .nil
  | x :: xs, u :: us, _, _, .cons r t, .cons (d := d) (ds := ds) h1 h2 => by
    rw [List.zip_cons_cons]
    refine .cons ⟨r, ⟨_, h1⟩, List.mem_cons_self⟩ (EachIs.mono (fun u b z => ⟨z.1, z.2.1, List.mem_cons_of_mem _ z.2.2⟩) (each_of t h2))
theorem vals_each {us : List Value} {zs : List (V × PyData)} (h : EachIs (fun (u : Value) (b : V × PyData) => RelV b.1 u) us zs) : Vals (zs.map Prod.fst) us := by
  induction h with
  | nil => exact .nil
  | cons a _ ih => exact .cons a ih
theorem each_reads {h : Heap} : ∀ {us : List Value} {ds : List PyData} {as : List Addr}, ReadsAll h us ds as → EachIs (fun v d => ∃ as, Reads h v d as) us ds
  | [], _, _, .nil => .nil
  | _ :: _, _, _, .cons a r => .cons ⟨_, a⟩ (each_reads r)
/-- sorted(xs): the data in their order, equal ones as they stood; zs: the items beside their data -/
def rSortD (K : PySem.W.Frag) : List V → Hp → VK → Prop := fun vs H Q => ∃ (a : Addr) (xs : List V) (ds : List PyData), vs = [V.ref a] ∧ SqL K H a xs ∧ DpAll K H xs ds ∧ AllAlike ds ∧ Sortable ds ∧ (∀ d ∈ ds, d.depth ≤ 50) ∧
  ∀ (zs : List (V × PyData)) p, zs.Perm (xs.zip ds) → zs.map Prod.snd = ds.mergeSort leD → H p = none → Q (.ref p) (upd H p (.lst (zs.map Prod.fst)))
theorem cr_sortD {X : Cx} (hu : X.A.units + 64 < cLine) : CallR X (.builtin "sorted") (rSortD X.K) := by
  intro pins s σ H vs us Q I r h
  obtain ⟨a, xs, ds, rfl, hs, hd, al, so, dp, q⟩ := h
  obtain ⟨its, rv, hl, hz⟩ := I.list hs
  rw [Vals.ref1 r]
  obtain ⟨as, hr⟩ := Dp.readsAll I ds xs its hd rv
  have len : its.length = ds.length := by rw [← rv.length, dps_len hd]
  have hr2 : ReadsAll (PySem.W.sortingHeap (PySem.W.copyHeap s.heap its) (s.heap.objs.size + 1) its) its ds as := PyProof.Rows.ReadsAll.keeps (fun b o e => PySem.W.sorting_copy_old e) hr
  refine PySem.W.sorted_vals (κ := dataKind (PySem.W.sortingHeap (PySem.W.copyHeap s.heap its) (s.heap.objs.size + 1) its) ds) hl.isList (PySem.W.SortsAt.data (each_reads hr2) al so fun d hd => ?_) (by rw [← rv.length]; exact hz) ?_
  · have := dp d hd
    show X.A.units + 1 + 1 + d.depth < cLine
    omega
  · have e1 := each_of rv hr2
    have hk : EachIs (fun (v : Value) (b : V × PyData) => (dataKind (PySem.W.sortingHeap (PySem.W.copyHeap s.heap its) (s.heap.objs.size + 1) its) ds).keyOf v = some (keyToks b.2)) its (xs.zip ds) :=
      EachIs.mono (fun u b z => by
        obtain ⟨_, ⟨as, h2⟩, h3⟩ := z
        exact PySem.W.dataKind_some al h3 h2) e1
    have e2 : EachIs (fun (u : Value) (b : V × PyData) => RelV b.1 u) its (xs.zip ds) := EachIs.mono (fun u b z => z.1) e1
    have e3 := PySem.W.sortVals_each (κ := dataKind (PySem.W.sortingHeap (PySem.W.copyHeap s.heap its) (s.heap.objs.size + 1) its) ds) (rev := false) (ks := its) (fun b : V × PyData => keyToks b.2) e2 hk
    have hn : H (s.heap.objs.size + 1) = none := I.hok.fresh (Nat.le_succ _)
    have hv := vals_each e3
    have pm : ((xs.zip ds).mergeSort (sortLe (dataKind (PySem.W.sortingHeap (PySem.W.copyHeap s.heap its) (s.heap.objs.size + 1) its) ds).toKeyOrd false fun b : V × PyData => keyToks b.2)).Perm (xs.zip ds) := List.mergeSort_perm _ _
    obtain ⟨n, hat⟩ := sortedAll_at s.heap its (PySem.W.sortVals (dataKind (PySem.W.sortingHeap (PySem.W.copyHeap s.heap its) (s.heap.objs.size + 1) its) ds) false its its).toArray
    refine ⟨.ref (s.heap.objs.size + 1), upd H (s.heap.objs.size + 1) (.lst (((xs.zip ds).mergeSort (sortLe (dataKind (PySem.W.sortingHeap (PySem.W.copyHeap s.heap its) (s.heap.objs.size + 1) its) ds).toKeyOrd false fun b : V × PyData => keyToks b.2)).map Prod.fst)),
      I.laid (t' := s.toks) (fun b o e => sortedAll_old e) (Nat.le_succ _) ⟨?_, _, n, hv, hat⟩, rfl, q _ _ pm ?_ hn⟩
    · rw [List.length_map, pm.length_eq, List.length_zip]
      have := dps_len hd
      have := rv.length
      omega
    · exact (PySem.W.sort_maps (s := leD) Prod.snd fun p _ q _ => rfl).trans (by rw [List.map_snd_zip (by have := dps_len hd; omega)])
end Ag

set_option Elab.async false
set_option linter.all false
set_option maxRecDepth 100000
set_option maxHeartbeats 1000000
/-! Texts split and joined, as data. -/
namespace Ag
open PySem PySem.Spec PyProof.Rows L2
section
variable {K : PySem.W.Frag} {σ : L2.St} {F : Addr → Prop} {H : Hp} {to te : TE} {a b : Str}
theorem ed_split (ho : ED K to σ F H (.str a)) (he : ED K te σ F H (.str b)) (hb : (b.length == 0) = false) (ha : a.length ≤ 100000) :
    ED K (tM1 (fun x xs H Q => ∃ a b, x = .str a ∧ xs = [.str b] ∧ (b.length == 0) = false ∧ a.length + 2 ≤ sizeLine ∧ rNewStrs (Txt.split a b) H Q) to te) σ F H (.list ((Txt.split a b).map .str)) := fun H1 s Q q =>
  ho H1 s _ fun v H2 s2 hv => by
    cases hv
    refine ⟨⟨a, rfl⟩, he H2 (s.trans s2) _ fun u H3 s3 hu => ?_⟩
    cases hu
    refine ⟨a, b, rfl, rfl, hb, Nat.le_trans (Nat.add_le_add_right ha 2) (by decide), fun p hp => ?_⟩
    have s23 := s2.trans s3
    exact q _ _ (s23.trans (Same.newA hp)) (.lst (.inl ⟨.inl upd_same, .inr (s23.freshA hp)⟩) (dfs_strs _))
theorem ed_join {ys : List Str} {e : PyData} (ho : ED K to σ F H (.str a)) (he : ED K te σ F H e) (h : e = .list (ys.map .str) ∨ e = .tuple (ys.map .str)) (hl : (ys.map (·.length)).sum + ys.length * a.length ≤ 16777216) :
    ED K (tM1 (fun x xs H Q => ∃ a p, ∃ ys : List Str, x = .str a ∧ xs = [.ref p] ∧ (SqL K H p (ys.map V.str) ∨ SqT K H p (ys.map V.str)) ∧ (ys.map (·.length)).sum + ys.length * a.length ≤ 16777216 ∧ Q (.str (Txt.join a ys)) H) to te) σ F H (.str (Txt.join a ys)) := fun H1 s Q q =>
  ho H1 s _ fun v H2 s2 hv => by
    cases hv
    refine ⟨⟨a, rfl⟩, he H2 (s.trans s2) _ fun u H3 s3 hu => ?_⟩
    have hq : ∃ p, u = .ref p ∧ (SqL K H3 p (ys.map V.str) ∨ SqT K H3 p (ys.map V.str)) := by
      rcases h with rfl | rfl
      · cases hu with
        | lst h r => rw [strs_dps (dfs_dps r)] at h; exact ⟨_, rfl, .inl (h.imp (fun z => z.1) id)⟩
      · cases hu with
        | tup h r => rw [strs_dps (dfs_dps r)] at h; exact ⟨_, rfl, .inr h⟩
    obtain ⟨p, rfl, hs⟩ := hq
    exact ⟨a, p, ys, rfl, rfl, hs, hl, q _ _ (s2.trans s3) (.str _)⟩
end
end Ag

set_option Elab.async false
set_option linter.all false
set_option maxRecDepth 100000
set_option maxHeartbeats 1000000
/-! repr of data, where nothing is being shown. -/
namespace Ag
open PySem PySem.Spec PyProof.Rows L2
/-- data, or an empty dict -/
def Dx (K : PySem.W.Frag) (H : Hp) (v : V) (d : PyData) : Prop := Dp K H v d ∨ (d = .dict [] ∧ ∃ a, v = .ref a ∧ H a = some (.dK []))
theorem Dx.mono {K : PySem.W.Frag} {H H' : Hp} {v : V} {d : PyData} (e : Same H H') (h : Dx K H v d) : Dx K H' v d := h.imp (dp_mono e) fun ⟨a, b, c, q⟩ => ⟨a, b, c, e _ _ q⟩
theorem Dx.dp {K : PySem.W.Frag} {H : Hp} {v : V} {d : PyData} (h : Dp K H v d) : Dx K H v d := .inl h
theorem Dx.reads {X : Cx} {pins : List (Addr × Obj)} {σ : L2.St} {H : Hp} {s : Shared} (I : Inv X pins σ H s) {d : PyData} {v : V} {u : Value} (h : Dx X.K H v d) (r : RelV v u) : ∃ as, Reads s.heap u d as ∧ (d.hasDict = true → sysModules ∉ as) := by
  rcases h with h | ⟨rfl, a, rfl, h⟩
  · obtain ⟨as, q⟩ := Dp.reads I d v u h r
    refine ⟨as, q, fun z => ?_⟩
    have nd : d.hasDict = false := by
      have key : ∀ (d : PyData) (v : V), Dp X.K H v d → d.hasDict = false := by
        intro d v h
        exact Dp.rec (motive_1 := fun _ d _ => d.hasDict = false) (motive_2 := fun _ ds _ => PyData.hasDictAll ds = false) (by simp [PyData.hasDict]) (fun _ => by simp [PyData.hasDict]) (fun _ => by simp [PyData.hasDict]) (fun _ => by simp [PyData.hasDict])
          (fun _ _ ih => by simp only [PyData.hasDict]; exact ih) (fun _ _ ih => by simp only [PyData.hasDict]; exact ih) (by simp [PyData.hasDictAll]) (fun _ _ i1 i2 => by simp only [PyData.hasDictAll]; rw [i1, i2]; rfl) h
      exact key d v h
    rw [nd] at z; cases z
  · cases r
    obtain ⟨_, ns, vs, kv, o, es, ep, e1, ⟨c1, _⟩, e3, e4, e5, _⟩ := I.hok a _ h
    cases kv
    have ez : es.toList = [] := by
      cases q : es.toList with
      | nil => rfl
      | cons x r => rw [q] at e5; cases e5
    refine ⟨_, .dict e1 c1 e3 (by rw [ez]; exact .nil) (by rw [ez]; exact .nil), fun _ m => ?_⟩
    have m : sysModules = a := by simpa using m
    rw [m] at ns; simp at ns
def rRepr (K : PySem.W.Frag) : List V → Hp → VK → Prop := fun vs H Q => ∃ x d, vs = [x] ∧ Dx K H x d ∧ d.showable = true ∧ d.depth ≤ 50 ∧ d.shown.length ≤ sizeLine ∧ Q (.str d.shown) H
theorem cr_repr {X : Cx} (hg : X.A.guards = some []) (hu : X.A.units + 64 < cLine) : CallR X (.builtin "repr") (rRepr X.K) := by
  intro pins s σ H vs us Q I r h
  obtain ⟨x, d, rfl, hd, sh, dp, sz, q⟩ := h
  obtain ⟨u, rfl, ru⟩ := r.one
  obtain ⟨as, hr, hsm⟩ := Dx.reads I hd ru
  cases hr with
  | none => exact PySem.P.repr_of_none ⟨.str _, H, I.tok _, ⟨_, rfl⟩, q⟩
  | bool b => exact PySem.P.repr_of_bool ⟨.str _, H, I.tok _, ⟨_, rfl⟩, q⟩
  | int i t => exact PySem.P.repr_of_int (by simpa [PyData.showable] using sh) ⟨.str _, H, I.tok _, ⟨_, rfl⟩, q⟩
  | str x t => exact PySem.P.repr_of_str ⟨.str _, H, I.tok _, ⟨_, rfl⟩, q⟩ sz
  | list h1 h2 h3 h4 => exact PySem.repr_of_reads' (.list h1 h2 h3 h4) sh hsm hg (by omega) (fun _ _ e => e) (fun h' u tk hk => ⟨.str _, H, I.kept hk, ⟨_, rfl⟩, q⟩) sz
  | tuple h1 h2 h3 h4 => exact PySem.repr_of_reads' (.tuple h1 h2 h3 h4) sh hsm hg (by omega) (fun _ _ e => e) (fun h' u tk hk => ⟨.str _, H, I.kept hk, ⟨_, rfl⟩, q⟩) sz
  | dict h1 h2 h3 h4 h5 => exact PySem.repr_of_reads' (.dict h1 h2 h3 h4 h5) sh hsm hg (by omega) (fun _ _ e => e) (fun h' u tk hk => ⟨.str _, H, I.kept hk, ⟨_, rfl⟩, q⟩) sz
theorem ed_repr {K : PySem.W.Frag} {σ : L2.St} {F : Addr → Prop} {H : Hp} {ta : TE} {d : PyData} (ha : ED K ta σ F H d) (h1 : d.showable = true) (h2 : d.depth ≤ 50) (h3 : d.shown.length ≤ sizeLine) : ED K (tCB (rRepr K) (tCons ta tNil)) σ F H (.str d.shown) :=
  ed_cb (ea_cons ha ea_nil) fun F vs H1 hv Q q => by
    cases hv with
    | cons a r => cases r; exact ⟨_, d, rfl, .inl (df_dp a), h1, h2, h3, q _ _ (Same.refl _) (.str _)⟩
end Ag

set_option Elab.async false
set_option linter.all false
set_option maxRecDepth 100000
set_option maxHeartbeats 1000000
/-! What stays where the pen is drawn and tables of code objects grow. -/
namespace Ag
open PySem PySem.Spec PyProof.Rows L2 LamX
/-- all but the pen and the tables is kept -/
def Kp (p : Addr) (H H' : Hp) : Prop := ∀ a o, a ≠ p → (∀ ps, o ≠ .tbl ps) → H a = some o → H' a = some o
theorem Kp.refl (p : Addr) (H : Hp) : Kp p H H := fun _ _ _ _ h => h
theorem Kp.trans {p : Addr} {H H1 H2 : Hp} (a : Kp p H H1) (b : Kp p H1 H2) : Kp p H H2 := fun x o n t h => b x o n t (a x o n t h)
theorem Kp.but {p : Addr} {H H1 : Hp} (b : But p H H1) : Kp p H H1 := fun x o n _ h => b x o n h
theorem Kp.of {p : Addr} {H H1 : Hp} (b : Same H H1) : Kp p H H1 := fun x o _ _ h => b x o h
theorem Kp.ext {p : Addr} {H H1 : Hp} (b : ExtN H H1) : Kp p H H1 := fun x o _ t h => b x o h t
section
variable {K : PySem.W.Frag} {p c : Addr} {n : Nat} {H H' : Hp}
theorem Pen.rdK {a : Addr} {u : HO} (h : Pen p c n H) (b : Kp p H H') (r : Rd H a u) (no : ∀ kvs, u ≠ .dK kvs) (nt : ∀ ps, u ≠ .tbl ps) : Rd H' a u := by
  rcases r with r | ⟨o, r⟩
  · exact .inl (b _ _ (h.ne r no) nt r)
  · exact .inr ⟨o, b _ _ (h.ne r (fun _ z => nomatch z)) (fun _ z => nomatch z) r⟩
theorem Pen.slK {a : Addr} {xs : List V} (h : Pen p c n H) (b : Kp p H H') (r : SqL K H a xs) : SqL K H' a xs := r.imp (fun z => h.rdK b z (fun _ z => nomatch z) (fun _ z => nomatch z)) id
theorem Pen.stK {a : Addr} {xs : List V} (h : Pen p c n H) (b : Kp p H H') (r : SqT K H a xs) : SqT K H' a xs := r.imp (fun z => h.rdK b z (fun _ z => nomatch z) (fun _ z => nomatch z)) id
mutual
theorem Pen.dpK (h : Pen p c n H) (b : Kp p H H') : ∀ {v : V} {d : PyData}, Dp K H v d → Dp K H' v d
  | _, _, .non => .non
  | _, _, .bl b => .bl b
  | _, _, .int i => .int i
  | _, _, .str x => .str x
  | _, _, .lst q r => .lst (h.slK b q) (Pen.dpsK h b r)
  | _, _, .tup q r => .tup (h.stK b q) (Pen.dpsK h b r)
theorem Pen.dpsK (h : Pen p c n H) (b : Kp p H H') : ∀ {vs : List V} {ds : List PyData}, DpAll K H vs ds → DpAll K H' vs ds
  | _, _, .nil => .nil
  | _, _, .cons q r => .cons (Pen.dpK h b q) (Pen.dpsK h b r)
end
theorem Pen.ext (h : Pen p c n H) (b : ExtN H H') : Pen p c n H' := by
  obtain ⟨cells, a, d, k, f, hp, hc, r⟩ := h
  refine ⟨cells, a, d, k, f, b _ _ hp (fun _ z => nomatch z), ?_, r⟩
  rcases hc with hc | ⟨o, hc⟩
  · exact .inl (b _ _ hc (fun _ z => nomatch z))
  · exact .inr ⟨o, b _ _ hc (fun _ z => nomatch z)⟩
/-- the tables stand where but the pen is changed -/
theorem tabs_but {T : List (Addr × Str)} (h : Pen p c n H) (b : But p H H') (t : Tabs T H) : Tabs T H' := fun q hq => by
  obtain ⟨ps, e, tr, co⟩ := t q hq
  refine ⟨ps, b _ _ (h.ne e (fun _ z => nomatch z)) e, tr, fun pos cv hcv => ?_⟩
  obtain ⟨cc, rfl, hc⟩ := co pos cv hcv
  exact ⟨cc, rfl, b _ _ (h.ne hc (fun _ z => nomatch z)) hc⟩
end
end Ag

set_option Elab.async false
set_option linter.all false
set_option maxRecDepth 100000
set_option maxHeartbeats 1000000
/-! The order of alike data over the layer. -/
namespace Ag
open PySem PySem.Spec PyProof.Rows L2
open PySem.W (alike alikeAll dataLt)
def rLtD (K : PySem.W.Frag) : R2 := fun x y H Q => ∃ d e, Dp K H x d ∧ Dp K H y e ∧ alike d e = true ∧ d ≠ .none ∧ min d.depth e.depth ≤ 50 ∧ Q (.bl (dataLt d e)) H
def rGtD (K : PySem.W.Frag) : R2 := fun x y H Q => ∃ d e, Dp K H x d ∧ Dp K H y e ∧ alike d e = true ∧ d ≠ .none ∧ min d.depth e.depth ≤ 50 ∧ Q (.bl (dataLt e d)) H
theorem op_ltD {X : Cx} (hu : X.A.units + 64 < cLine) : OpR X (compareOp .Lt) (rLtD X.K) := by
  intro pins s σ H x y v u Q I rx ry h
  obtain ⟨d, e, hd, he, al, nn, dp, q⟩ := h
  obtain ⟨as, r1⟩ := Dp.reads I d x v hd rx
  obtain ⟨bs, r2⟩ := Dp.reads I e y u he ry
  exact PySem.W.lt_data r1 r2 al nn (by omega) ⟨.bl _, H, I, rfl, q⟩
theorem op_gtD {X : Cx} (hu : X.A.units + 64 < cLine) : OpR X (compareOp .Gt) (rGtD X.K) := by
  intro pins s σ H x y v u Q I rx ry h
  obtain ⟨d, e, hd, he, al, nn, dp, q⟩ := h
  obtain ⟨as, r1⟩ := Dp.reads I d x v hd rx
  obtain ⟨bs, r2⟩ := Dp.reads I e y u he ry
  exact PySem.W.gt_data r1 r2 al nn (by omega) ⟨.bl _, H, I, rfl, q⟩
theorem alike_strs : ∀ (xs ys : List Str), alikeAll (xs.map .str) (ys.map .str) = true
  | [], _ => by simp [alikeAll]
  | _ :: _, [] => by simp [alikeAll]
  | x :: xs, y :: ys => by
    simp only [List.map_cons, alikeAll, Bool.and_eq_true]
    exact ⟨by simp [alike], alike_strs xs ys⟩
section
variable {K : PySem.W.Frag} {σ : L2.St} {F : Addr → Prop} {H : Hp} {ta tb : TE} {d e : PyData}
theorem ed_ltD (ha : ED K ta σ F H d) (hb : ED K tb σ F H e) (h1 : alike d e = true) (h2 : d ≠ .none) (h3 : min d.depth e.depth ≤ 50) : ED K (tOp (rLtD K) ta tb) σ F H (.bool (dataLt d e)) :=
  ed_op ha hb fun F x y H1 hx hy Q q => ⟨d, e, df_dp hx, df_dp hy, h1, h2, h3, q _ _ (Same.refl _) (.bl _)⟩
theorem ed_gtD (ha : ED K ta σ F H d) (hb : ED K tb σ F H e) (h1 : alike d e = true) (h2 : d ≠ .none) (h3 : min d.depth e.depth ≤ 50) : ED K (tOp (rGtD K) ta tb) σ F H (.bool (dataLt e d)) :=
  ed_op ha hb fun F x y H1 hx hy Q q => ⟨d, e, df_dp hx, df_dp hy, h1, h2, h3, q _ _ (Same.refl _) (.bl _)⟩
end
theorem strs_depth : ∀ (xs : List Str), PyData.depthAll (xs.map .str) ≤ 1
  | [] => by simp [PyData.depthAll]
  | x :: xs => by
    have := strs_depth xs
    simp only [List.map_cons, PyData.depthAll, PyData.depth]
    omega
end Ag

set_option Elab.async false
set_option linter.all false
set_option maxRecDepth 100000
set_option maxHeartbeats 1000000
/-! Either of two promises; the empty dict asked for its kind. -/
namespace Ag
open PySem PySem.Spec PyProof.Rows L2
/-- a promise that holds where one of two does -/
def spOr (sp sp' : Sp) : Sp := fun vs H Q E => sp vs H Q E ∨ sp' vs H Q E
theorem fn_or {P : Program} {w : World} {K : PySem.W.Frag} {mg : Str → Option Value} {base : Heap} {CX : CXT} {k : Nat} {f : Addr} {fd : FuncData} {ps : List Str} {sp sp' : Sp} (F : FnOk P w K mg base CX k f fd ps sp) (G : FnOk P w K mg base CX k f fd ps sp') :
    FnOk P w K mg base CX k f fd ps (spOr sp sp') :=
  ⟨fun vs H Q E q => q.elim (F.len vs H Q E) (G.len vs H Q E), fun A outer s H args us vs Q E hr he hb hv hs => hs.elim (fun z => F.run A outer s H args us vs Q E hr he hb hv z) (fun z => G.run A outer s H args us vs Q E hr he hb hv z)⟩
section
variable {K : PySem.W.Frag} {σ : L2.St} {F : Addr → Prop} {H : Hp}
theorem kit_dict {T : String} (hT : T = "str" ∨ T = "tuple" ∨ T = "list" ∨ T = "int" ∨ T = "bool") : PySem.W.kitOne K (.type "dict") (.type T) = some false := by
  rcases hT with rfl | rfl | rfl | rfl | rfl
  · exact kit_ty (show kitB "dict" "str" = some false by decide +kernel)
  · exact kit_ty (show kitB "dict" "tuple" = some false by decide +kernel)
  · exact kit_ty (show kitB "dict" "list" = some false by decide +kernel)
  · exact kit_ty (show kitB "dict" "int" = some false by decide +kernel)
  · exact kit_ty (show kitB "dict" "bool" = some false by decide +kernel)
theorem ed_isiE {i : Nat} {a : Addr} {T : String} (h : σ[i]? = some (some (.ref a))) (ha : H a = some (.dK [])) (hT : T = "str" ∨ T = "tuple" ∨ T = "list" ∨ T = "int" ∨ T = "bool") :
    ED K (tCB (rIsi K) (tCons (tVar i) (tCons (tC (.ty T)) tNil))) σ F H (.bool false) := fun H1 s Q q =>
  ⟨_, h, .ref a, .ty T, _, _, _, rfl, .ty T, .base (.dK (s _ _ ha)), kit_dict hT, q _ _ (Same.refl _) (.bl _)⟩
theorem dp_strsF {v : V} {xs : List Str} (h : Dp K H v (.tuple (xs.map .str))) : Df K F H v (.tuple (xs.map .str)) := by
  cases h with
  | tup hs r => have := strs_dps r; subst this; exact .tup hs (dfs_strs xs)
end
end Ag

set_option Elab.async false
set_option linter.all false
set_option maxRecDepth 100000
set_option maxHeartbeats 1000000
/-! Texts of plain signs and how long they may be; lists of texts, made and joined anew. -/
namespace Ag
open PySem PySem.Spec PyProof.Rows L2
/-- plain signs, at most n of them -/
def As (n : Nat) (x : Str) : Prop := (∀ c ∈ x.cps.toList, c < 128) ∧ x.length ≤ n
theorem As.more {m n : Nat} {x : Str} (h : As m x) (l : m ≤ n) : As n x := ⟨h.1, Nat.le_trans h.2 l⟩
theorem as_cat {m n : Nat} {x y : Str} (h : As m x) (k : As n y) : As (m + n) (x ++ y) := by
  refine ⟨fun c hc => ?_, by rw [Str.length_append]; exact Nat.add_le_add h.2 k.2⟩
  have e : (x ++ y).cps.toList = x.cps.toList ++ y.cps.toList := TL.tl_append x y
  rw [e] at hc
  exact (List.mem_append.mp hc).elim (h.1 c) (k.1 c)
theorem as_cut {n : Nat} {x : Str} {lo hi : Option Int} (h : As n x) : As n (cutS x lo hi) := by
  have e : (cutS x lo hi).cps.toList = (x.cps.toList.drop (HT.sIx x.length 0 lo)).take (HT.sIx x.length x.length hi - HT.sIx x.length 0 lo) := by
    unfold cutS; simp
  refine ⟨fun c hc => h.1 c ?_, ?_⟩
  · rw [e] at hc; exact List.mem_of_mem_drop (List.mem_of_mem_take hc)
  · show (cutS x lo hi).cps.size ≤ n
    rw [← Array.length_toList, e, List.length_take, List.length_drop, Array.length_toList]
    have : x.cps.size ≤ n := h.2
    omega
theorem up1_lt : ∀ c, c < 128 → PyProof.Rows.up1 c < 128 := by decide +kernel
theorem as_upper {n : Nat} {x : Str} (h : As n x) : As n (Txt.upper x) := by
  rw [PyProof.Rows.upper_ascii h.1]
  refine ⟨fun c hc => ?_, ?_⟩
  · have hc : c ∈ (x.cps.map PyProof.Rows.up1).toList := hc
    rw [Array.toList_map] at hc
    obtain ⟨b, hb, rfl⟩ := List.mem_map.mp hc
    exact up1_lt b (h.1 b hb)
  · show (x.cps.map PyProof.Rows.up1).size ≤ n
    rw [Array.size_map]; exact h.2
/-- a checked text -/
def asB (n : Nat) (x : Str) : Bool := x.cps.toList.all (fun c => decide (c < 128)) && decide (x.length ≤ n)
theorem as_of {n : Nat} {x : Str} (h : asB n x = true) : As n x := by
  unfold asB at h
  obtain ⟨h1, h2⟩ := Bool.and_eq_true_iff.mp h
  exact ⟨fun c hc => of_decide_eq_true (List.all_eq_true.mp h1 c hc), of_decide_eq_true h2⟩
theorem as_join {s : Str} {n m : Nat} (hs : As m s) : ∀ {xs : List Str}, (∀ x ∈ xs, As n x) → As (xs.length * (n + m)) (Str.join s xs)
  | [], _ => ⟨fun c hc => absurd hc (List.not_mem_nil), (Nat.zero_le _)⟩
  | [x], h => ((h x List.mem_cons_self).more (by simp))
  | x :: y :: r, h => by
    have i := as_join hs (xs := y :: r) fun z hz => h z (List.mem_cons_of_mem _ hz)
    have e : Str.join s (x :: y :: r) = x ++ s ++ Str.join s (y :: r) := rfl
    rw [e]
    refine (as_cat (as_cat (h x List.mem_cons_self) hs) i).more ?_
    simp only [List.length_cons, Nat.add_mul, Nat.one_mul]; omega
section
variable {K : PySem.W.Frag} {σ : L2.St} {F : Addr → Prop} {H : Hp} {te ta tb : TE} {d e : PyData}
theorem ed_slS {x : Str} {tl th : TO} {lo hi : Option Int} (h : ED K te σ F H (.str x)) (hx : x.length ≤ 100000) (hl : EO tl σ H lo) (hh : EO th σ H hi) : ED K (tSl rSlS te tl th) σ F H (.str (cutS x lo hi)) := fun H1 s Q q =>
  h H1 s _ fun v H2 s2 hv => by
    cases hv
    refine hl H2 (s.trans s2) _ fun H3 s3 => hh H3 ((s.trans s2).trans s3) _ fun H4 s4 => ?_
    exact ⟨x, rfl, small5 hx, q _ _ ((s2.trans s3).trans s4) (.str _)⟩
theorem ed_upper {x : Str} (h : ED K te σ F H (.str x)) (hx : x.length ≤ 100000) : ED K (tM0 (fun x xs H Q => ∃ a, x = .str a ∧ xs = [] ∧ a.length ≤ 5592405 ∧ Q (.str (Txt.upper a)) H) te) σ F H (.str (Txt.upper x)) := fun H1 s Q q =>
  h H1 s _ fun v H2 s2 hv => by
    cases hv
    exact ⟨⟨x, rfl⟩, x, rfl, rfl, by omega, q _ _ s2 (.str _)⟩
/-- gives a list of these texts -/
def EL (te : TE) (σ : L2.St) (H : Hp) (xs : List Str) : Prop := ∀ H1, Same H H1 → ∀ Q : VK, (∀ p H2, Same H1 H2 → H2 p = some (.lst (xs.map V.str)) → Q (.ref p) H2) → te σ H1 Q
theorem EL.mono {H' : Hp} {xs : List Str} (s : Same H H') (h : EL te σ H xs) : EL te σ H' xs := fun H1 a Q q => h H1 (s.trans a) Q q
theorem el_var {i : Nat} {p : Addr} {xs : List Str} (h : σ[i]? = some (some (.ref p))) (hp : H p = some (.lst (xs.map V.str))) : EL (tVar i) σ H xs := fun H1 s Q q => ⟨_, h, q p H1 (Same.refl _) (s _ _ hp)⟩
theorem el_cat {xs ys : List Str} (ha : EL ta σ H xs) (hb : EL tb σ H ys) (hl : xs.length + ys.length ≤ 100000) : EL (tOp rCat ta tb) σ H (xs ++ ys) := fun H1 s Q q =>
  ha H1 s _ fun p H2 s2 hp => hb H2 (s.trans s2) _ fun b H3 s3 hb3 =>
    ⟨p, b, _, _, rfl, rfl, s3 _ _ hp, hb3, by rw [List.length_map, List.length_map]; exact small5 hl, fun l hn => q l _ ((s2.trans s3).trans (Same.newA hn)) (by rw [upd_same, List.map_append])⟩
theorem el_lst {t : TA} {xs : List Str} (h : EA K t σ F H (xs.map .str)) (hl : xs.length ≤ 100000) : EL (tLst t) σ H xs := fun H1 s Q q =>
  h H1 s _ fun vs H2 s2 hv => by
    have e := strs_dps (dfs_dps hv)
    subst e
    exact ⟨by rw [List.length_map]; exact small5 hl, fun p hp => q p _ (s2.trans (Same.newA hp)) upd_same⟩
def cutW (xs : List Str) (lo hi : Option Int) : List Str := (xs.drop (HT.sIx xs.length 0 lo)).take (HT.sIx xs.length xs.length hi - HT.sIx xs.length 0 lo)
theorem cutW_map (xs : List Str) (lo hi : Option Int) : cutV (xs.map V.str) lo hi = (cutW xs lo hi).map V.str := by
  unfold cutV cutW; rw [List.length_map, List.map_take, List.map_drop]
theorem cutW_mem {xs : List Str} {lo hi : Option Int} {x : Str} (h : x ∈ cutW xs lo hi) : x ∈ xs := List.mem_of_mem_drop (List.mem_of_mem_take h)
theorem cutW_len {xs : List Str} {lo hi : Option Int} : (cutW xs lo hi).length ≤ xs.length := by
  unfold cutW; rw [List.length_take, List.length_drop]; omega
theorem el_slice {xs : List Str} {tl th : TO} {lo hi : Option Int} (h : EL te σ H xs) (hl : EO tl σ H lo) (hh : EO th σ H hi) : EL (tSl (rSlL K) te tl th) σ H (cutW xs lo hi) := fun H1 s Q q =>
  h H1 s _ fun p H2 s2 hp => hl H2 (s.trans s2) _ fun H3 s3 => hh H3 ((s.trans s2).trans s3) _ fun H4 s4 =>
    ⟨p, _, rfl, .inl (.inl (s4 _ _ (s3 _ _ hp))), fun l hn => q l _ (((s2.trans s3).trans s4).trans (Same.newA hn)) (by rw [upd_same, cutW_map])⟩
theorem el_rep2 {xs : List Str} {tb : TE} (ha : EL ta σ H xs) (hb : ED K tb σ F H (.int 2)) (hl : xs.length ≤ 50000) : EL (tOp rRep ta tb) σ H (xs ++ xs) := fun H1 s Q q =>
  ha H1 s _ fun p H2 s2 hp => hb H2 (s.trans s2) _ fun b H3 s3 hb3 => by
    cases hb3
    refine ⟨p, 2, _, rfl, rfl, s3 _ _ hp, by decide, by decide, ?_, fun l hn => q l _ ((s2.trans s3).trans (Same.newA hn)) ?_⟩
    · rw [List.length_map]; refine small5 ?_
      show xs.length * 2 ≤ _
      omega
    · rw [upd_same]
      show some (HO.lst (List.replicate 2 (xs.map V.str)).flatten) = _
      rw [List.map_append]; simp [List.replicate]
theorem el_if {t : TT} {b : Bool} {xs ys : List Str} (h : ET t σ H b) (h1 : b = true → EL ta σ H xs) (h2 : b = false → EL tb σ H ys) : EL (tIf t ta tb) σ H (if b then xs else ys) := fun H1 s Q q => h H1 s _ fun H2 s2 => by
  cases b with
  | true => exact h1 rfl H2 (s.trans s2) _ fun p H3 s3 hp => q p H3 (s2.trans s3) hp
  | false => exact h2 rfl H2 (s.trans s2) _ fun p H3 s3 hp => q p H3 (s2.trans s3) hp
end
end Ag

set_option Elab.async false
set_option linter.all false
set_option maxRecDepth 100000
set_option maxHeartbeats 1000000
set_option pp.maxSteps 300
/-! Short ways through readings: values, pairs of arguments, loops. -/
namespace Ag
open PySem PySem.Spec PyProof.Rows L2 LamX
theorem ite2 {c : Prop} [Decidable c] {A B : Prop} (h1 : c → A) (h2 : ¬ c → B) : if c then A else B := by
  by_cases h : c
  · rw [if_pos h]; exact h1 h
  · rw [if_neg h]; exact h2 h
section
variable {K : PySem.W.Frag} {σ : L2.St} {F : Addr → Prop} {H : Hp} {te ta tb : TE} {d e : PyData}
theorem dfs_ints : ∀ (xs : List Int), DfAll K F H (xs.map V.int) (xs.map .int)
  | [] => .nil
  | x :: xs => .cons (.int x) (dfs_ints xs)
theorem ed_val {v : V} (hd : Df K F H v d) : ED K (tC v) σ F H d := fun H1 s Q q => q v H1 (Same.refl _) (df_mono s Fr.base hd)
theorem run_edc {tr : TA} {Q : List V → Hp → Prop} (h : ED K te σ F H d) (k : ∀ v H1, Same H H1 → Df K (Fr F H) H1 v d → tr σ H1 fun vs H2 => Q (v :: vs) H2) : tCons te tr σ H Q := h H (Same.refl _) _ k
theorem run_catT {v y : V} {xs ys : List PyData} {Q : VK} (hv : Df K F H v (.tuple xs)) (hy : Df K F H y (.tuple ys)) (hl : xs.length + ys.length ≤ 100000) (k : ∀ z H1, Same H H1 → Df K (Fr F H) H1 z (.tuple (xs ++ ys)) → Q z H1) : rCatA K v y H Q :=
  ed_catT (σ := []) (ed_val hv) (ed_val hy) hl H (Same.refl _) Q k
theorem run_el1 {xs : List Str} {tr : TA} {Q : List V → Hp → Prop} (h : EL te σ H xs) (k : ∀ p H1, Same H H1 → H1 p = some (.lst (xs.map V.str)) → tr σ H1 fun vs H2 => Q (V.ref p :: vs) H2) : tCons te tr σ H Q := h H (Same.refl _) _ k
/-- while, and what follows -/
theorem run_while {c : TT} {tb tz : TS} {D : Ends} {W : Nat → L2.St → Hp → Prop} {m0 : Nat} (h0 : W m0 σ H)
    (hs : ∀ m σ H, W m σ H → ∃ b, ET c σ H b ∧ (b = true → ∀ H1, Same H H1 → ∃ N : L2.St → Hp → Prop, (∀ σ' H', N σ' H' → ∃ m', m' < m ∧ W m' σ' H') ∧ tb { D with nx := N, ct := N, bk := tz D } σ H1) ∧ (b = false → ∀ H1, Same H H1 → tz D σ H1)) :
    tSeq (tWhile c tb) tz D σ H := ⟨W, ⟨m0, h0⟩, fun m σ H w => by
  obtain ⟨b, hc, h1, h2⟩ := hs m σ H w
  refine hc H (Same.refl _) _ fun H2 s2 => ?_
  cases b with
  | true => exact h1 rfl H2 s2
  | false => exact h2 rfl H2 s2⟩
end
theorem lt_int {a b : Nat} : decide ((a : Int) < (b : Int)) = decide (a < b) := by
  by_cases h : a < b
  · rw [decide_eq_true h, decide_eq_true (by omega)]
  · rw [decide_eq_false h, decide_eq_false (by omega)]
theorem take_snoc {α : Type} {l : List α} {j : Nat} {x : α} (h : l[j]? = some x) : l.take (j + 1) = l.take j ++ [x] := by rw [List.take_succ, h]; rfl
theorem zip_get {α β : Type} {xs : List α} {ys : List β} {j : Nat} {x : α} {y : β} (h1 : xs[j]? = some x) (h2 : ys[j]? = some y) : (xs.zip ys)[j]? = some (x, y) := by
  rw [List.getElem?_zip_eq_some]; exact ⟨h1, h2⟩
theorem str_at {xs : List Str} {j : Nat} {v : V} (h : (xs.map V.str)[j]? = some v) : ∃ s, xs[j]? = some s ∧ v = .str s := by
  rw [List.getElem?_map] at h
  cases e : xs[j]? with
  | none => rw [e] at h; cases h
  | some s => rw [e] at h; exact ⟨s, rfl, (Option.some.inj h).symm⟩
theorem int_at {xs : List Int} {j : Nat} {v : V} (h : (xs.map V.int)[j]? = some v) : ∃ s, xs[j]? = some s ∧ v = .int s := by
  rw [List.getElem?_map] at h
  cases e : xs[j]? with
  | none => rw [e] at h; cases h
  | some s => rw [e] at h; exact ⟨s, rfl, (Option.some.inj h).symm⟩
theorem sqt_upd {K : PySem.W.Frag} {H : Hp} {D a : Addr} {u o : HO} {xs : List V} (hD : H D = some u) (n1 : ∀ zs, u ≠ .tup zs) (n2 : ∀ x zs, u ≠ .frz x (.tup zs)) (h : SqT K H a xs) : SqT K (upd H D o) a xs := h.imp (fun z => rd_other z fun e => by
  subst e
  rcases z with z | ⟨x, z⟩
  · rw [hD] at z; exact n1 _ (Option.some.inj z)
  · rw [hD] at z; exact n2 _ _ (Option.some.inj z)) id
end Ag

set_option Elab.async false
set_option linter.all false
set_option maxRecDepth 100000
set_option maxHeartbeats 2000000
set_option pp.maxSteps 300
/-! len(o) by an own __len__; o == x by an own __eq__, whatever it answers. -/
namespace Ag
open PySem PySem.Spec PyProof.Rows L2
section
variable {X : Cx} {CX : CXT} {C f : Addr} {k : Nat} {fd : FuncData} {ps : List Str} {sp : Sp} {E : XK}
/-- an own def run by a built-in one -/
theorem run_sub {A : Around} {pins : List (Addr × Obj)} {σ : L2.St} {H : Hp} {s : Shared} {Q : VK} {us : List Value} {vs : List V} (F : FnOk X.prog X.w X.K X.mg X.base CX k f fd ps sp) (hr : Room k A) (fr : A.frames = X.A.frames) (hb : Binds X.K fd ps []) (hx : Passes CX X E)
    (I : Inv X pins σ H s) (r : Vals vs us) (h : sp vs H Q E) : wpAny (model X.prog X.w) A (call (.ref f) us) (EP X pins σ Q) X.xe s := by
  have hl : us.length = ps.length := by rw [← r.length]; exact F.len _ _ _ _ h
  have bd := hb s us I.kIn (by rw [List.append_nil]; exact hl)
  rw [List.append_nil] at bd
  have e1 := I.env0
  have e0 : Env0 X.prog X.w X.K X.mg X.base A X.stack s H := { frames := by rw [fr]; exact e1.frames, mod := e1.mod, bs := e1.bs, bsz := e1.bsz, funs := e1.funs, frf := e1.frf, hok := e1.hok, bare := e1.bare }
  refine wpAny_call (codeAny_mono (F.run A X.stack s H ⟨us, []⟩ us vs Q E hr e0 bd r h) fun z s' hq => ?_)
  cases z with
  | error e => exact hx pins σ H s e s' I hq
  | ok fl =>
    cases fl with
    | ret u => exact I.after hq
    | next => exact False.elim hq
    | brk => exact False.elim hq
    | cont => exact False.elim hq
def rLenO (C : Addr) (sp : Sp) (E : XK) : List V → Hp → VK → Prop := fun xs H Q => ∃ b dx fs, xs = [.ref b] ∧ H b = some (.ins C dx fs) ∧ sp [.ref b] H (fun v H' => ∃ n : Nat, v = .int (n : Int) ∧ n ≤ 1000000 ∧ Q (.int (n : Int)) H') E
theorem call_lenO (F : FnOk X.prog X.w X.K X.mg X.base CX k f fd ps sp) (m : Meth X.K C "__len__" f) (hr : Room (k + 1) X.A) (hb : Binds X.K fd ps []) (hx : Passes CX X E) : CallR X (.builtin "len") (rLenO C sp E) := by
  intro pins s σ H xs us Q I r h
  obtain ⟨b, dx, fs, rfl, hB, hsp⟩ := h
  obtain ⟨u, rfl, ru⟩ := r.one
  cases ru
  obtain ⟨mA, J, _⟩ := ins_get I.hok hB
  obtain ⟨od, J, _⟩ := J.look
  refine Calls.call_function_entry kind_len plain_len entry_len (args_len1 _) ?_
  unfold Builtin.«len»
  refine wpAny_bind (m := oneArg "len" _) (wpAny_pure (wpAny_bind (m := callSpecial? (.ref b) (PySem.Str.ofString "__len__")) (PySem.W.special_fn I.kIn J m.at_ (beq_iff_eq.mp m.fn) (wpAny_mono (run_sub F hr.in1 rfl hb hx I (vs := [V.ref b]) (.cons rfl .nil) hsp) (fun v s' hv => ?_) fun _ _ z => z))))
  obtain ⟨w, H', I', rw', n, rfl, hn, q⟩ := hv
  obtain ⟨t, rfl⟩ := rw'
  refine wpAny_bind (wpAny_holding (wpAny_pure (wpAny_bind (wpAny_letGo ?_))))
  show wpAny _ _ (if (n : Int) < 0 then _ else _) _ _ s'
  rw [if_neg (by omega)]
  show wpAny _ _ (if (n : Int) ≥ 2 ^ 63 then _ else _) _ _ s'
  rw [if_neg (by omega)]
  exact wpAny_bind (wpAny_mkInt (wpAny_pure ⟨_, rfl, ⟨.int n, H', I'.tok _, ⟨_, rfl⟩, q⟩⟩))
/-- what an own == may be asked about: another of the class, or a tuple -/
def Rgt (K : PySem.W.Frag) (C : Addr) (y : V) (H : Hp) : Prop := ∃ a, y = .ref a ∧ ((∃ dx fs, H a = some (.ins C dx fs)) ∨ (∃ xs, SqT K H a xs) ∧ PySem.W.subIn K (.type "tuple") (.ref C) = some false)
def rEqO (K : PySem.W.Frag) (C : Addr) (sp : Sp) (E : XK) : R2 := fun x y H Q => ∃ b dx fs, x = .ref b ∧ H b = some (.ins C dx fs) ∧ Rgt K C y H ∧ sp [.ref b, y] H (fun v H' => ∃ c, v = .bl c ∧ Q (.bl c) H') E
theorem op_eqO (F : FnOk X.prog X.w X.K X.mg X.base CX k f fd ps sp) (m : Meth X.K C "__eq__" f) (hr : Room k X.A) (hb : Binds X.K fd ps []) (hx : Passes CX X E) : OpR X (compareOp .Eq) (rEqO X.K C sp E) := by
  intro pins s σ H x y v u Q I rx ry h
  obtain ⟨b, dx, fs, rfl, hB, ⟨a, rfl, hy⟩, hsp⟩ := h
  cases rx; cases ry
  obtain ⟨mA, J, _⟩ := ins_get I.hok hB
  obtain ⟨od, J, _⟩ := J.look
  obtain ⟨mF, hF⟩ := I.fr
  have run : wpAny (model X.prog X.w) X.A (call (.ref f) [.ref b, .ref a]) (PySem.W.CmpBack (EP X pins σ Q)) X.xe s := by
    refine wpAny_mono (run_sub F hr rfl hb hx I (vs := [V.ref b, V.ref a]) (.cons rfl (.cons rfl .nil)) hsp) (fun z s' hz => ?_) fun _ _ z => z
    obtain ⟨w, H', I', rw', c, rfl, q⟩ := hz
    cases rw'
    exact ⟨.bl c, H', I', rfl, q⟩
  show wpAny (model X.prog X.w) X.A (richCompare .Eq (.ref b) (.ref a)) (EP X pins σ Q) X.xe s
  rcases hy with ⟨dy, gs, hA⟩ | ⟨⟨ys, hA⟩, hn⟩
  · obtain ⟨mB, J2, _⟩ := ins_get I.hok hA
    obtain ⟨od2, J2, _⟩ := J2.look
    exact PySem.W.cmp_K (op := .Eq) (tb := .ref C) hr.units0 hF I.ok.mod.kin J J2.type (by simp [PySem.W.notFirst]) m.at_ m.fn run
  · obtain ⟨its, rv, ⟨o, ho, hc, _⟩, _⟩ := I.tuple hA
    exact PySem.W.cmp_K (op := .Eq) (tb := .type "tuple") hr.units0 hF I.ok.mod.kin J (fun A Q E s k z => wpAny_typeOf_ref (k _ _ ho) (by rw [hc]; exact z)) (by unfold PySem.W.notFirst; rw [hn]; rfl) m.at_ m.fn run
end
end Ag

set_option Elab.async false
set_option linter.all false
set_option maxRecDepth 100000
set_option maxHeartbeats 2000000
set_option pp.maxSteps 300
/-! x in o by an own __contains__. -/
namespace Ag
open PySem PySem.Spec PyProof.Rows L2
section
variable {X : Cx} {CX : CXT} {C f : Addr} {k : Nat} {fd : FuncData} {ps : List Str} {sp : Sp} {E : XK}
def rInO (neg : Bool) (C : Addr) (sp : Sp) (E : XK) : R2 := fun x y H Q => ∃ b dx fs, y = .ref b ∧ H b = some (.ins C dx fs) ∧ sp [.ref b, x] H (fun v H' => ∃ c, v = .bl c ∧ Q (.bl (if neg = true then !c else c)) H') E
theorem op_inO (F : FnOk X.prog X.w X.K X.mg X.base CX k f fd ps sp) (m : Meth X.K C "__contains__" f) (hr : Room k X.A) (hb : Binds X.K fd ps []) (hx : Passes CX X E) : OpR X (compareOp .In) (rInO false C sp E) := by
  intro pins s σ H x y v u Q I rx ry h
  obtain ⟨b, dx, fs, rfl, hB, hsp⟩ := h
  cases ry
  obtain ⟨mA, J, _⟩ := ins_get I.hok hB
  obtain ⟨od, J, _⟩ := J.look
  obtain ⟨mF, hF⟩ := I.fr
  refine PySem.W.in_K hF I.ok.mod.kin J m.at_ m.fn ?_
  refine wpAny_mono (run_sub F hr rfl hb hx I (vs := [V.ref b, x]) (.cons rfl (.cons rx .nil)) hsp) (fun z s' hz => ?_) fun _ _ z => z
  obtain ⟨w, H', I', rw', c, rfl, q⟩ := hz
  cases rw'
  exact wpAny_truthy_bool ⟨.bl c, H', I', rfl, q⟩
theorem op_notInO (F : FnOk X.prog X.w X.K X.mg X.base CX k f fd ps sp) (m : Meth X.K C "__contains__" f) (hr : Room k X.A) (hb : Binds X.K fd ps []) (hx : Passes CX X E) : OpR X (compareOp .NotIn) (rInO true C sp E) := by
  intro pins s σ H x y v u Q I rx ry h
  obtain ⟨b, dx, fs, rfl, hB, hsp⟩ := h
  cases ry
  obtain ⟨mA, J, _⟩ := ins_get I.hok hB
  obtain ⟨od, J, _⟩ := J.look
  obtain ⟨mF, hF⟩ := I.fr
  refine PySem.W.notIn_K hF I.ok.mod.kin J m.at_ m.fn ?_
  refine wpAny_mono (run_sub F hr rfl hb hx I (vs := [V.ref b, x]) (.cons rfl (.cons rx .nil)) hsp) (fun z s' hz => ?_) fun _ _ z => z
  obtain ⟨w, H', I', rw', c, rfl, q⟩ := hz
  cases rw'
  exact wpAny_truthy_bool ⟨.bl (!c), H', I', rfl, q⟩
end
end Ag

set_option Elab.async false
set_option linter.all false
set_option maxRecDepth 100000
set_option maxHeartbeats 2000000
set_option pp.maxSteps 300
/-! a + b, a - b, a | b by an own __add__, __sub__, __or__ that hands back an object; == asked of any data. -/
namespace Ag
open PySem PySem.Spec PyProof.Rows L2
abbrev tyNames : List String := ["NoneType", "bool", "int", "str", "list", "tuple"]
theorem ty_mem {K : PySem.W.Frag} {H : Hp} {x : V} {d : PyData} (h : Dp K H x d) : tyName d ∈ tyNames := by cases h <;> simp [tyName, tyNames]
theorem looks_ty {X : Cx} {pins : List (Addr × Obj)} {σ : L2.St} {H : Hp} {s : Shared} {M : Model} {x : V} {u : Value} {d : PyData} (I : Inv X pins σ H s) (rx : RelV x u) (h : Dp X.K H x d) : PySem.W.Looks M s.heap (typeOf u) (.type (tyName d)) := by
  cases h with
  | non => cases (show u = Value.none from rx); exact PySem.W.Looks.of_pure rfl
  | bl y => cases (show u = Value.bool y from rx); exact PySem.W.Looks.of_pure rfl
  | int i => obtain ⟨t, q⟩ := (show ∃ t, u = Value.int i t from rx); cases q; exact PySem.W.Looks.of_pure rfl
  | str y => obtain ⟨t, q⟩ := (show ∃ t, u = Value.str y t from rx); cases q; exact PySem.W.Looks.of_pure rfl
  | lst q r =>
    cases rx
    obtain ⟨its, rv, ⟨o, n, ho, hc, _⟩, _⟩ := I.list q
    exact fun A Q E s k z => wpAny_typeOf_ref (k _ _ ho) (by rw [hc]; exact z)
  | tup q r =>
    cases rx
    obtain ⟨its, rv, ⟨o, ho, hc, _⟩, _⟩ := I.tuple q
    exact fun A Q E s k z => wpAny_typeOf_ref (k _ _ ho) (by rw [hc]; exact z)
section
open PySem.W
variable {prog : Program} {w : World} {A : Around} {E : Value → Shared → Prop} {s : Shared} {K : Frag} {x C L f : Addr} {h₀ : Heap} {m : Str → Option Value} {ox : Obj} {od : Option Obj}
theorem bin_any {T : String} {op : Operator} {b : Value} {fo ro rc : Option Value} {Q : Value → Shared → Prop} (F : PyProof.Rows.Fr h₀ L s.heap m) (X₀ : K.In h₀) (I : InstAt s.heap x ox C od) (hb : Looks (model prog w) s.heap (typeOf b) (.type T)) (hc : selfFirst K C = true)
    (hs : findIn K (.ref C) (PySem.dunder op.info.2) = some (some (.ref f))) (hf : isFn K (.ref f) = true) (hr : findIn K (.ref C) (dunderR op.info.2) = some rc) (hp : rc = none ∨ ∃ g : Addr, rc = some (.ref g))
    (h1 : findIn K (.type T) (PySem.dunder op.info.2) = some fo) (h2 : findIn K (.type T) (dunderR op.info.2) = some ro) (hsub : subIn K (.type T) (.ref C) = some false)
    (h : wpAny (model prog w) A (call (.ref f) [.ref x, b]) (PySem.W.CmpBack Q) E s) : wpAny (model prog w) A (binaryOp op (.ref x) b) Q E s := by
  have X := X₀.keeps F.keep
  obtain ⟨cd, rest, hcd, hm⟩ := ksp_first hc
  rcases hi : op.info with ⟨sym, nm'⟩
  rw [hi] at hs hr h1 h2
  dsimp only at hs hr h1 h2
  have one := ksp_try X I hs hf h
  obtain ⟨hh, g, d, tt, os⟩ := s
  have L1 : Looks (model prog w) hh (typeOf (.ref x)) (.ref C) := I.type
  have L2 : Looks (model prog w) hh (typeOf b) (.type T) := hb
  have L3 : Looks (model prog w) hh (fillsNumberSlot (.ref C) nm') true := fills_K X hcd hm hs
  have L4 : Looks (model prog w) hh (fillsNumberSlot (.type T) nm') ((fo.isSome && !isSeqSlot fo) || (ro.isSome && !isSeqSlot ro)) := ksp_fillsT X h1 h2
  have L5 : Looks (model prog w) hh (isSubtype (.type T) (.ref C)) false := looks_subIn X hsub
  have L6 : Looks (model prog w) hh (numberSlotInPython (.ref C) nm') true := ksp_inPy X hs hr hp
  have L7 : Looks (model prog w) hh (numberSlotInPython (.type T) nm') false := Looks.of_pure rfl
  have L8 : Looks (model prog w) hh (typeLookup (.type T) (dunderR nm')) ro := looks_findIn X h2
  generalize ((fo.isSome && !isSeqSlot fo) || (ro.isSome && !isSeqSlot ro)) = right at L4
  have hne : (Value.ref C == Value.type T) = false := Bool.eq_false_iff.mpr fun q => by cases beq_iff_eq.mp q
  simp only [binaryOp, hi]
  refine wpAny_holding (wpAny_bind ?_)
  unfold binaryOp1
  refine wpAny_bind (L1.at (wpAny_bind (L2.at (wpAny_bind (L3.at ?_)))))
  simp only [hne, Bool.false_eq_true, if_false]
  cases right with
  | false =>
    ksp_lk
    refine wpAny_mono one (fun r s' hr' => ?_) fun _ _ e => e
    obtain ⟨v, rfl, hq⟩ := hr'
    ksp_lk
    exact hq
  | true =>
    ksp_lk
    refine wpAny_mono one (fun r s' hr' => ?_) fun _ _ e => e
    obtain ⟨v, rfl, hq⟩ := hr'
    ksp_lk
    exact hq
end
/-- what the class tells of an operator, and what the built-in types tell of it -/
structure OpC (K : PySem.W.Frag) (C : Addr) (op : Operator) : Prop where
  first : PySem.W.selfFirst K C = true
  refl : ∃ rc, PySem.W.findIn K (.ref C) (PySem.dunderR op.info.2) = some rc ∧ (rc = none ∨ ∃ g : Addr, rc = some (.ref g))
  tys : ∀ T, T ∈ tyNames → ∃ fo ro, PySem.W.findIn K (.type T) (PySem.dunder op.info.2) = some fo ∧ PySem.W.findIn K (.type T) (PySem.dunderR op.info.2) = some ro ∧ PySem.W.subIn K (.type T) (.ref C) = some false
abbrev NotSub (K : PySem.W.Frag) (C : Addr) : Prop := ∀ T, T ∈ tyNames → PySem.W.subIn K (.type T) (.ref C) = some false
abbrev NotKit (K : PySem.W.Frag) (C : Addr) : Prop := ∀ T, T ∈ tyNames → PySem.W.kitOne K (.type T) (.ref C) = some false
theorem dund_add : PySem.dunder (Operator.info .Add).2 = ("__add__" : Str) := by decide +kernel
theorem dund_sub : PySem.dunder (Operator.info .Sub).2 = ("__sub__" : Str) := by decide +kernel
theorem dund_or : PySem.dunder (Operator.info .BitOr).2 = ("__or__" : Str) := by decide +kernel
/-- an op's right side: another of the class, or any datum -/
def RgtD (K : PySem.W.Frag) (C : Addr) (y : V) (H : Hp) : Prop := (∃ a dx fs, y = .ref a ∧ H a = some (.ins C dx fs)) ∨ ∃ d, Dp K H y d
section
variable {X : Cx} {CX : CXT} {C f : Addr} {k : Nat} {fd : FuncData} {ps : List Str} {sp : Sp} {E : XK} {op : Operator}
def rBinO (K : PySem.W.Frag) (C : Addr) (sp : Sp) (E : XK) : R2 := fun x y H Q => ∃ b dx fs, x = .ref b ∧ H b = some (.ins C dx fs) ∧ RgtD K C y H ∧ sp [.ref b, y] H (fun v H' => ∃ a, v = .ref a ∧ Q v H') E
theorem op_binO (F : FnOk X.prog X.w X.K X.mg X.base CX k f fd ps sp) (c : OpC X.K C op) {nm : Str} (m : Meth X.K C nm f) (en : PySem.dunder op.info.2 = nm) (hr : Room k X.A) (hb : Binds X.K fd ps []) (hx : Passes CX X E) : OpR X (binaryOp op) (rBinO X.K C sp E) := by
  intro pins s σ H x y v u Q I rx ry h
  obtain ⟨b, dx, fs, rfl, hB, hy, hsp⟩ := h
  cases rx
  obtain ⟨mA, J, _⟩ := ins_get I.hok hB
  obtain ⟨od, J, _⟩ := J.look
  obtain ⟨mF, hF⟩ := I.fr
  have run : wpAny (model X.prog X.w) X.A (call (.ref f) [.ref b, u]) (PySem.W.CmpBack (EP X pins σ Q)) X.xe s := by
    refine wpAny_mono (run_sub F hr rfl hb hx I (vs := [V.ref b, y]) (.cons rfl (.cons ry .nil)) hsp) (fun z s' hz => ?_) fun _ _ z => z
    obtain ⟨w, H', I', rw', a, rfl, q⟩ := hz
    cases rw'
    exact ⟨.ref a, H', I', rfl, q⟩
  show wpAny (model X.prog X.w) X.A (binaryOp op (.ref b) u) (EP X pins σ Q) X.xe s
  rcases hy with ⟨a, dy, gs, rfl, hA⟩ | ⟨d, hd⟩
  · cases ry
    obtain ⟨mB, J2, _⟩ := ins_get I.hok hA
    obtain ⟨od2, J2, _⟩ := J2.look
    exact PySem.W.binop_K hF I.ok.mod.kin J J2.type c.first (en ▸ m.at_) m.fn run
  · obtain ⟨rc, h1, h2⟩ := c.refl
    obtain ⟨fo, ro, h3, h4, h5⟩ := c.tys _ (ty_mem hd)
    exact bin_any hF I.ok.mod.kin J (looks_ty I ry hd) c.first (en ▸ m.at_) m.fn h1 h2 h3 h4 h5 run
def rEqA (K : PySem.W.Frag) (C : Addr) (sp : Sp) (E : XK) : R2 := fun x y H Q => ∃ b dx fs, x = .ref b ∧ H b = some (.ins C dx fs) ∧ RgtD K C y H ∧ sp [.ref b, y] H (fun v H' => ∃ c, v = .bl c ∧ Q (.bl c) H') E
theorem op_eqA (F : FnOk X.prog X.w X.K X.mg X.base CX k f fd ps sp) (m : Meth X.K C "__eq__" f) (sb : NotSub X.K C) (hr : Room k X.A) (hb : Binds X.K fd ps []) (hx : Passes CX X E) : OpR X (compareOp .Eq) (rEqA X.K C sp E) := by
  intro pins s σ H x y v u Q I rx ry h
  obtain ⟨b, dx, fs, rfl, hB, hy, hsp⟩ := h
  cases rx
  obtain ⟨mA, J, _⟩ := ins_get I.hok hB
  obtain ⟨od, J, _⟩ := J.look
  obtain ⟨mF, hF⟩ := I.fr
  have run : wpAny (model X.prog X.w) X.A (call (.ref f) [.ref b, u]) (PySem.W.CmpBack (EP X pins σ Q)) X.xe s := by
    refine wpAny_mono (run_sub F hr rfl hb hx I (vs := [V.ref b, y]) (.cons rfl (.cons ry .nil)) hsp) (fun z s' hz => ?_) fun _ _ z => z
    obtain ⟨w, H', I', rw', c, rfl, q⟩ := hz
    cases rw'
    exact ⟨.bl c, H', I', rfl, q⟩
  show wpAny (model X.prog X.w) X.A (richCompare .Eq (.ref b) u) (EP X pins σ Q) X.xe s
  rcases hy with ⟨a, dy, gs, rfl, hA⟩ | ⟨d, hd⟩
  · cases ry
    obtain ⟨mB, J2, _⟩ := ins_get I.hok hA
    obtain ⟨od2, J2, _⟩ := J2.look
    exact PySem.W.cmp_K (op := .Eq) (tb := .ref C) hr.units0 hF I.ok.mod.kin J J2.type (by simp [PySem.W.notFirst]) m.at_ m.fn run
  · exact PySem.W.cmp_K (op := .Eq) (tb := .type (tyName d)) hr.units0 hF I.ok.mod.kin J (looks_ty I ry hd) (by unfold PySem.W.notFirst; rw [sb _ (ty_mem hd)]; rfl) m.at_ m.fn run
end
/-- isinstance(x, C), C a class of the text, x any datum -/
theorem ed_isiC {K : PySem.W.Frag} {σ : L2.St} {F : Addr → Prop} {H : Hp} {i : Nat} {x : V} {C : Addr} {d : PyData} (h : σ[i]? = some (some x)) (hd : Dp K H x d) (nk : NotKit K C) : ED K (tCB (rIsi K) (tCons (tVar i) (tCons (tC (.ref C)) tNil))) σ F H (.bool false) :=
  fun H1 s1 Q1 q1 => ⟨x, h, x, .ref C, .type (tyName d), _, false, rfl, .own _, tyx_of (dp_mono s1 hd), nk _ (ty_mem hd), q1 _ _ (Same.refl _) (.bl _)⟩
/-- .. and x of the class -/
theorem ed_isiO {K : PySem.W.Frag} {σ : L2.St} {F : Addr → Prop} {H : Hp} {i : Nat} {x : V} {t : Value} {C : Addr} {b : Bool} (h : σ[i]? = some (some x)) (ty : ∀ H1, Same H H1 → TyX K H1 x t) (kt : PySem.W.kitOne K t (.ref C) = some b) : ED K (tCB (rIsi K) (tCons (tVar i) (tCons (tC (.ref C)) tNil))) σ F H (.bool b) :=
  fun H1 s1 Q1 q1 => ⟨x, h, x, .ref C, t, _, b, rfl, .own _, ty H1 s1, kt, q1 _ _ (Same.refl _) (.bl _)⟩
end Ag

set_option Elab.async false
set_option linter.all false
set_option maxRecDepth 100000
set_option maxHeartbeats 1000000
namespace Ag
open PySem PySem.Spec PyProof.Rows L2
/-! ### the text by places -/
def top (i : Nat) : Stmt := PySem.Challenge.pw_againnotes_k22_whole_first_wrong_places.main.body.getD i (.Pass ⟨0, 0, 0, 0⟩)
abbrev s_wall : Stmt := top 0
abbrev s_BadText___init__ : Stmt := inClass (top 3) 0
abbrev s_BadRow___init__ : Stmt := inClass (top 4) 0
abbrev s_ascending : Stmt := top 6
abbrev s_is_name : Stmt := top 10
abbrev s_is_row : Stmt := top 12
abbrev s_need_rows : Stmt := top 13
abbrev s_Server___init__ : Stmt := inClass (top 14) 0
abbrev s_Server___eq__ : Stmt := inClass (top 14) 1
abbrev s_Server___len__ : Stmt := inClass (top 14) 2
abbrev s_Server___contains__ : Stmt := inClass (top 14) 3
abbrev s_Server___add__ : Stmt := inClass (top 14) 4
abbrev s_Server___sub__ : Stmt := inClass (top 14) 5
abbrev s_Server___or__ : Stmt := inClass (top 14) 6
abbrev s_Server_answers : Stmt := inClass (top 14) 7
abbrev s_Server_known : Stmt := inClass (top 14) 8
abbrev s_Server_halls : Stmt := inClass (top 14) 9
abbrev s_Server_calls : Stmt := inClass (top 14) 10
abbrev s_Server_doubts : Stmt := inClass (top 14) 11
abbrev s_server_text : Stmt := top 17
abbrev s_is_right : Stmt := top 18
abbrev s_read_row : Stmt := top 19
abbrev s_server_read : Stmt := top 20
abbrev s_law_pen : Stmt := top 22
abbrev s_law_draw : Stmt := top 23
abbrev s_law_pick : Stmt := top 24
abbrev s_law_shuffled : Stmt := top 25
abbrev s_law_some : Stmt := top 26
abbrev s_law_name : Stmt := top 27
abbrev s_law_names : Stmt := top 28
abbrev s_law_server_of : Stmt := top 29
abbrev s_law_some_server : Stmt := top 30
abbrev s_law_is_name : Stmt := top 31
abbrev s_law_wrong_word : Stmt := top 32
abbrev s_law_wrong_place : Stmt := top 33
abbrev s_law_bent : Stmt := top 34
abbrev s_law : Stmt := top 35
structure DefAt (K : PySem.W.Frag) (mg : Str → Option Value) (x : Str) (st : Stmt) (ps : List Str) (a : Addr) (fd : FuncData) : Prop where
  fn : Fun K x x st a fd
  mg : mg x = some (.ref a)
  bd : Binds K fd ps []
structure MethAt (K : PySem.W.Frag) (x qual : Str) (st : Stmt) (ps : List Str) (a : Addr) (fd : FuncData) : Prop where
  fn : Fun K x qual st a fd
  bd : Binds K fd ps []
structure DefAtD (K : PySem.W.Frag) (mg : Str → Option Value) (x : Str) (st : Stmt) (ps : List Str) (dvs : List V) (a : Addr) (fd : FuncData) : Prop where
  fn : FunD K x x (defArgs st) (defBody st) (defScope st) dvs [] a fd
  mg : mg x = some (.ref a)
  bd : Binds K fd ps []
structure MethAtD (K : PySem.W.Frag) (x qual : Str) (st : Stmt) (ps : List Str) (dvs : List V) (a : Addr) (fd : FuncData) : Prop where
  fn : FunD K x qual (defArgs st) (defBody st) (defScope st) dvs [] a fd
  bd : Binds K fd ps []
theorem bt_tuple : bootBuiltins ("tuple" : Str) = some (.type "tuple") := by decide +kernel
theorem bt_all : bootBuiltins ("all" : Str) = some (.builtin "all") := by decide +kernel
theorem bt_range : bootBuiltins ("range" : Str) = some (.type "range") := by decide +kernel
theorem bt_sorted : bootBuiltins ("sorted" : Str) = some (.builtin "sorted") := by decide +kernel
theorem bt_isinstance : bootBuiltins ("isinstance" : Str) = some (.builtin "isinstance") := by decide +kernel
theorem bt_len : bootBuiltins ("len" : Str) = some (.builtin "len") := by decide +kernel
theorem bt_str : bootBuiltins ("str" : Str) = some (.type "str") := by decide +kernel
theorem bt_list : bootBuiltins ("list" : Str) = some (.type "list") := by decide +kernel
theorem bt_set : bootBuiltins ("set" : Str) = some (.type "set") := by decide +kernel
theorem bt_int : bootBuiltins ("int" : Str) = some (.type "int") := by decide +kernel
theorem bt_min : bootBuiltins ("min" : Str) = some (.builtin "min") := by decide +kernel
structure Txt (w : World) (K : PySem.W.Frag) (mg : Str → Option Value) where
  C_AgainError : Addr
  g_AgainError : mg "AgainError" = some (.ref C_AgainError)
  ox_AgainError : OexC K C_AgainError
  xf_AgainError : XfC K C_AgainError
  sb_AgainError : PySem.W.subIn K (.ref C_AgainError) (.ref C_AgainError) = some true
  C_BadText : Addr
  g_BadText : mg "BadText" = some (.ref C_BadText)
  a_BadText___init__ : Addr
  d_BadText___init__ : FuncData
  D_BadText___init__ : MethAt K "__init__" "BadText.__init__" s_BadText___init__ ["self", "line", "word"] a_BadText___init__ d_BadText___init__
  na_BadText_line : NoAttr K C_BadText "line"
  na_BadText_word : NoAttr K C_BadText "word"
  ox_BadText : OexC K C_BadText
  xf_BadText : XfC K C_BadText
  sb_BadText : PySem.W.subIn K (.ref C_BadText) (.ref C_BadText) = some true
  ic_BadText : PySem.W.findIn K (.ref C_BadText) "__init__" = some (some (.ref a_BadText___init__))
  ti_BadText : PySem.W.typeIn K (.ref a_BadText___init__) = some (.type "function")
  C_BadRow : Addr
  g_BadRow : mg "BadRow" = some (.ref C_BadRow)
  a_BadRow___init__ : Addr
  d_BadRow___init__ : FuncData
  D_BadRow___init__ : MethAt K "__init__" "BadRow.__init__" s_BadRow___init__ ["self", "what", "row"] a_BadRow___init__ d_BadRow___init__
  na_BadRow_what : NoAttr K C_BadRow "what"
  na_BadRow_row : NoAttr K C_BadRow "row"
  ox_BadRow : OexC K C_BadRow
  xf_BadRow : XfC K C_BadRow
  sb_BadRow : PySem.W.subIn K (.ref C_BadRow) (.ref C_BadRow) = some true
  ic_BadRow : PySem.W.findIn K (.ref C_BadRow) "__init__" = some (some (.ref a_BadRow___init__))
  ti_BadRow : PySem.W.typeIn K (.ref a_BadRow___init__) = some (.type "function")
  C_Server : Addr
  g_Server : mg "Server" = some (.ref C_Server)
  a_Server___init__ : Addr
  d_Server___init__ : FuncData
  D_Server___init__ : MethAt K "__init__" "Server.__init__" s_Server___init__ ["self", "rows"] a_Server___init__ d_Server___init__
  a_Server___eq__ : Addr
  d_Server___eq__ : FuncData
  D_Server___eq__ : MethAt K "__eq__" "Server.__eq__" s_Server___eq__ ["self", "other"] a_Server___eq__ d_Server___eq__
  a_Server___len__ : Addr
  d_Server___len__ : FuncData
  D_Server___len__ : MethAt K "__len__" "Server.__len__" s_Server___len__ ["self"] a_Server___len__ d_Server___len__
  a_Server___contains__ : Addr
  d_Server___contains__ : FuncData
  D_Server___contains__ : MethAt K "__contains__" "Server.__contains__" s_Server___contains__ ["self", "row"] a_Server___contains__ d_Server___contains__
  a_Server___add__ : Addr
  d_Server___add__ : FuncData
  D_Server___add__ : MethAt K "__add__" "Server.__add__" s_Server___add__ ["self", "row"] a_Server___add__ d_Server___add__
  a_Server___sub__ : Addr
  d_Server___sub__ : FuncData
  D_Server___sub__ : MethAt K "__sub__" "Server.__sub__" s_Server___sub__ ["self", "row"] a_Server___sub__ d_Server___sub__
  a_Server___or__ : Addr
  d_Server___or__ : FuncData
  D_Server___or__ : MethAt K "__or__" "Server.__or__" s_Server___or__ ["self", "other"] a_Server___or__ d_Server___or__
  a_Server_answers : Addr
  d_Server_answers : FuncData
  D_Server_answers : MethAt K "answers" "Server.answers" s_Server_answers ["self", "hall", "call"] a_Server_answers d_Server_answers
  a_Server_known : Addr
  d_Server_known : FuncData
  D_Server_known : MethAt K "known" "Server.known" s_Server_known ["self", "hall"] a_Server_known d_Server_known
  a_Server_halls : Addr
  d_Server_halls : FuncData
  D_Server_halls : MethAt K "halls" "Server.halls" s_Server_halls ["self"] a_Server_halls d_Server_halls
  a_Server_calls : Addr
  d_Server_calls : FuncData
  D_Server_calls : MethAt K "calls" "Server.calls" s_Server_calls ["self"] a_Server_calls d_Server_calls
  a_Server_doubts : Addr
  d_Server_doubts : FuncData
  D_Server_doubts : MethAt K "doubts" "Server.doubts" s_Server_doubts ["self"] a_Server_doubts d_Server_doubts
  na_Server_rows : NoAttr K C_Server "rows"
  na_Server__answers : NoAttr K C_Server "_answers"
  na_Server__known : NoAttr K C_Server "_known"
  cl_Server : Cls K C_Server
  mk_Server : Mk K C_Server a_Server___init__
  mt_Server___eq__ : Meth K C_Server "__eq__" a_Server___eq__
  mt_Server___len__ : Meth K C_Server "__len__" a_Server___len__
  mt_Server___contains__ : Meth K C_Server "__contains__" a_Server___contains__
  mt_Server___add__ : Meth K C_Server "__add__" a_Server___add__
  mt_Server___sub__ : Meth K C_Server "__sub__" a_Server___sub__
  mt_Server___or__ : Meth K C_Server "__or__" a_Server___or__
  mt_Server_answers : Meth K C_Server "answers" a_Server_answers
  mt_Server_known : Meth K C_Server "known" a_Server_known
  mt_Server_halls : Meth K C_Server "halls" a_Server_halls
  mt_Server_calls : Meth K C_Server "calls" a_Server_calls
  mt_Server_doubts : Meth K C_Server "doubts" a_Server_doubts
  ki_Server_Server : PySem.W.kitOne K (.ref C_Server) (.ref C_Server) = some true
  ty_Server : ∀ (H : Hp) (a dx : Addr) (fs : List (Str × V)), H a = some (.ins C_Server dx fs) → TyOf K H (.ref a) (.ref C_Server)
  oc_Server_Add : OpC K C_Server .Add
  oc_Server_Sub : OpC K C_Server .Sub
  oc_Server_BitOr : OpC K C_Server .BitOr
  ns_Server : NotSub K C_Server
  nk_Server : NotKit K C_Server
  om_Server : PySem.W.mroIn K C_Server (.type "object") = some true
  on_Server : PySem.W.findIn K (.ref C_Server) "__ne__" = some (some (.builtin "object.__ne__"))
  a_wall : Addr
  d_wall : FuncData
  D_wall : DefAt K mg "_wall" s_wall ["k"] a_wall d_wall
  a_ascending : Addr
  d_ascending : FuncData
  D_ascending : DefAt K mg "ascending" s_ascending ["names"] a_ascending d_ascending
  a_is_name : Addr
  d_is_name : FuncData
  D_is_name : DefAt K mg "is_name" s_is_name ["value"] a_is_name d_is_name
  a_is_row : Addr
  d_is_row : FuncData
  D_is_row : DefAt K mg "is_row" s_is_row ["value"] a_is_row d_is_row
  a_need_rows : Addr
  d_need_rows : FuncData
  D_need_rows : DefAt K mg "need_rows" s_need_rows ["rows"] a_need_rows d_need_rows
  a_server_text : Addr
  d_server_text : FuncData
  D_server_text : DefAt K mg "server_text" s_server_text ["server"] a_server_text d_server_text
  a_is_right : Addr
  d_is_right : FuncData
  D_is_right : DefAt K mg "is_right" s_is_right ["last", "begin", "word"] a_is_right d_is_right
  a_read_row : Addr
  d_read_row : FuncData
  D_read_row : DefAt K mg "read_row" s_read_row ["words", "line", "last"] a_read_row d_read_row
  a_server_read : Addr
  d_server_read : FuncData
  D_server_read : DefAt K mg "server_read" s_server_read ["text"] a_server_read d_server_read
  a_law_pen : Addr
  d_law_pen : FuncData
  D_law_pen : DefAt K mg "_law_pen" s_law_pen ["script"] a_law_pen d_law_pen
  a_law_draw : Addr
  d_law_draw : FuncData
  D_law_draw : DefAt K mg "_law_draw" s_law_draw ["pen", "many"] a_law_draw d_law_draw
  a_law_pick : Addr
  d_law_pick : FuncData
  D_law_pick : DefAt K mg "_law_pick" s_law_pick ["pen", "some"] a_law_pick d_law_pick
  a_law_shuffled : Addr
  d_law_shuffled : FuncData
  D_law_shuffled : DefAt K mg "_law_shuffled" s_law_shuffled ["pen", "some"] a_law_shuffled d_law_shuffled
  a_law_some : Addr
  d_law_some : FuncData
  D_law_some : DefAt K mg "_law_some" s_law_some ["pen", "some", "most"] a_law_some d_law_some
  a_law_name : Addr
  d_law_name : FuncData
  D_law_name : DefAt K mg "_law_name" s_law_name ["pen", "index"] a_law_name d_law_name
  a_law_names : Addr
  d_law_names : FuncData
  D_law_names : DefAt K mg "_law_names" s_law_names ["pen", "many"] a_law_names d_law_names
  a_law_server_of : Addr
  d_law_server_of : FuncData
  D_law_server_of : DefAt K mg "_law_server_of" s_law_server_of ["rows"] a_law_server_of d_law_server_of
  a_law_some_server : Addr
  d_law_some_server : FuncData
  D_law_some_server : DefAt K mg "_law_some_server" s_law_some_server ["pen", "calls", "places", "share"] a_law_some_server d_law_some_server
  a_law_is_name : Addr
  d_law_is_name : FuncData
  D_law_is_name : DefAt K mg "_law_is_name" s_law_is_name ["value"] a_law_is_name d_law_is_name
  a_law_wrong_word : Addr
  d_law_wrong_word : FuncData
  D_law_wrong_word : DefAt K mg "_law_wrong_word" s_law_wrong_word ["words", "last"] a_law_wrong_word d_law_wrong_word
  a_law_wrong_place : Addr
  d_law_wrong_place : FuncData
  D_law_wrong_place : DefAt K mg "_law_wrong_place" s_law_wrong_place ["text"] a_law_wrong_place d_law_wrong_place
  a_law_bent : Addr
  d_law_bent : FuncData
  D_law_bent : DefAt K mg "_law_bent" s_law_bent ["pen", "text"] a_law_bent d_law_bent
  a_law : Addr
  d_law : FuncData
  D_law : DefAt K mg "law" s_law ["script"] a_law d_law
  t_FIGURES : Tok
  g_FIGURES : mg "FIGURES" = some (.str "0123456789" t_FIGURES)
  t_LETTERS : Tok
  g_LETTERS : mg "LETTERS" = some (.str "abcdefghijklmnopqrstuvwxyz" t_LETTERS)
  t_LAST_NAME : Tok
  g_LAST_NAME : mg "LAST_NAME" = some (.str "zzzzzzzzzzzz" t_LAST_NAME)
  b_tuple : mg "tuple" = none
  b_all : mg "all" = none
  b_range : mg "range" = none
  b_sorted : mg "sorted" = none
  b_isinstance : mg "isinstance" = none
  b_len : mg "len" = none
  b_str : mg "str" = none
  b_list : mg "list" = none
  b_set : mg "set" = none
  b_int : mg "int" = none
  b_min : mg "min" = none
theorem sc_wall : FnScope ["k"] ["k"] (defScope s_wall) := ⟨rfl, rfl, rfl, by decide +kernel, rfl, by decide +kernel, by decide +kernel⟩
theorem sc_BadText___init__ : FnScope ["self", "line", "word"] ["self", "line", "word"] (defScope s_BadText___init__) := ⟨rfl, rfl, rfl, by decide +kernel, rfl, by decide +kernel, by decide +kernel⟩
theorem sc_BadRow___init__ : FnScope ["self", "what", "row"] ["self", "what", "row"] (defScope s_BadRow___init__) := ⟨rfl, rfl, rfl, by decide +kernel, rfl, by decide +kernel, by decide +kernel⟩
theorem sc_ascending : FnScope ["names"] ["names"] (defScope s_ascending) := ⟨rfl, rfl, rfl, by decide +kernel, rfl, by decide +kernel, by decide +kernel⟩
theorem sc_is_name : FnScope ["value", "sign"] ["value"] (defScope s_is_name) := ⟨rfl, rfl, rfl, by decide +kernel, rfl, by decide +kernel, by decide +kernel⟩
theorem sc_is_row : FnScope ["value", "part"] ["value"] (defScope s_is_row) := ⟨rfl, rfl, rfl, by decide +kernel, rfl, by decide +kernel, by decide +kernel⟩
theorem sc_need_rows : FnScope ["rows", "row"] ["rows"] (defScope s_need_rows) := ⟨rfl, rfl, rfl, by decide +kernel, rfl, by decide +kernel, by decide +kernel⟩
theorem sc_Server___init__ : FnScope ["self", "rows", "told", "hall", "call", "other", "known"] ["self", "rows"] (defScope s_Server___init__) := ⟨rfl, rfl, rfl, by decide +kernel, rfl, by decide +kernel, by decide +kernel⟩
theorem sc_Server___eq__ : FnScope ["self", "other"] ["self", "other"] (defScope s_Server___eq__) := ⟨rfl, rfl, rfl, by decide +kernel, rfl, by decide +kernel, by decide +kernel⟩
theorem sc_Server___len__ : FnScope ["self"] ["self"] (defScope s_Server___len__) := ⟨rfl, rfl, rfl, by decide +kernel, rfl, by decide +kernel, by decide +kernel⟩
theorem sc_Server___contains__ : FnScope ["self", "row"] ["self", "row"] (defScope s_Server___contains__) := ⟨rfl, rfl, rfl, by decide +kernel, rfl, by decide +kernel, by decide +kernel⟩
theorem sc_Server___add__ : FnScope ["self", "row"] ["self", "row"] (defScope s_Server___add__) := ⟨rfl, rfl, rfl, by decide +kernel, rfl, by decide +kernel, by decide +kernel⟩
theorem sc_Server___sub__ : FnScope ["self", "row", "one"] ["self", "row"] (defScope s_Server___sub__) := ⟨rfl, rfl, rfl, by decide +kernel, rfl, by decide +kernel, by decide +kernel⟩
theorem sc_Server___or__ : FnScope ["self", "other"] ["self", "other"] (defScope s_Server___or__) := ⟨rfl, rfl, rfl, by decide +kernel, rfl, by decide +kernel, by decide +kernel⟩
theorem sc_Server_answers : FnScope ["self", "hall", "call"] ["self", "hall", "call"] (defScope s_Server_answers) := ⟨rfl, rfl, rfl, by decide +kernel, rfl, by decide +kernel, by decide +kernel⟩
theorem sc_Server_known : FnScope ["self", "hall"] ["self", "hall"] (defScope s_Server_known) := ⟨rfl, rfl, rfl, by decide +kernel, rfl, by decide +kernel, by decide +kernel⟩
theorem sc_Server_halls : FnScope ["self", "row"] ["self"] (defScope s_Server_halls) := ⟨rfl, rfl, rfl, by decide +kernel, rfl, by decide +kernel, by decide +kernel⟩
theorem sc_Server_calls : FnScope ["self", "row"] ["self"] (defScope s_Server_calls) := ⟨rfl, rfl, rfl, by decide +kernel, rfl, by decide +kernel, by decide +kernel⟩
theorem sc_Server_doubts : FnScope ["self"] ["self"] (defScope s_Server_doubts) := ⟨rfl, rfl, rfl, by decide +kernel, rfl, by decide +kernel, by decide +kernel⟩
theorem sc_server_text : FnScope ["server", "row"] ["server"] (defScope s_server_text) := ⟨rfl, rfl, rfl, by decide +kernel, rfl, by decide +kernel, by decide +kernel⟩
theorem sc_is_right : FnScope ["last", "begin", "word", "greatest"] ["last", "begin", "word"] (defScope s_is_right) := ⟨rfl, rfl, rfl, by decide +kernel, rfl, by decide +kernel, by decide +kernel⟩
theorem sc_read_row : FnScope ["words", "line", "last", "begin", "word"] ["words", "line", "last"] (defScope s_read_row) := ⟨rfl, rfl, rfl, by decide +kernel, rfl, by decide +kernel, by decide +kernel⟩
theorem sc_server_read : FnScope ["text", "lines", "line", "rows", "last", "at"] ["text"] (defScope s_server_read) := ⟨rfl, rfl, rfl, by decide +kernel, rfl, by decide +kernel, by decide +kernel⟩
theorem sc_law_pen : FnScope ["script", "fold", "cell"] ["script"] (defScope s_law_pen) := ⟨rfl, rfl, rfl, by decide +kernel, rfl, by decide +kernel, by decide +kernel⟩
theorem sc_law_draw : FnScope ["pen", "many", "cell", "digit", "blend"] ["pen", "many"] (defScope s_law_draw) := ⟨rfl, rfl, rfl, by decide +kernel, rfl, by decide +kernel, by decide +kernel⟩
theorem sc_law_pick : FnScope ["pen", "some"] ["pen", "some"] (defScope s_law_pick) := ⟨rfl, rfl, rfl, by decide +kernel, rfl, by decide +kernel, by decide +kernel⟩
theorem sc_law_shuffled : FnScope ["pen", "some", "left", "found", "lap"] ["pen", "some"] (defScope s_law_shuffled) := ⟨rfl, rfl, rfl, by decide +kernel, rfl, by decide +kernel, by decide +kernel⟩
theorem sc_law_some : FnScope ["pen", "some", "most"] ["pen", "some", "most"] (defScope s_law_some) := ⟨rfl, rfl, rfl, by decide +kernel, rfl, by decide +kernel, by decide +kernel⟩
theorem sc_law_name : FnScope ["pen", "index", "word", "spot", "place"] ["pen", "index"] (defScope s_law_name) := ⟨rfl, rfl, rfl, by decide +kernel, rfl, by decide +kernel, by decide +kernel⟩
theorem sc_law_names : FnScope ["pen", "many", "index"] ["pen", "many"] (defScope s_law_names) := ⟨rfl, rfl, rfl, by decide +kernel, rfl, by decide +kernel, by decide +kernel⟩
theorem sc_law_server_of : FnScope ["rows", "answers", "places", "place", "call", "other", "one"] ["rows"] (defScope s_law_server_of) := ⟨rfl, rfl, rfl, by decide +kernel, rfl, by decide +kernel, by decide +kernel⟩
theorem sc_law_some_server : FnScope ["pen", "calls", "places", "share", "rows", "place", "call", "turn"] ["pen", "calls", "places", "share"] (defScope s_law_some_server) := ⟨rfl, rfl, rfl, by decide +kernel, rfl, by decide +kernel, by decide +kernel⟩
theorem sc_law_is_name : FnScope ["value", "sign"] ["value"] (defScope s_law_is_name) := ⟨rfl, rfl, rfl, by decide +kernel, rfl, by decide +kernel, by decide +kernel⟩
theorem sc_law_wrong_word : FnScope ["words", "last", "begin", "word"] ["words", "last"] (defScope s_law_wrong_word) := ⟨rfl, rfl, rfl, by decide +kernel, rfl, by decide +kernel, by decide +kernel⟩
theorem sc_law_wrong_place : FnScope ["text", "lines", "line", "last", "at", "wrong"] ["text"] (defScope s_law_wrong_place) := ⟨rfl, rfl, rfl, by decide +kernel, rfl, by decide +kernel, by decide +kernel⟩
theorem sc_law_bent : FnScope ["pen", "text", "lines", "line", "kind", "at", "spot", "other", "words"] ["pen", "text"] (defScope s_law_bent) := ⟨rfl, rfl, rfl, by decide +kernel, rfl, by decide +kernel, by decide +kernel⟩
theorem sc_law : FnScope ["script", "pen", "lap", "places", "calls", "server", "text", "row", "turn", "bent", "spot", "due", "told", "error"] ["script"] (defScope s_law) := ⟨rfl, rfl, rfl, by decide +kernel, rfl, by decide +kernel, by decide +kernel⟩
end Ag

set_option Elab.async false
set_option linter.all false
set_option maxRecDepth 100000
set_option maxHeartbeats 1000000
namespace Ag
open PySem PySem.Spec PyProof.Rows L2
theorem rd_but {H : Hp} {p : Addr} {o : HO} : But p H (upd H p o) := fun a u n h => by rw [upd_ne n]; exact h
theorem rd_upd {H : Hp} {p c : Addr} {o : HO} {xs : List V} {kvs : List (Key × V)} (hp : H p = some (.dK kvs)) (h : Rd H c (.lst xs)) : Rd (upd H p o) c (.lst xs) := by
  rcases h with h | ⟨u, h⟩
  · exact .inl (by rw [upd_ne (ne_of h hp (fun z => nomatch z))]; exact h)
  · exact .inr ⟨u, by rw [upd_ne (ne_of h hp (fun z => nomatch z))]; exact h⟩
section
variable {P : Program} {w : World} {K : PySem.W.Frag} {mg : Str → Option Value} {base : Heap} (T : Txt w K mg)
theorem ok_draw : FnOk P w K mg base CX0 1 T.a_law_draw T.d_law_draw ["pen", "many"] spDraw := by
  refine T.D_law_draw.fn.ok sc_law_draw (fun vs H Q E h => ?_) (fun cdv A outer s H vs Q E hr h => ?_)
  · obtain ⟨p, c, many, n, rfl, _⟩ := h; rfl
  · obtain ⟨p, c, many, n, rfl, hP, m0, m1, n1, k⟩ := h
    refine ⟨_, (pss_cons (ps_dput (hu_of hr) (pv 0) pe_str (pe_op op_add (pe_dget (hu_of hr) (pv 0) pe_str (fun _ _ => rfl)) pe_int) rfl)
      (C8.pss_cut (ps_if (PW.pt (pw_and (pt_cmpR op_eq (pe_dget (hu_of hr) (pv 0) pe_str (fun _ _ => rfl)) pe_int (nomark _)) (pw_and1 (pt_cmpR op_lt (pe_dget (hu_of hr) (pv 0) pe_str (fun _ _ => rfl)) (pe_callB call_len (by rfl) T.b_len bt_len (pa_cons (pe_dget (hu_of hr) (pv 0) pe_str (fun _ _ => rfl)) pa_nil)) (nomark _))))) (pss_cons (ps_set (i := 2) sc_law_draw.nd rfl (by first | exact Or.inl rfl | exact Or.inr rfl) (pe_ix (r := rIx K) ix_seq (pe_dget (hu_of hr) (pv 0) pe_str (fun _ _ => rfl)) (pe_dget (hu_of hr) (pv 0) pe_str (fun _ _ => rfl)) (fun _ _ => rfl)))
      (pss_cons (ps_dput (hu_of hr) (pv 0) pe_str (pe_op op_add (pe_dget (hu_of hr) (pv 0) pe_str (fun _ _ => rfl)) pe_int) rfl)
      (pss_one (ps_if (pt_cmpR op_ge (pv 2) (pe_op op_pow pe_int pe_int) (nomark _)) (pss_one (ps_dput (hu_of hr) (pv 0) pe_str (pe_op op_sub (pv 2) (pe_op op_pow pe_int pe_int)) rfl)) (pss_one (ps_dput (hu_of hr) (pv 0) pe_str (pe_op op_mod (pe_callTy call_int1 (by rfl) T.b_int bt_int (pa_cons (pe_op op_add (pe_op op_mul (pe_dget (hu_of hr) (pv 0) pe_str (fun _ _ => rfl)) pe_int) (pv 2)) pa_nil)) pe_int) rfl)))))) pss_nil)
      (pss_cons (ps_if (pt_cmpR op_gt (pe_dget (hu_of hr) (pv 0) pe_str (fun _ _ => rfl)) pe_int (nomark _)) (pss_cons (ps_set (i := 3) sc_law_draw.nd rfl (by first | exact Or.inl rfl | exact Or.inr rfl) (pe_op op_mod (pe_callTy call_int1 (by rfl) T.b_int bt_int (pa_cons (pe_dget (hu_of hr) (pv 0) pe_str (fun _ _ => rfl)) pa_nil)) (pv 1)))
      (pss_cons (ps_dput (hu_of hr) (pv 0) pe_str (pe_op op_fdiv (pe_dget (hu_of hr) (pv 0) pe_str (fun _ _ => rfl)) (pv 1)) rfl)
      (pss_one (ps_ret (pv 3))))) pss_nil)
      (pss_cons (ps_set (i := 4) sc_law_draw.nd rfl (by first | exact Or.inl rfl | exact Or.inr rfl) (pe_op op_add (pe_op op_add (pe_dget (hu_of hr) (pv 0) pe_str (fun _ _ => rfl)) (pe_op op_mul (pe_dget (hu_of hr) (pv 0) pe_str (fun _ _ => rfl)) pe_int)) pe_int))
      (pss_one (ps_ret (pe_op op_mod (pe_op op_fdiv (pe_callTy call_int1 (by rfl) T.b_int bt_int (pa_cons (pe_op op_mod (pe_op op_pow (pv 4) pe_int) pe_int) pa_nil)) pe_int) (pv 1)))))))), ?_⟩
    obtain ⟨cells, a, d, cn, f, hp, hc, a0, d0, c0, cnn, f0, f1⟩ := hP
    -- pen["count"] = pen["count"] + 1
    refine ⟨_, rfl, p, _, rfl, pg_cnt hp, _, _, rfl, rfl, _, rfl, p, _, rfl, pp_cnt hp, ?_⟩
    have b1 : But p H (upd H p (.dK (penKV c a d (cn + 1) f))) := rd_but
    have c1 := rd_upd (o := .dK (penKV c a d (cn + 1) f)) hp hc
    have p1 : (upd H p (.dK (penKV c a d (cn + 1) f))) p = some (.dK (penKV c a d (cn + 1) f)) := upd_same
    generalize upd H p (.dK (penKV c a d (cn + 1) f)) = H1 at b1 c1 p1
    refine ⟨fun σ' H' => ∃ (a' d' f' : Int) (o : Option V), σ' = [some (.ref p), some (.int many), o, none, none] ∧ 0 ≤ a' ∧ 0 ≤ d' ∧ 0 ≤ f' ∧ f' < 2147483648 ∧ H' p = some (.dK (penKV c a' d' (cn + 1) f')) ∧ Rd H' c (.lst (cells.map V.int)) ∧ But p H H', ?_, ?_⟩
    · -- if pen["digits"] == 0 and pen["at"] < len(pen["cells"]):
      refine ⟨_, rfl, p, _, rfl, pg_dig p1, rfl, _, rfl, ?_⟩
      refine ite2 (fun hz => ?_) (fun hz => ?_)
      · refine ⟨_, rfl, p, _, rfl, pg_at p1, _, rfl, p, _, rfl, pg_cells p1, _, _, rfl, .inl ⟨_, .inl c1, rfl⟩, _, _, rfl, rfl, _, rfl, ?_⟩
        refine ite2 (fun hl => ?_) (fun hl => ?_)
        · -- the next cell
          have hl := of_decide_eq_true hl
          obtain ⟨x, hx⟩ : ∃ x, cells[a.toNat]? = some x := ⟨_, List.getElem?_eq_getElem (by rw [List.length_map] at hl; omega)⟩
          have hx' : (cells.map V.int)[a.toNat]? = some (V.int x) := by rw [List.getElem?_map, hx]; rfl
          have ea : ((a.toNat : Nat) : Int) = a := by omega
          refine ⟨_, rfl, p, _, rfl, pg_cells p1, _, rfl, p, _, rfl, pg_at p1, .inl ⟨_, _, _, _, rfl, rfl, .inl c1, by rw [← ea]; exact atI_nat hx', ?_⟩⟩
          refine ⟨_, rfl, p, _, rfl, pg_at p1, _, _, rfl, rfl, _, rfl, p, _, rfl, pp_at p1, ?_⟩
          have b2 : But p H (upd H1 p (.dK (penKV c (a + 1) d (cn + 1) f))) := b1.trans rd_but
          have c2 := rd_upd (o := .dK (penKV c (a + 1) d (cn + 1) f)) p1 c1
          have p2 : (upd H1 p (.dK (penKV c (a + 1) d (cn + 1) f))) p = some (.dK (penKV c (a + 1) d (cn + 1) f)) := upd_same
          generalize upd H1 p (.dK (penKV c (a + 1) d (cn + 1) f)) = H2 at b2 c2 p2
          refine ⟨_, rfl, _, _, rfl, rfl, ⟨by decide, by decide, by decide⟩, _, _, rfl, rfl, _, rfl, ?_⟩
          refine ite2 (fun hg => ?_) (fun hg => ?_)
          · refine ⟨_, rfl, _, _, rfl, rfl, ⟨by decide, by decide, by decide⟩, _, _, rfl, rfl, _, rfl, p, _, rfl, pp_dig p2, ?_⟩
            exact ⟨a + 1, _, f, _, rfl, by omega, by have := of_decide_eq_true hg; omega, f0, f1, upd_same, rd_upd p2 c2, b2.trans rd_but⟩
          · refine ⟨_, rfl, p, _, rfl, pg_fold p2, _, _, rfl, rfl, .inl ⟨by omega, by omega⟩, _, rfl, _, _, rfl, rfl, .inl ⟨_, rfl, _, _, rfl, rfl, (by show (0 : Int) < 2147483269; decide), _, rfl, p, _, rfl, pp_fold p2, ?_⟩⟩
            exact ⟨a + 1, d, _, _, rfl, by omega, d0, Int.emod_nonneg _ (by decide), Int.lt_trans (Int.emod_lt_of_pos _ (by decide)) (by decide), upd_same, rd_upd p2 c2, b2.trans rd_but⟩
        · exact ⟨a, d, f, _, rfl, a0, d0, f0, f1, p1, c1, b1⟩
      · exact ⟨a, d, f, _, rfl, a0, d0, f0, f1, p1, c1, b1⟩
    · rintro σ' H' ⟨a', d', f', o, rfl, a0, d0, f0, f1, p1, c1, b1⟩
      refine ⟨_, rfl, p, _, rfl, pg_dig p1, _, _, rfl, rfl, _, rfl, ?_⟩
      refine ite2 (fun hg => ?_) (fun hg => ?_)
      · -- a digit
        refine ⟨_, rfl, p, _, rfl, pg_dig p1, .inl ⟨_, rfl, _, rfl, _, _, rfl, rfl, m0, ?_⟩⟩
        refine ⟨_, rfl, p, _, rfl, pg_dig p1, _, rfl, _, _, rfl, rfl, ⟨m0, by omega⟩, _, rfl, p, _, rfl, pp_dig p1, ?_⟩
        refine ⟨_, rfl, ?_⟩
        exact k _ _ (Int.emod_nonneg _ (by omega)) (Int.emod_lt_of_pos _ m0) (b1.trans rd_but) ⟨cells, a', _, cn + 1, f', upd_same, rd_upd p1 c1, a0, Int.ediv_nonneg d0 (by omega), by omega, by omega, f0, f1⟩
      · -- the mix
        refine ⟨_, rfl, p, _, rfl, pg_fold p1, _, rfl, p, _, rfl, pg_cnt p1, _, _, rfl, rfl, .inr ⟨by decide, by decide⟩, _, _, rfl, rfl, _, _, rfl, rfl, ?_⟩
        refine ⟨_, rfl, _, _, rfl, rfl, ⟨by decide, by decide, by omega⟩, _, _, rfl, rfl, (by show (0 : Int) < 2305843009213693951; decide), .inl ⟨_, rfl, _, _, rfl, rfl, ⟨by decide, by decide⟩, _, rfl, _, _, rfl, rfl, m0, ?_⟩⟩
        exact k _ _ (Int.emod_nonneg _ (by omega)) (Int.emod_lt_of_pos _ m0) b1 ⟨cells, a', d', cn + 1, f', p1, c1, a0, d0, by omega, by omega, f0, f1⟩
end
end Ag

set_option Elab.async false
set_option linter.all false
set_option maxRecDepth 100000
set_option maxHeartbeats 1000000
set_option pp.maxSteps 300
/-! A tuple whose very object is known: its methods. -/
namespace Ag
open PySem PySem.Spec PyProof.Rows L2
/-- a tuple without a dict -/
def FzT (H : Hp) (a : Addr) (xs : List V) : Prop := ∃ o : Obj, H a = some (.frz o (.tup xs)) ∧ o.dict = none
theorem FzT.st {K : PySem.W.Frag} {H : Hp} {a : Addr} {xs : List V} (h : FzT H a xs) : SqT K H a xs := let ⟨o, e, _⟩ := h; .inl (.inr ⟨o, e⟩)
theorem FzT.same {H H' : Hp} {a : Addr} {xs : List V} (s : Same H H') (h : FzT H a xs) : FzT H' a xs := let ⟨o, e, d⟩ := h; ⟨o, s _ _ e, d⟩
/-- tuple(list) -/
def rTupF (K : PySem.W.Frag) : List V → Hp → VK → Prop := fun xs H Q => ∃ p ys, xs = [.ref p] ∧ SqL K H p ys ∧ ∀ l o, H l = none → o.dict = none → Q (.ref l) (upd H l (.frz o (.tup ys)))
theorem call_tupleF {X : Cx} : CallR X (.type "tuple") (rTupF X.K) := by
  intro pins s σ H xs us Q I r h
  obtain ⟨p, ys, rfl, hq, q⟩ := h
  obtain ⟨u, rfl, rx⟩ := r.one
  cases rx
  obtain ⟨its, rv, pl, hz⟩ := I.list hq
  have ln := rv.length
  refine call_tuple_list pl.isList (fun h' kp => ?_) (by simp only [List.size_toArray]; omega)
  have I1 : Inv X pins σ H { s with heap := h' } := I.kept (t' := s.toks) kp
  have I2 : Inv X pins σ (upd H h'.objs.size (.frz { cls := .type "tuple", data := .seq its.toArray } (.tup ys))) { s with heap := h'.push { cls := .type "tuple", data := .seq its.toArray } } :=
    I1.laid (t' := s.toks) (fun b o e => Heap.get?_push_of_some _ e) (Nat.le_refl _) ⟨Heap.get?_push_size _ rfl, hz, its, rv, IsTup.new _ _⟩
  exact ⟨.ref h'.objs.size, _, I2, rfl, q _ _ (I1.hok.fresh (Nat.le_refl _)) rfl⟩
def tBMT (r : V → List V → Hp → VK → Prop) (to : TE) (t : TA) : TE := fun σ H Q => to σ H fun x H1 => (∃ a xs, x = .ref a ∧ FzT H1 a xs) ∧ t σ H1 fun vs H2 => r x vs H2 Q
theorem pe_bmT {X : Cx} {name : Str} {id : String} {r : V → List V → Hp → VK → Prop} {o e : Expr} {es : List Expr} {to : TE} {t : TA} {apos cpos : Pos} (slot : Slot "tuple" name id) (hty : typeOf (.builtin id) = pure (.type "method_descriptor")) (hm : MtR X id r) (ho : PE X o to) (ha : PA X (e :: es) t)
    (b0 : attributeBase o name X.env (eval o X.env) = eval o X.env := by rfl) (f0 : ((backTo cpos (starEach (e :: es) X.env)).all (fun x => !x.1) && (backToKw cpos (keywordEach [] X.env)).all (fun x => x.1.isSome) && decide ((e :: es).length + ([] : List Keyword).length + (if ([] : List Keyword).isEmpty then 0 else 1) < 30)) = true := by rfl) (l0 : (apos.endLine == cpos.line) = true := by rfl) (t0 : starEach (e :: es) X.env = (false, eval e X.env) :: starEach es X.env := by rfl) (p0 : (backTo cpos (starEach es X.env)).any (·.1) = false := by rfl) :
    PE X (.Call (.Attribute o name apos) (e :: es) [] cpos) (tBMT r to t) := by
  refine ⟨fun pins s σ H Q I h => wpAny_Call_method_late b0 f0 l0 rfl (thn (ho.run pins s σ H _ I h) fun v z ⟨x, H1, I1, rx, ⟨a, xs, ex, ob, ea, ed⟩, q1⟩ => ?_)⟩
  subst ex
  obtain rfl : v = Value.ref a := rx
  obtain ⟨g, _, its, _, o2, g2, cl, _⟩ := (show ObjOk X.prog X.w H1 z.heap a (.frz ob (.tup xs)) from I1.hok a _ ea)
  refine ⟨"tuple", id, PySem.F.plainAttrs_tuple, slot, hty, ⟨o2, g2, cl⟩, fun b eb => ?_, ?_⟩
  · cases eb; exact ⟨ob, g, ed⟩
  have hA := ha.run cpos pins z σ H1 _ I1 q1
  rw [t0] at hA ⊢
  refine Calls.callWith_builtin (by show (false || (backTo cpos (starEach es X.env)).any (·.1)) = false; rw [p0]; rfl) (Calls.evalArgs_plain (thn hA fun us s2 ⟨vs, H2, I2, r2, q2⟩ => hm pins s2 σ H2 (.ref a) vs (.ref a) us Q I2 rfl r2 q2))
end Ag

set_option Elab.async false
set_option linter.all false
set_option maxRecDepth 100000
set_option maxHeartbeats 1000000
set_option exponentiation.threshold 2000
namespace Ag
open PySem PySem.Spec PyProof.Rows L2
theorem atI_int {α : Type} {xs : List α} {i : Int} {v : α} (h0 : 0 ≤ i) (h : xs[i.toNat]? = some v) : atI xs i = some v := by
  obtain ⟨k, rfl⟩ : ∃ k : Nat, i = k := ⟨i.toNat, by omega⟩
  exact atI_nat h

/-! ### names, as texts -/
abbrev S (l : List Nat) : Str := SX.S l
def Digs (i : Nat) : List Nat := (Str.ofString (toString (i : Int))).cps.toList
theorem digs_ok : ∀ i, i < 32 → 1 ≤ (Digs i).length ∧ (Digs i).length ≤ 2 ∧ ∀ c ∈ Digs i, 48 ≤ c ∧ c ≤ 57 := by decide +kernel
theorem digs_inj : ∀ i, i < 32 → ∀ j, j < 32 → Digs i = Digs j → i = j := by decide +kernel
def Nm (i : Nat) (s : Str) : Prop := ∃ a b : List Nat, s = S (a ++ Digs i ++ b) ∧ 1 ≤ a.length ∧ a.length + b.length ≤ 8 ∧ ∀ c ∈ a ++ b, 97 ≤ c ∧ c ≤ 122
theorem nm_filter {i : Nat} {a b : List Nat} (hi : i < 32) (h : ∀ c ∈ a ++ b, 97 ≤ c ∧ c ≤ 122) : (a ++ Digs i ++ b).filter (fun c => decide (c ≤ 57)) = Digs i := by
  have ha : a.filter (fun c => decide (c ≤ 57)) = [] := List.filter_eq_nil_iff.mpr fun c hc => by have := h c (List.mem_append_left _ hc); simp; omega
  have hb : b.filter (fun c => decide (c ≤ 57)) = [] := List.filter_eq_nil_iff.mpr fun c hc => by have := h c (List.mem_append_right _ hc); simp; omega
  have hd : (Digs i).filter (fun c => decide (c ≤ 57)) = Digs i := List.filter_eq_self.mpr fun c hc => by have := (digs_ok i hi).2.2 c hc; simp; omega
  rw [List.filter_append, List.filter_append, ha, hb, hd]; simp
theorem nm_inj {i j : Nat} {s : Str} (hi : i < 32) (hj : j < 32) (h1 : Nm i s) (h2 : Nm j s) : i = j := by
  obtain ⟨a, b, e1, _, _, h⟩ := h1
  obtain ⟨a', b', e2, _, _, h'⟩ := h2
  have e : a ++ Digs i ++ b = a' ++ Digs j ++ b' := SX.S_inj (e1.symm.trans e2)
  have q := congrArg (List.filter (fun c => decide (c ≤ 57))) e
  rw [nm_filter hi h, nm_filter hj h'] at q
  exact digs_inj i hi j hj q
/-- the names of the indices below m, in some order -/
def Nms (m : Nat) (ns : List Str) : Prop := ∃ ms : List Str, ms.length = m ∧ (∀ j s, ms[j]? = some s → Nm j s) ∧ ns.Perm ms
theorem nms_nodup {m : Nat} {ns : List Str} (hm : m ≤ 32) (h : Nms m ns) : ns.Nodup := by
  obtain ⟨ms, hl, hn, hp⟩ := h
  refine hp.nodup_iff.mpr (List.nodup_iff_pairwise_ne.mpr (List.pairwise_iff_getElem.mpr fun i j hi hj hij e => ?_))
  have h1 := hn i _ (List.getElem?_eq_getElem hi)
  have h2 := hn j _ (List.getElem?_eq_getElem hj)
  rw [e] at h1
  have := nm_inj (by omega) (by omega) h1 h2
  omega
theorem nms_mem {m : Nat} {ns : List Str} (h : Nms m ns) {s : Str} (hs : s ∈ ns) : ∃ j, j < m ∧ Nm j s := by
  obtain ⟨ms, hl, hn, hp⟩ := h
  obtain ⟨j, hj, e⟩ := List.getElem_of_mem (hp.mem_iff.mp hs)
  exact ⟨j, by omega, hn j s (by rw [List.getElem?_eq_getElem hj, e])⟩
theorem nms_len {m : Nat} {ns : List Str} (h : Nms m ns) : ns.length = m := by
  obtain ⟨ms, hl, hn, hp⟩ := h; rw [hp.length_eq, hl]
theorem cut_take (l : List Nat) (k : Nat) (h : k ≤ l.length) : cutS (S l) none (some (k : Int)) = S (l.take k) := by
  unfold cutS
  rw [HT.sIx_none, HT.sIx_nat, SX.S_len, Nat.min_eq_left h]
  simp [SX.S]
theorem cut_drop (l : List Nat) (k : Nat) (h : k ≤ l.length) : cutS (S l) (some (k : Int)) none = S (l.drop k) := by
  unfold cutS
  rw [HT.sIx_none, HT.sIx_nat, SX.S_len, Nat.min_eq_left h]
  have e : (l.drop k).take (l.length - k) = l.drop k := List.take_of_length_le (by rw [List.length_drop]; exact Nat.le_refl _)
  simp [SX.S, e]
theorem cut_takeI (l : List Nat) (k : Int) (h0 : 0 ≤ k) (h : k ≤ l.length) : cutS (S l) none (some k) = S (l.take k.toNat) := by
  obtain ⟨j, rfl⟩ : ∃ j : Nat, k = j := ⟨k.toNat, by omega⟩
  exact cut_take l j (by omega)
theorem cut_dropI (l : List Nat) (k : Int) (h0 : 0 ≤ k) (h : k ≤ l.length) : cutS (S l) (some k) none = S (l.drop k.toNat) := by
  obtain ⟨j, rfl⟩ : ∃ j : Nat, k = j := ⟨k.toNat, by omega⟩
  exact cut_drop l j (by omega)
theorem letters_at : ∀ d, d < 26 → ("abcdefghijklmnopqrstuvwxyz" : Str).cps.toList[d]? = some (97 + d) := by decide +kernel
theorem S_one (c : Nat) : (⟨#[c]⟩ : Str) = S [c] := rfl
theorem letters_short : ("abcdefghijklmnopqrstuvwxyz" : Str).length ≤ sizeLine := by decide +kernel

/-! ### promises -/
def spPick (K : PySem.W.Frag) : Sp := fun vs H Q _ => ∃ (p c a : Addr) (xs : List V) (n : Nat), vs = [.ref p, .ref a] ∧ Pen p c n H ∧ (SqL K H a xs ∨ SqT K H a xs) ∧ 0 < xs.length ∧ xs.length < 100000 ∧ n < 1000000000000 ∧
  ∀ (i : Nat) v H', xs[i]? = some v → But p H H' → Pen p c (n + 1) H' → Q v H'
def spShuf (K : PySem.W.Frag) : Sp := fun vs H Q _ => ∃ (p c a : Addr) (xs : List V) (n : Nat), vs = [.ref p, .ref a] ∧ Pen p c n H ∧ (SqL K H a xs ∨ SqT K H a xs) ∧ xs.length < 100000 ∧ n + 100000 < 1000000000000 ∧
  ∀ (l : Addr) (ys : List V) H', ys.Perm xs → H l = none → H' l = some (.lst ys) → But p H H' → Pen p c (n + xs.length) H' → Q (.ref l) H'
def spName : Sp := fun vs H Q _ => ∃ (p c : Addr) (i n : Nat), vs = [.ref p, .int (i : Int)] ∧ Pen p c n H ∧ i < 32 ∧ n + 100000 < 1000000000000 ∧
  ∀ (s : Str) H', Nm i s → But p H H' → Pen p c (n + 10) H' → Q (.str s) H'
def spNames (K : PySem.W.Frag) : Sp := fun vs H Q _ => ∃ (p c : Addr) (m n : Nat), vs = [.ref p, .int (m : Int)] ∧ Pen p c n H ∧ m ≤ 31 ∧ n + 200000 < 1000000000000 ∧
  ∀ (l : Addr) (ns : List Str) H', Nms m ns → H l = none → H' l = some (.lst (ns.map V.str)) → But p H H' → Pen p c (n + 400) H' → Q (.ref l) H'
/-- tuple(sorted(names)) -/
def spCalls (K : PySem.W.Frag) : Sp := fun vs H Q _ => ∃ (p c : Addr) (m n : Nat), vs = [.ref p, .int (m : Int)] ∧ Pen p c n H ∧ m ≤ 31 ∧ n + 200000 < 1000000000000 ∧
  ∀ (l : Addr) (ns : List Str) H', Nms m ns → sortedS ns = true → FzT H' l (ns.map V.str) → But p H H' → Pen p c (n + 400) H' → Q (.ref l) H'

theorem seq_at {n : Nat} {i : Int} (h0 : 0 ≤ i) (h1 : i < n) : seqIndex? i n = some i.toNat := (ixN_seq (by unfold ixN; rw [if_pos h0, if_pos h1])).1

section
variable {P : Program} {w : World} {K : PySem.W.Frag} {mg : Str → Option Value} {base : Heap} (T : Txt w K mg)
theorem ok_pick : FnOk P w K mg base CX0 2 T.a_law_pick T.d_law_pick ["pen", "some"] (spPick K) := by
  have G_law_draw := ok_draw (P := P) (base := base) T
  refine T.D_law_pick.fn.ok sc_law_pick (fun vs H Q E h => ?_) (fun cdv A outer s H vs Q E hr h => ?_)
  · obtain ⟨p, c, a, xs, n, rfl, _⟩ := h; rfl
  · obtain ⟨p, c, a, xs, n, rfl, hP, hs, x0, x1, n1, k⟩ := h
    refine ⟨_, (pss_one (ps_ret (pe_ix (r := rIx K) ix_seq (pv 1) (pe_call (G_law_draw) (hr.mono (by omega)) (by rfl) T.D_law_draw.mg T.D_law_draw.fn.kp T.D_law_draw.bd .nil pass0 (pa_cons (pv 0) (pa_cons (pe_callB call_len (by rfl) T.b_len bt_len (pa_cons (pv 1) pa_nil)) pa_nil))) (fun _ _ => rfl)))), ?_⟩
    have hl : LenV K (.ref a) H xs.length := hs.elim (fun z => .inl ⟨_, z, rfl⟩) fun z => .inr ⟨_, z, rfl⟩
    refine ⟨_, rfl, _, rfl, _, rfl, _, _, rfl, hl, p, c, _, n, rfl, hP, by omega, by omega, n1, fun d H1 d0 d1 b1 P1 => ?_⟩
    have hd : d.toNat < xs.length := by omega
    have ed : ((d.toNat : Nat) : Int) = d := by omega
    have hx : xs[d.toNat]? = some xs[d.toNat] := List.getElem?_eq_getElem hd
    rcases hs with hs | hs
    · exact .inl ⟨_, _, _, _, rfl, rfl, hP.sl b1 hs, atI_int d0 hx, k _ _ _ hx b1 P1⟩
    · exact .inr (.inl ⟨_, _, _, _, rfl, rfl, hP.st b1 hs, atI_int d0 hx, k _ _ _ hx b1 P1⟩)

theorem ok_shuf : FnOk P w K mg base CX0 2 T.a_law_shuffled T.d_law_shuffled ["pen", "some"] (spShuf K) := by
  have G_law_draw := ok_draw (P := P) (base := base) T
  refine T.D_law_shuffled.fn.ok sc_law_shuffled (fun vs H Q E h => ?_) (fun cdv A outer s H vs Q E hr h => ?_)
  · obtain ⟨p, c, a, xs, n, rfl, _⟩ := h; rfl
  · obtain ⟨p, c, a, xs, n, rfl, hP, hs, x1, n1, k⟩ := h
    refine ⟨_, (pss_cons (ps_par (i := 2) (j := 3) (by rfl) sc_law_shuffled.nd rfl rfl (by decide) rfl rfl (pa_cons (pe_callTy call_list_of (by rfl) T.b_list bt_list (pa_cons (pv 1) pa_nil)) (pa_cons (pe_lst pa_nil) pa_nil)) (by rfl))
      (pss_cons (ps_for PassesOwn.never rfl (pi_range1 (by rfl) T.b_range (pa_cons (pe_callB call_len (by rfl) T.b_len bt_len (pa_cons (pv 1) pa_nil)) pa_nil)) (pg_name (i := 4) sc_law_shuffled.nd rfl (by first | exact Or.inl rfl | exact Or.inr rfl)) (pss_one (ps_expr (pe_bm PySem.F.plainAttrs_list PySem.F.slot_list_append PySem.F.type_list_append mt_append (pv 3) (pa_cons (pe_bm PySem.F.plainAttrs_list PySem.F.slot_list_pop PySem.F.type_list_pop mt_popAt (pv 2) (pa_cons (pe_call (G_law_draw) (hr.mono (by omega)) (by rfl) T.D_law_draw.mg T.D_law_draw.fn.kp T.D_law_draw.bd .nil pass0 (pa_cons (pv 0) (pa_cons (pe_callB call_len (by rfl) T.b_len bt_len (pa_cons (pv 2) pa_nil)) pa_nil))) pa_nil)) pa_nil)))))
      (pss_one (ps_ret (pv 3))))), ?_⟩
    refine ⟨_, rfl, _, _, rfl, hs, fun l1 hl1 => ⟨Nat.zero_le _, fun l2 hl2 => ⟨_, _, rfl, ?_⟩⟩⟩
    have n12 : l1 ≠ l2 := fun z => by rw [z, upd_same] at hl2; cases hl2
    have hl2' : H l2 = none := by rw [upd_ne (Ne.symm n12)] at hl2; exact hl2
    have s1 : Same H (upd (upd H l1 (.lst xs)) l2 (.lst [])) := (Same.newA hl1).trans (Same.newA hl2)
    have e1 : (upd (upd H l1 (.lst xs)) l2 (.lst [])) l1 = some (.lst xs) := by rw [upd_ne n12]; exact upd_same
    have e2 : (upd (upd H l1 (.lst xs)) l2 (.lst [])) l2 = some (.lst []) := upd_same
    generalize upd (upd H l1 (.lst xs)) l2 (.lst []) = H1 at s1 e1 e2
    have hs1 : SqL K H1 a xs ∨ SqT K H1 a xs := hs.imp s1.slA s1.stA
    have hl : LenV K (.ref a) H1 xs.length := hs1.elim (fun z => .inl ⟨_, z, rfl⟩) fun z => .inr ⟨_, z, rfl⟩
    refine ⟨_, rfl, _, _, rfl, hl, _, rfl, by omega, by omega, for_range (n := xs.length) (fun i σ' H' => ∃ (ls fs : List V) (o : Option V), σ' = [some (.ref p), some (.ref a), some (.ref l1), some (.ref l2), o] ∧
      H' l1 = some (.lst ls) ∧ H' l2 = some (.lst fs) ∧ fs.length = i ∧ (fs ++ ls).Perm xs ∧ But p H H' ∧ Pen p c (n + i) H') ⟨xs, [], none, rfl, e1, e2, rfl, .refl _, .of s1, hP.same s1⟩ ?_ ?_⟩
    · rintro i σ' H' hi ⟨ls, fs, o, rfl, f1, f2, fl, pm, b1, P1⟩
      have tot := pm.length_eq
      rw [List.length_append] at tot
      refine ⟨_, rfl, .inl ⟨rfl, _, SqL.of f2⟩, _, rfl, .inl ⟨rfl, _, SqL.of f1⟩, _, rfl, _, rfl, _, _, rfl, .inl ⟨_, SqL.of f1, rfl⟩, p, c, _, n + i, rfl, P1, by omega, by omega, by omega, fun d H2 d0 d1 b2 P2 => ?_⟩
      have g1 : H2 l1 = some (.lst ls) := b2 _ _ (P1.ne f1 (fun _ z => nomatch z)) f1
      have g2 : H2 l2 = some (.lst fs) := b2 _ _ (P1.ne f2 (fun _ z => nomatch z)) f2
      have hd : d.toNat < ls.length := by omega
      refine ⟨_, _, _, _, _, rfl, rfl, g1, by omega, by omega, seq_at d0 (by omega), List.getElem?_eq_getElem hd, ?_⟩
      refine ⟨_, _, _, rfl, rfl, by rw [upd_ne (Ne.symm n12)]; exact g2, by rw [fl]; exact lt5 (by omega), ?_⟩
      refine ⟨ls.eraseIdx d.toNat, fs ++ [ls[d.toNat]], some (.int (0 + (i : Int))), rfl, ?_, upd_same, by rw [List.length_append, fl]; rfl, ?_, ?_, ?_⟩
      · rw [upd_ne n12]; exact upd_same
      · refine List.Perm.trans ?_ pm
        rw [List.append_assoc]
        exact List.Perm.append_left fs (erase_perm _ _ _ (List.getElem?_eq_getElem hd))
      · intro b u nb e
        rw [upd_ne (ne_of_none e hl2'), upd_ne (ne_of_none e hl1)]
        exact b2 _ _ nb (b1 _ _ nb e)
      · exact (P2.upd (hP.ne_p hl1) (hP.ne_c hl1)).upd (hP.ne_p hl2') (hP.ne_c hl2')
    · rintro σ' H' ⟨ls, fs, o, rfl, f1, f2, fl, pm, b1, P1⟩
      have tot := pm.length_eq
      rw [List.length_append] at tot
      have : ls = [] := List.length_eq_zero_iff.mp (by omega)
      subst this
      rw [List.append_nil] at pm
      exact ⟨_, rfl, k _ _ _ pm hl2' f2 b1 P1⟩

theorem ok_name : FnOk P w K mg base CX0 2 T.a_law_name T.d_law_name ["pen", "index"] spName := by
  have G_law_draw := ok_draw (P := P) (base := base) T
  refine T.D_law_name.fn.ok sc_law_name (fun vs H Q E h => ?_) (fun cdv A outer s H vs Q E hr h => ?_)
  · obtain ⟨p, c, i, n, rfl, _⟩ := h; rfl
  · obtain ⟨p, c, ix, n, rfl, hP, hi, n1, k⟩ := h
    refine ⟨_, (pss_cons (ps_set (i := 2) sc_law_name.nd rfl (by first | exact Or.inl rfl | exact Or.inr rfl) pe_str)
      (pss_cons (ps_for PassesOwn.never rfl (pi_range1 (by rfl) T.b_range (pa_cons (pe_op op_add pe_int (pe_call (G_law_draw) (hr.mono (by omega)) (by rfl) T.D_law_draw.mg T.D_law_draw.fn.kp T.D_law_draw.bd .nil pass0 (pa_cons (pv 0) (pa_cons pe_int pa_nil)))) pa_nil)) (pg_name (i := 3) sc_law_name.nd rfl (by first | exact Or.inl rfl | exact Or.inr rfl)) (pss_one (ps_set (i := 2) sc_law_name.nd rfl (by first | exact Or.inl rfl | exact Or.inr rfl) (pe_op op_add_str (pv 2) (pe_ix (r := rIx K) ix_seq pe_str (pe_call (G_law_draw) (hr.mono (by omega)) (by rfl) T.D_law_draw.mg T.D_law_draw.fn.kp T.D_law_draw.bd .nil pass0 (pa_cons (pv 0) (pa_cons pe_int pa_nil))) (fun _ _ => rfl))))))
      (pss_cons (ps_set (i := 4) sc_law_name.nd rfl (by first | exact Or.inl rfl | exact Or.inr rfl) (pe_op op_add pe_int (pe_call (G_law_draw) (hr.mono (by omega)) (by rfl) T.D_law_draw.mg T.D_law_draw.fn.kp T.D_law_draw.bd .nil pass0 (pa_cons (pv 0) (pa_cons (pe_callB call_len (by rfl) T.b_len bt_len (pa_cons (pv 2) pa_nil)) pa_nil)))))
      (pss_one (ps_ret (pe_op op_add_str (pe_op op_add_str (pe_slice sl_str (pv 2) po_none (po_some (pv 4))) (pe_callTy call_str_int (by rfl) T.b_str bt_str (pa_cons (pv 1) pa_nil))) (pe_slice sl_str (pv 2) (po_some (pv 4)) po_none))))))), ?_⟩
    refine ⟨_, rfl, p, c, 8, n, rfl, hP, by decide, by decide, by omega, fun d H1 d0 d1 b1 P1 => ?_⟩
    refine ⟨_, _, rfl, rfl, _, rfl, by omega, by omega, for_range (n := (1 + d).toNat) (fun i σ' H' => ∃ (cs : List Nat) (o : Option V), σ' = [some (.ref p), some (.int (ix : Int)), some (.str (S cs)), o, none] ∧
      cs.length = i ∧ (∀ x ∈ cs, 97 ≤ x ∧ x ≤ 122) ∧ But p H H' ∧ Pen p c (n + 1 + i) H') ⟨[], none, rfl, rfl, (fun x hx => by cases hx), b1, P1⟩ ?_ ?_⟩
    · rintro i σ' H' hi ⟨cs, o, rfl, hc, hx, b2, P2⟩
      refine ⟨_, rfl, _, rfl, p, c, 26, _, rfl, P2, by decide, by decide, by omega, fun d2 H2 e0 e1 b3 P3 => ?_⟩
      have ed : ((d2.toNat : Nat) : Int) = d2 := by omega
      refine .inr (.inr ⟨_, _, _, rfl, rfl, letters_short, atI_int e0 (letters_at d2.toNat (by omega)), ?_⟩)
      refine ⟨_, _, rfl, rfl, ?_, ?_⟩
      · rw [SX.S_len]; refine small5 ?_
        show cs.length + 1 ≤ _
        omega
      · refine ⟨cs ++ [97 + d2.toNat], some (.int (0 + (i : Int))), ?_, by rw [List.length_append, hc]; rfl, fun x hx' => ?_, b2.trans b3, P3⟩
        · rw [S_one, SX.S_cat]; rfl
        · rcases List.mem_append.mp hx' with h | h
          · exact hx x h
          · rw [List.mem_singleton.mp h]; omega
    · rintro σ' H' ⟨cs, o, rfl, hc, hx, b2, P2⟩
      refine ⟨_, rfl, _, rfl, _, _, rfl, ⟨by rw [SX.S_len]; exact small5 (by omega), rfl⟩, p, c, _, _, rfl, P2, by rw [SX.S_len]; omega, by rw [SX.S_len]; omega, by omega, fun d2 H2 e0 e1 b3 P3 => ?_⟩
      rw [SX.S_len] at e1
      have lc : cs.length = (1 + d).toNat := hc
      have ct := cut_takeI cs (1 + d2) (by omega) (by omega)
      have cd := cut_dropI cs (1 + d2) (by omega) (by omega)
      have lg : (ix : Int).natAbs.log2 < 1920 := by
        have : (ix : Int).natAbs < 2 ^ 1920 := Nat.lt_of_lt_of_le (by omega : (ix : Int).natAbs < 32) (by decide)
        by_cases z : (ix : Int).natAbs = 0
        · rw [z]; decide
        · exact (Nat.log2_lt z).mpr this
      have eS : cutS (S cs) none (some (1 + d2)) ++ Str.ofString (toString (ix : Int)) ++ cutS (S cs) (some (1 + d2)) none = S (cs.take (1 + d2).toNat ++ Digs ix ++ cs.drop (1 + d2).toNat) := by
        rw [ct, cd, ← SX.S_tl (Str.ofString (toString (ix : Int))), SX.S_cat, SX.S_cat]; rfl
      have l1 : (cutS (S cs) none (some (1 + d2))).length + (Str.ofString (toString (ix : Int))).length ≤ 100000 := by
        rw [ct, SX.S_len, List.length_take, ← SX.S_tl (Str.ofString (toString (ix : Int))), SX.S_len]
        have := (digs_ok ix hi).2.1
        show _ + (Digs ix).length ≤ _
        omega
      have l2 : (cutS (S cs) none (some (1 + d2)) ++ Str.ofString (toString (ix : Int))).length + (cutS (S cs) (some (1 + d2)) none).length ≤ 100000 := by
        rw [ct, cd, ← SX.S_tl (Str.ofString (toString (ix : Int))), SX.S_cat, SX.S_len, SX.S_len, List.length_append, List.length_take, List.length_drop]
        have := (digs_ok ix hi).2.1
        show _ + (Digs ix).length + _ ≤ _
        omega
      refine ⟨_, _, rfl, rfl, _, rfl, _, rfl, _, rfl, _, rfl, by rw [SX.S_len]; exact small5 (by omega), _, rfl, _, rfl, lg, _, _, rfl, rfl, small5 l1, ?_⟩
      refine ⟨_, rfl, _, rfl, _, rfl, _, rfl, by rw [SX.S_len]; exact small5 (by omega), _, _, rfl, rfl, small5 l2, ?_⟩
      refine k _ _ ⟨cs.take (1 + d2).toNat, cs.drop (1 + d2).toNat, eS, ?_, ?_, fun x h => hx x ?_⟩ (b2.trans b3) (P3.more (by omega))
      · rw [List.length_take]; omega
      · rw [List.length_take, List.length_drop]; omega
      · rw [List.take_append_drop] at h; exact h
end
end Ag

set_option Elab.async false
set_option linter.all false
set_option maxRecDepth 100000
set_option maxHeartbeats 1000000
namespace Ag
open PySem PySem.Spec PyProof.Rows L2
theorem vstr_perm {ys : List V} {ms : List Str} (h : ys.Perm (ms.map V.str)) : ∃ ns : List Str, ns.Perm ms ∧ ys = ns.map V.str := by
  have hm : ∀ y ∈ ys, ∃ s, y = V.str s := fun y hy => by
    obtain ⟨s, _, e⟩ := List.mem_map.mp (h.mem_iff.mp hy); exact ⟨s, e.symm⟩
  let f : V → Str := fun v => match v with | .str s => s | _ => Str.empty
  refine ⟨ys.map f, ?_, ?_⟩
  · have := h.map f
    rw [List.map_map] at this
    have e : ms.map (f ∘ V.str) = ms := by
      have q : ms.map (f ∘ V.str) = ms.map id := List.map_congr_left fun s _ => rfl
      rw [q, List.map_id]
    rw [e] at this; exact this
  · rw [List.map_map]
    have e : ys.map (V.str ∘ f) = ys.map id := List.map_congr_left fun y hy => by
      obtain ⟨s, rfl⟩ := hm y hy; rfl
    rw [e, List.map_id]
section
variable {P : Program} {w : World} {K : PySem.W.Frag} {mg : Str → Option Value} {base : Heap} (T : Txt w K mg)
theorem ok_names : FnOk P w K mg base CX0 3 T.a_law_names T.d_law_names ["pen", "many"] (spNames K) := by
  have G_law_name := ok_name (P := P) (base := base) T
  have G_law_shuffled := ok_shuf (P := P) (base := base) T
  refine T.D_law_names.fn.ok sc_law_names (fun vs H Q E h => ?_) (fun cdv A outer s H vs Q E hr h => ?_)
  · obtain ⟨p, c, m, n, rfl, _⟩ := h; rfl
  · obtain ⟨p, c, m, n, rfl, hP, m31, n1, k⟩ := h
    refine ⟨_, (pss_one (ps_ret (pe_call (G_law_shuffled) (hr.mono (by omega)) (by rfl) T.D_law_shuffled.mg T.D_law_shuffled.fn.kp T.D_law_shuffled.bd .nil pass0 (pa_cons (pv 0) (pa_cons (pe_lc (own := [("index", 2)]) rfl sc_law_names.nd (pi_range1 (by rfl) T.b_range (pa_cons (pv 1) pa_nil)) (blkOk_by (own := [("index", 2)]) (N := ["pen", "many", "index"]) (sc := defScope s_law_names) (by decide +kernel)) (fun _ _ _ _ _ => (pg_name (i := 2) sc_law_names.nd rfl (by first | exact Or.inl rfl | exact Or.inr rfl))) (fun _ _ _ _ _ => pts_nil) (fun _ _ _ _ _ => (pe_call (G_law_name) (hr.mono (by omega)) (by rfl) T.D_law_name.mg T.D_law_name.fn.kp T.D_law_name.bd .nil pass0 (pa_cons (pv 0) (pa_cons (pv 2) pa_nil))))) pa_nil))))), ?_⟩
    refine ⟨_, rfl, _, rfl, _, rfl, by omega, by omega, fun D hD => lc_range (lo := 0) (n := m) (fun i H' => ∃ ms : List Str, H' D = some (.lst (ms.map V.str)) ∧ ms.length = i ∧ (∀ j s, ms[j]? = some s → Nm j s) ∧ But p H H' ∧ Pen p c (n + 10 * i) H')
      ⟨[], upd_same, rfl, fun j s e => by simp at e, .of (Same.newA hD), hP.upd (hP.ne_p hD) (hP.ne_c hD)⟩ ?_ ?_⟩
    · rintro i H' hi ⟨ms, e1, ml, hm, b1, P1⟩
      refine ⟨rfl, ?_⟩
      refine ⟨_, rfl, _, rfl, p, c, i, n + 10 * i, ?_, P1, by omega, by omega, fun s H2 hs b2 P2 => ?_⟩
      · show [V.ref p, V.int (0 + (i : Int))] ++ [] = _
        rw [Int.zero_add]; rfl
      have e2 : H2 D = some (.lst (ms.map V.str)) := b2 _ _ (hP.ne_p hD) e1
      refine ⟨_, e2, lt5 (by rw [List.length_map]; omega), ms ++ [s], ?_, by rw [List.length_append, ml]; rfl, fun j t e => ?_, ?_, ?_⟩
      · rw [List.map_append]; exact upd_same
      · rw [List.getElem?_append] at e
        split at e
        · exact hm j t e
        · have : j - ms.length = 0 := by
            cases z : j - ms.length with
            | zero => rfl
            | succ q => rw [z] at e; simp at e
          rw [this] at e
          have ej : j = i := by omega
          simp at e
          rw [← e, ej]; exact hs
      · intro b u nb e
        rw [upd_ne (ne_of_none e hD)]
        exact b2 _ _ nb (b1 _ _ nb e)
      · exact (P2.more (by omega)).upd (hP.ne_p hD) (hP.ne_c hD)
    · rintro H' ⟨ms, e1, ml, hm, b1, P1⟩
      refine ⟨p, c, D, ms.map V.str, _, rfl, P1, .inl (SqL.of e1), by rw [List.length_map]; omega, by omega, fun l ys H2 pm hl e2 b2 P2 => ?_⟩
      obtain ⟨ns, pn, rfl⟩ := vstr_perm pm
      exact k l ns H2 ⟨ms, ml, hm, pn⟩ (b1.free hl (P1.ne_p hl)) e2 (b1.trans b2) (P2.more (by rw [List.length_map, ml]; omega))
end
end Ag

set_option Elab.async false
set_option linter.all false
set_option maxRecDepth 100000
set_option maxHeartbeats 1000000
namespace Ag
open PySem PySem.Spec PyProof.Rows L2

/-! ### good data -/
mutual
def gd : PyData → Bool
  | .none | .bool _ | .int _ => true
  | .str x => x.cps.all (· < 0x110000) && decide (x.length ≤ 1000)
  | .list xs => gds xs && decide (xs.length ≤ 1000)
  | .tuple xs => gds xs && decide (xs.length ≤ 1000)
  | .dict _ => false
def gds : List PyData → Bool
  | [] => true
  | x :: xs => gd x && gds xs
end
theorem gds_all : ∀ {xs : List PyData}, gds xs = true → ∀ x ∈ xs, gd x = true
  | [], _, _, h => by cases h
  | x :: xs, h, y, hy => by
    simp only [gds, Bool.and_eq_true] at h
    rcases List.mem_cons.mp hy with rfl | hy
    · exact h.1
    · exact gds_all h.2 y hy
theorem gds_of : ∀ {xs : List PyData}, (∀ x ∈ xs, gd x = true) → gds xs = true
  | [], _ => by simp [gds]
  | x :: xs, h => by
    simp only [gds, Bool.and_eq_true]
    exact ⟨h x List.mem_cons_self, gds_of fun y hy => h y (List.mem_cons_of_mem _ hy)⟩
mutual
theorem gd_lay : ∀ {d : PyData}, gd d = true → d.canLay0 = true
  | .none, _ => by simp [PyData.canLay0]
  | .bool _, _ => by simp [PyData.canLay0]
  | .int _, _ => by simp [PyData.canLay0]
  | .str x, h => by
    simp only [gd, Bool.and_eq_true] at h
    simp only [PyData.canLay0]; exact h.1
  | .list xs, h => by
    simp only [gd, Bool.and_eq_true] at h
    simp only [PyData.canLay0]; exact gds_lay h.1
  | .tuple xs, h => by
    simp only [gd, Bool.and_eq_true] at h
    simp only [PyData.canLay0]; exact gds_lay h.1
  | .dict _, h => by simp [gd] at h
theorem gds_lay : ∀ {ds : List PyData}, gds ds = true → PyData.canLayAll0 ds = true
  | [], _ => by simp [PyData.canLayAll0]
  | x :: xs, h => by
    simp only [gds, Bool.and_eq_true] at h
    simp only [PyData.canLayAll0, Bool.and_eq_true]
    exact ⟨gd_lay h.1, gds_lay h.2⟩
end

/-! ### names -/
def letter (c : Nat) : Bool := decide (97 ≤ c ∧ c ≤ 122)
def figure (c : Nat) : Bool := decide (48 ≤ c ∧ c ≤ 57)
theorem letters_list : ("abcdefghijklmnopqrstuvwxyz" : Str).cps.toList = List.range' 97 26 := by decide +kernel
theorem figures_list : ("0123456789" : Str).cps.toList = List.range' 48 10 := by decide +kernel
theorem both_list : ("abcdefghijklmnopqrstuvwxyz0123456789" : Str).cps.toList = List.range' 97 26 ++ List.range' 48 10 := by decide +kernel
theorem mem_letters (c : Nat) : decide (c ∈ ("abcdefghijklmnopqrstuvwxyz" : Str).cps.toList) = letter c := by
  rw [letters_list]; unfold letter; congr 1; rw [List.mem_range'_1]; apply propext; omega
theorem mem_figures (c : Nat) : decide (c ∈ ("0123456789" : Str).cps.toList) = figure c := by
  rw [figures_list]; unfold figure; congr 1; rw [List.mem_range'_1]; apply propext; omega
theorem mem_both (c : Nat) : decide (c ∈ ("abcdefghijklmnopqrstuvwxyz0123456789" : Str).cps.toList) = (letter c || figure c) := by
  rw [both_list, ← mem_letters, ← mem_figures, letters_list, figures_list]
  by_cases h1 : c ∈ List.range' 97 26 <;> by_cases h2 : c ∈ List.range' 48 10 <;> simp [h1, h2]
def nameB (s : Str) : Bool := decide (1 ≤ (s.length : Int)) && decide ((s.length : Int) ≤ 12) && (match s.cps.toList with | [] => false | c :: _ => letter c) && s.cps.toList.all fun c => letter c || figure c
def isName : PyData → Bool | .str s => nameB s | _ => false
theorem nm_name {i : Nat} {s : Str} (hi : i < 32) (h : Nm i s) : nameB s = true := by
  obtain ⟨a, b, rfl, h1, h2, h3⟩ := h
  obtain ⟨d1, d2, d3⟩ := digs_ok i hi
  have hl : (S (a ++ Digs i ++ b)).length = a.length + (Digs i).length + b.length := by rw [SX.S_len, List.length_append, List.length_append]
  have hc : (S (a ++ Digs i ++ b)).cps.toList = a ++ Digs i ++ b := rfl
  unfold nameB
  rw [hl, hc]
  simp only [Bool.and_eq_true, decide_eq_true_eq, List.all_eq_true, Bool.or_eq_true]
  refine ⟨⟨⟨by omega, by omega⟩, ?_⟩, fun c hc => ?_⟩
  · cases a with
    | nil => simp at h1
    | cons x r =>
      have := h3 x (by simp)
      show letter x = true
      unfold letter; simp; omega
  · rcases List.mem_append.mp hc with hc | hc
    · rcases List.mem_append.mp hc with hc | hc
      · have := h3 c (List.mem_append_left _ hc); left; unfold letter; simp; omega
      · have := d3 c hc; right; unfold figure; simp; omega
    · have := h3 c (List.mem_append_right _ hc); left; unfold letter; simp; omega

/-- a def that answers a Bool of one datum -/
def spB (K : PySem.W.Frag) (pre : PyData → Prop) (f : PyData → Bool) : Sp := fun vs H Q _ => ∃ v d, vs = [v] ∧ Dp K H v d ∧ pre d ∧ ∀ H', Same H H' → Q (.bl (f d)) H'
theorem rdc_spB {K : PySem.W.Frag} {E : XK} {pre : PyData → Prop} {f : PyData → Bool} {d : PyData} (hp : pre d) : RDC K (fun vs H Q => spB K pre f vs H Q E) [d] (.bool (f d)) := fun F vs H1 hv Q q => by
  cases hv with
  | cons a r => cases r; exact ⟨_, d, rfl, df_dp a, hp, fun H' s => q _ H' s (.bl _)⟩
theorem all_signs {p : Nat → Bool} (g : PyData → Bool) (hg : ∀ c, g (.str ⟨#[c]⟩) = p c) (x : Str) : ((signs x).map g).all id = x.cps.toList.all p := by
  unfold signs
  rw [List.map_map, List.all_map]
  congr 1; funext c; exact hg c
section
variable {P : Program} {w : World} {K : PySem.W.Frag} {mg : Str → Option Value} {base : Heap} (T : Txt w K mg)
def sgn : PyData → Nat | .str x => x.cps.toList.headD 0 | _ => 0
theorem ok_is_name : FnOk P w K mg base CX0 1 T.a_is_name T.d_is_name ["value"] (spB K (fun d => gd d = true) isName) := by
  refine T.D_is_name.fn.ok sc_is_name (fun vs H Q E h => ?_) (fun cdv A outer s H vs Q E hr h => ?_)
  · obtain ⟨v, d, rfl, _⟩ := h; rfl
  · obtain ⟨v, d, rfl, hv, hd, k⟩ := h
    refine ⟨_, (pss_cons (ps_if (PW.pt (pw_or (pt_not (pt_val (pe_callB call_isi (by rfl) T.b_isinstance bt_isinstance (pa_cons (pv 0) (pa_cons (pe_bltn (v := .ty "str") (by rfl) T.b_str bt_str rfl) pa_nil))))) (pw_or (pt_not (pt_chain op_le op_le pe_int (pe_callB call_len (by rfl) T.b_len bt_len (pa_cons (pv 0) pa_nil)) pe_int)) (pw_or1 (pt_cmpR op_notIn_sign (pe_ix (r := rIx K) ix_seq (pv 0) pe_int (fun _ _ => rfl)) (pe_glob (v := .str "abcdefghijklmnopqrstuvwxyz") (by rfl) T.g_LETTERS ⟨_, rfl⟩) rfl))))) (pss_one (ps_ret pe_bl)) pss_nil)
      (pss_one (ps_ret (pe_callB (cr_all rfl) (by rfl) T.b_all bt_all (pa_cons (pe_lc (own := [("sign", 1)]) rfl sc_is_name.nd (pi_str (pv 0)) (blkOk_by (own := [("sign", 1)]) (N := ["value", "sign"]) (sc := defScope s_is_name) (by decide +kernel)) (fun _ _ _ _ _ => (pg_name (i := 1) sc_is_name.nd rfl (by first | exact Or.inl rfl | exact Or.inr rfl))) (fun _ _ _ _ _ => pts_nil) (fun _ _ _ _ _ => (pe_or (pe_cmpR op_in_sign (pv 1) (pe_glob (v := .str "abcdefghijklmnopqrstuvwxyz") (by rfl) T.g_LETTERS ⟨_, rfl⟩) rfl) (pe_one (pe_cmpR op_in_sign (pv 1) (pe_glob (v := .str "0123456789") (by rfl) T.g_FIGURES ⟨_, rfl⟩) rfl))))) pa_nil))))), ?_⟩
    have hvar : ∀ H1, Same H H1 → ED K (tVar 0) (start ["value", "sign"] [v]) (nn H) H1 d := fun H1 s1 => ed_var rfl (df_mono s1 (fun _ z => z) (dp_df hv))
    have isi := et_B (ed_isi (T := "str") (hvar H (Same.refl _)) (.inl rfl))
    cases d with
    | str x =>
      have hx : x.length ≤ 1000 := by simp only [gd, Bool.and_eq_true, decide_eq_true_eq] at hd; exact hd.2
      have h12 : ET _ _ H _ := et_not (et_test (ed_chain (r := rI0 fun i j => .bl (decide (i ≤ j))) (r' := rI0 fun i j => .bl (decide (i ≤ j))) (ed_int (i := 1)) (ed_len (hvar H (Same.refl _)) (decide_eq_true (by omega))) (ed_int (i := 12)) rd_cmp fun _ => rd_cmp))
      by_cases hb : decide (1 ≤ (x.length : Int)) && decide ((x.length : Int) ≤ 12)
      · obtain ⟨c, cs, hc⟩ : ∃ c cs, x.cps.toList = c :: cs := by
          cases hc : x.cps.toList with
          | nil => 
            have : x.length = 0 := by show x.cps.size = 0; rw [← Array.length_toList, hc]; rfl
            simp [this] at hb
          | cons c cs => exact ⟨c, cs, rfl⟩
        have hch := et_B (ed_notInS (ed_ixS (j := 0) (hvar H (Same.refl _)) ed_int (by omega) (c := c) (by rw [hc]; rfl)) (ed_str (x := "abcdefghijklmnopqrstuvwxyz")))
        refine s_if (b := !letter c) (et_is (et_or (et_not isi) fun _ => et_or h12 fun _ => hch) ?_) (fun h H1 s1 => ?_) (fun h H1 s1 => ?_)
        · rw [mem_letters]; show (!true || (!(decide (1 ≤ (x.length : Int)) && decide ((x.length : Int) ≤ 12)) || !letter c)) = _; rw [hb]; rfl
        · have := k H1 s1
          have e : isName (.str x) = false := by
            show nameB x = false
            unfold nameB; rw [hc]; simp at h; simp [h]
          rw [e] at this; exact this
        · refine s_ret (F := nn H) (ed_all (bs := (signs x).map fun s => letter (sgn s) || figure (sgn s)) (ed_is (ed_lc (f := fun _ => true) (m := fun s => .bool (letter (sgn s) || figure (sgn s))) (ei_str (hvar H1 s1)) ?_ fun F2 H2 e2 v2 d2 hm hd2 => ?_) ?_)) fun v H2 s2 hv2 => ?_
          · unfold signs; rw [List.length_map, Array.length_toList]; show x.length ≤ _; omega
          · obtain ⟨c2, hc2, rfl⟩ := List.mem_map.mp hm
            refine ⟨_, fun Q q => q, rfl, et_yes, fun _ => ed_is (ed_orV (ed_inS (ed_var rfl hd2) (ed_str (x := "abcdefghijklmnopqrstuvwxyz"))) fun _ => ed_inS (ed_var rfl hd2) (ed_str (x := "0123456789"))) ?_⟩
            rw [mem_letters, mem_figures]; rfl
          · rw [filt_tt, List.map_map]; rfl
          · cases hv2
            have := k H2 (s1.trans s2)
            have e : isName (.str x) = ((signs x).map fun s => letter (sgn s) || figure (sgn s)).all id := by
              rw [all_signs (p := fun c => letter c || figure c) _ (fun c => rfl)]
              show nameB x = _
              unfold nameB; rw [hb, hc]; simp at h; simp [h]
            rw [e] at this; exact this
      · rw [Bool.not_eq_true] at hb
        refine s_if (b := true) (et_is (et_or (b := true) (et_not isi) fun _ => et_is (et_or (b := false) h12 fun h => ?_) ?_) ?_) (fun h H1 s1 => ?_) (fun h H1 s1 => nomatch h)
        · have h := (show (!(decide (1 ≤ (x.length : Int)) && decide ((x.length : Int) ≤ 12))) = false from h)
          rw [hb] at h; cases h
        · show (!(decide (1 ≤ (x.length : Int)) && decide ((x.length : Int) ≤ 12)) || false) = true
          rw [hb]; rfl
        · rfl
        · have := k H1 s1
          have e : isName (.str x) = false := by
            show nameB x = false
            unfold nameB; rw [hb]; rfl
          rw [e] at this; exact this
    | _ =>
      refine s_if (b := true) (et_or (b := true) (et_not isi) fun h => nomatch h) (fun h H1 s1 => ?_) (fun h H1 s1 => nomatch h)
      exact k H1 s1
end
end Ag

set_option Elab.async false
set_option linter.all false
set_option maxRecDepth 100000
set_option maxHeartbeats 1000000
namespace Ag
open PySem PySem.Spec PyProof.Rows L2
section
variable {P : Program} {w : World} {K : PySem.W.Frag} {mg : Str → Option Value} {base : Heap}
def spNo : Sp := fun _ _ _ _ => False
theorem no_ok (k : Nat) {x : Str} {N : List Str} {st : Stmt} {ps : List Str} {a : Addr} {fd : FuncData} (D : DefAt K mg x st ps a fd) (S : FnScope N ps (defScope st)) : FnOk P w K mg base CX0 (k + 1) a fd ps spNo :=
  D.fn.ok S (fun vs H Q E h => h.elim) (fun cdv A outer s H vs Q E hr h => h.elim)
end
theorem merge_pen {c : Addr} {a d n f : Int} : mergeK [] [(ck "cells", V.ref c), (ck "at", .int a), (ck "digits", .int d), (ck "count", .int n), (ck "fold", .int f)] = penKV c a d n f := by
  unfold mergeK
  simp [putK, penKV, ck, sn_cells_at, sn_cells_digits, sn_cells_count, sn_cells_fold, sn_at_digits, sn_at_count, sn_at_fold, sn_digits_count, sn_digits_fold, sn_count_fold]
def spLPen (K : PySem.W.Frag) : Sp := fun vs H Q _ => ∃ (a : Addr) (ns : List Int), vs = [.ref a] ∧ SqL K H a (ns.map V.int) ∧ ns.length ≤ 63 ∧ ∀ p c H', Same H H' → Pen p c 0 H' → Q (.ref p) H'
section
variable {P : Program} {w : World} {K : PySem.W.Frag} {mg : Str → Option Value} {base : Heap} (T : Txt w K mg)
theorem ok_law_pen : FnOk P w K mg base CX0 1 T.a_law_pen T.d_law_pen ["script"] (spLPen K) := by
  refine T.D_law_pen.fn.ok sc_law_pen (fun vs H Q E h => ?_) (fun cdv A outer s H vs Q E hr h => ?_)
  · obtain ⟨a, ns, rfl, _⟩ := h; rfl
  · obtain ⟨a, ns, rfl, hs, hl, k⟩ := h
    refine ⟨_, (pss_cons (ps_set (i := 1) sc_law_pen.nd rfl (by first | exact Or.inl rfl | exact Or.inr rfl) pe_int)
      (pss_cons (ps_for PassesOwn.never rfl (pi_list (pv 0)) (pg_name (i := 2) sc_law_pen.nd rfl (by first | exact Or.inl rfl | exact Or.inr rfl)) (pss_one (ps_set (i := 1) sc_law_pen.nd rfl (by first | exact Or.inl rfl | exact Or.inr rfl) (pe_op op_mod (pe_callTy call_int1 (by rfl) T.b_int bt_int (pa_cons (pe_op op_add (pe_op op_mul (pv 1) pe_int) (pv 2)) pa_nil)) pe_int))))
      (pss_one (ps_ret (pe_disp (pps_cons pe_str (pe_callTy call_list_of (by rfl) T.b_list bt_list (pa_cons (pv 0) pa_nil)) (pps_cons pe_str pe_int (pps_cons pe_str pe_int (pps_cons pe_str pe_int (pps_cons pe_str (pv 1) pps_nil))))) (by rfl) (by rfl) (fun z => by cases z) (by decide)))))), ?_⟩
    refine ⟨_, rfl, a, rfl, ⟨_, hs⟩, for_list (K := K) (a := a) (xs := ns.map V.int) (fun i σ' H' => H' = H ∧ ∃ (f : Int) (o : Option V), σ' = [some (.ref a), some (.int f), o] ∧ 0 ≤ f ∧ f < 1000000411) ⟨rfl, 29, none, rfl, by decide, by decide⟩ (fun i σ' H' _ h => by rw [h.1]; exact hs) ?_ ?_⟩
    · rintro i y σ' H' hi ⟨rfl, f, o, rfl, f0, f1⟩
      obtain ⟨u, rfl⟩ : ∃ u, y = V.int u := by
        rw [List.getElem?_map] at hi
        cases e : ns[i]? with
        | none => rw [e] at hi; cases hi
        | some u => rw [e] at hi; exact ⟨u, (Option.some.inj hi).symm⟩
      refine ⟨_, rfl, _, _, rfl, rfl, .inl ⟨by omega, by omega⟩, _, rfl, _, _, rfl, rfl, .inl ⟨_, rfl, _, _, rfl, rfl, (by show (0 : Int) < 1000000411; decide), ?_⟩⟩
      exact ⟨rfl, _, _, rfl, Int.emod_nonneg _ (by decide), Int.emod_lt_of_pos _ (by decide)⟩
    · rintro σ' H' ⟨rfl, f, o, rfl, f0, f1⟩
      intro p hp
      refine ⟨_, rfl, _, _, rfl, .inl ((Same.newA hp).slA hs), fun c hc => ⟨_, rfl, ?_⟩⟩
      have npc : p ≠ c := ne_of_none upd_same hc
      have s2 : Same H' (upd (upd H' p (.dK [])) c (.lst (ns.map V.int))) := (Same.newA hp).trans (Same.newA hc)
      refine ⟨by rw [upd_ne npc]; exact upd_same, [(ck "cells", V.ref c), (ck "at", .int 0), (ck "digits", .int 0), (ck "count", .int 0), (ck "fold", .int f)], rfl, (by decide : 5 ≤ 15), ?_⟩
      rw [merge_pen]
      refine k p c _ (fun b o e => ?_) ⟨ns, 0, 0, 0, f, upd_same, .inl (by rw [upd_ne (Ne.symm npc)]; exact upd_same), by decide, by decide, by decide, by decide, f0, by omega⟩
      rw [upd_ne (ne_of_none e hp)]; exact s2 _ _ e
end
end Ag

set_option Elab.async false
set_option linter.all false
set_option maxRecDepth 100000
set_option maxHeartbeats 4000000
/-! set(tuple of texts). -/
namespace Ag
open PySem PySem.Spec PyProof.Rows L2
section
variable {P : Program} {w : World} {A : Around} {E : Value → Shared → Prop}
set_option maxHeartbeats 4000000 in
theorem set_of_strsT {s : Shared} {l : Addr} {items : Array Value} {xs : List Str} {Q : Value → Shared → Prop} (hh : A.handled = none) (hl : s.heap.IsTuple l items) (hi : StrsAre items.toList xs) (hb : xs.length + 1 < scanBound)
    (hQ : ∀ (h' : Heap) (tk : Nat) S m, SetAtG (PySem.strKind P w) h' s.heap.objs.size S m → m ≤ xs.length → (∀ k, S k = true ↔ k ∈ xs) → (∀ b o, s.heap.get? b = some o → h'.get? b = some o) → Q (.ref s.heap.objs.size) { s with heap := h', toks := tk }) :
    wpAny (model P w) A (call (.type "set") [.ref l]) Q E s := by
  have isz : items.size = xs.length := by rw [← StrsAre.len_eq hi, Array.length_toList]
  obtain ⟨c, tl, hmro⟩ := F.called_set.mro
  have hmade := F.called_set.made
  have hsub := F.called_set.sub
  refine wpAny_call (codeAny_of_tree ?_)
  show wpAny _ _ (callAny (.type "set") _) _ _ _
  refine wpAny_pure ⟨Code.quiet_builtin _ (by decide +kernel), codeAny_builtin F.entry_type_call ?_⟩
  rw [Around.under_plain (weight_type_call_type "set" [.ref l] []) rfl]
  have h1 := F.called_set.notType
  have h2 := F.called_set.canCreate
  have hct := F.typeCall_set_1 (.ref l)
  repeat (any_goals (first | assumption | wp_step))
  refine codeAny_mono (code_set_led1 (.ref l) (E := E) (Q₁ := fun obj s₁ => obj = .ref s.heap.objs.size ∧ s₁ = { s with heap := s.heap.push ({ cls := .type "set", dict := none, data := .set #[] 0 (.fresh 0 0 (!w.params.followText "set-order")) } : Obj) }) ⟨rfl, rfl⟩) fun r s₁ hr => ?_
  cases r with
  | error e => exact hr
  | ok fl =>
    cases fl with
    | ret obj =>
      obtain ⟨rfl, rfl⟩ := hr
      have hS : (s.heap.push ({ cls := .type "set", dict := none, data := .set #[] 0 (.fresh 0 0 (!w.params.followText "set-order")) } : Obj)).get? s.heap.objs.size = some ({ cls := .type "set", dict := none, data := .set #[] 0 (.fresh 0 0 (!w.params.followText "set-order")) } : Obj) := Heap.get?_push_size _ rfl
      have hT : Shared.TypeIs { s with heap := s.heap.push ({ cls := .type "set", dict := none, data := .set #[] 0 (.fresh 0 0 (!w.params.followText "set-order")) } : Obj) } (.ref s.heap.objs.size) "set" := ⟨_, hS, rfl⟩
      have hli := F.called_set.init.lookup
      have hbi := F.called_set.init.bind (.ref s.heap.objs.size)
      repeat (any_goals (first | assumption | wp_step))
      refine codeAny_mono (codeAny_call_builtin (R := wants (fun r s₂ => r = .none ∧ ∃ h' tk S m, s₂ = { s with heap := h', toks := tk } ∧ SetAtG (PySem.strKind P w) h' s.heap.objs.size S m ∧ m ≤ xs.length ∧ (∀ k, S k = true ↔ k ∈ xs) ∧
          (∀ b o, s.heap.get? b = some o → h'.get? b = some o)) E) F.called_set.init.plain F.entry_set_init (check_set_init_1 hT ?_)) fun r₂ s₂ hr₂ => ?_
      · obtain ⟨ol, hol, hcl, nl, hdl⟩ := hl
        obtain ⟨ocls, odict, odata, oslots⟩ := ol
        simp only at hcl hdl
        subst hcl; subst hdl
        have hol1 : (s.heap.push ({ cls := .type "set", dict := none, data := .set #[] 0 (.fresh 0 0 (!w.params.followText "set-order")) } : Obj)).get? l = some { cls := .type "tuple", dict := odict, data := .seq items nl, slots := oslots } := Heap.get?_push_of_some _ hol
        have hsls := F.sub_tuple_set
        have hslf := F.sub_tuple_frozenset
        have hne : (Value.type "tuple" == Value.type "dict") = false := by decide
        have hl1 : (s.heap.push ({ cls := .type "set", dict := none, data := .set #[] 0 (.fresh 0 0 (!w.params.followText "set-order")) } : Obj)).IsTuple l items := ⟨_, hol1, rfl, nl, rfl⟩
        unfold Builtin.«set.__init__» noKeywords Builtin.Frozenset.updateFrom
        generalize hPI : pyIter = PI
        wp_walk
        subst hPI
        refine wpAny_pyIter_tuple hl1 ?_
        refine wpAny_bind (wpAny_runValue ?_)
        have llt : l < s.heap.objs.size := Heap.lt_size hol
        have hh3 : A.in1.in1.in1.handled = none := by simp [hh]
        have z1 : (s.heap.push ({ cls := .type "set", dict := none, data := .set #[] 0 (.fresh 0 0 (!w.params.followText "set-order")) } : Obj)).objs.size = s.heap.objs.size + 1 := Heap.size_push ..
        have ne1 : l ≠ (s.heap.push ({ cls := .type "set", dict := none, data := .set #[] 0 (.fresh 0 0 (!w.params.followText "set-order")) } : Obj)).objs.size := by rw [z1]; exact Nat.ne_of_lt (Nat.lt_succ_of_lt llt)
        have hnf : s.heap.objs.size ∉ [(s.heap.push ({ cls := .type "set", dict := none, data := .set #[] 0 (.fresh 0 0 (!w.params.followText "set-order")) } : Obj)).objs.size, l] := by
          rw [z1]; intro z
          rcases List.mem_cons.mp z with z | z
          · exact Nat.ne_of_lt (Nat.lt_succ_self _) z
          · exact Nat.ne_of_gt llt (List.mem_singleton.mp z)
        have hval : ∀ (i : Nat) (v : Value), items[i]? = some v → ∃ x t, xs[i]? = some x ∧ v = .str x t := fun i v q => by
          have q2 : items.toList[i]? = some v := by rw [Array.getElem?_toList]; exact q
          obtain ⟨t, e⟩ := SS.strs_at hi i v q2
          have il : i < xs.length := by rw [← isz, ← Array.length_toList]; exact (List.getElem?_eq_some_iff.mp q2).1
          refine ⟨_, t, ?_, e⟩
          rw [List.getD_eq_getElem?_getD, List.getElem?_eq_getElem il]; rfl
        refine upd_loop ((Walks.tuple hh3 _ l ne1 items).toS) s.heap.objs.size hnf xs isz hb hval (items.size - 0) 0 _ (by omega) (Nat.zero_le _)
          ⟨⟨_, Heap.get?_push_size _ rfl, rfl, rfl⟩, (hl1.push _)⟩ ⟨_, 0, SetAtG.fresh (kd := PySem.strKind P w) (Heap.get?_push_of_some _ hS), Nat.le_refl _, fun k => (by simp)⟩ fun s' S m mv hS' hm hk => ?_
        obtain ⟨h', g2, d', tk', os'⟩ := s'
        have eg : g2 = s.gens := mv.gens
        have ed : d' = s.drawn := mv.drawn
        have eo : os' = s.os := mv.os
        subst eg; subst ed; subst eo
        show wpAny _ _ _ _ _ _
        refine wpAny_pure ?_
        show wpAny _ _ (ret Value.none) _ _ _
        refine wpAny_pure ⟨rfl, h', tk', S, m, rfl, hS', by rw [← isz]; exact hm, hk, fun b o e => mv.heap b o (fun z => ?_) (Heap.get?_push_of_some _ (Heap.get?_push_of_some _ e))⟩
        have lb := Heap.lt_size e
        rcases List.mem_cons.mp z with z | z
        · exact Nat.ne_of_lt lb z
        · exact Nat.ne_of_lt (Nat.lt_succ_of_lt lb) ((List.mem_singleton.mp z).trans z1)
      · cases r₂ with
        | error e => exact hr₂
        | ok fl₂ =>
          cases fl₂ with
          | ret r =>
            obtain ⟨rfl, h', tk, S, m, rfl, hS', hm, hk, kp⟩ := hr₂
            repeat (any_goals (first | assumption | wp_step))
            exact hQ _ _ _ _ hS' hm hk kp
          | _ => exact hr₂.elim
    | _ => exact hr.elim
end

def rSetT (K : PySem.W.Frag) (P : Program) (w : World) : List V → Hp → VK → Prop := fun vs H Q => ∃ (a : Addr) (xs : List Str), vs = [V.ref a] ∧ SqT K H a (xs.map V.str) ∧ xs.length < 4000 ∧ ∀ p, H p = none → Q (.ref p) (upd H p (StrSet P w p xs))
theorem cr_setT {X : Cx} (hc : X.calm = true) : CallR X (.type "set") (rSetT X.K X.prog X.w) := by
  intro pins s σ H vs us Q I r h
  obtain ⟨a, xs, rfl, hs, hb, q⟩ := h
  obtain ⟨its, rv, hl, _⟩ := I.tuple hs
  rw [Vals.ref1 r]
  have hn : H s.heap.objs.size = none := I.hok.fresh (Nat.le_refl _)
  refine set_of_strsT (P := X.prog) (w := X.w) (I.ok.hd hc) hl rv.strs (by unfold scanBound; omega) fun h' tk S m hS hm hk kp => ?_
  refine ⟨.ref s.heap.objs.size, upd H s.heap.objs.size (StrSet X.prog X.w s.heap.objs.size xs), I.laid (t' := tk) kp (Nat.le_refl _) ?_, rfl, q _ hn⟩
  refine ⟨⟨S, m, hS, hm, hk⟩, ?_, ?_⟩
  · obtain ⟨o, es, ep, t, R⟩ := hS
    exact ⟨o, R.at_⟩
  · rintro h1 h2 ⟨S, m, hS, hm, hk⟩ e
    exact ⟨S, m, hS.keep e, hm, hk⟩
end Ag

set_option Elab.async false
set_option linter.all false
set_option maxRecDepth 100000
set_option maxHeartbeats 4000000
/-! Tables of sets of up to 300 keys: masks up to 511. -/
namespace Ag
open PySem PySem.Spec PyProof.Rows L2
def MaskW (m : Nat) : Prop := MaskOk m ∨ m = 511
/-- the numbers that come, one behind the other -/
def orb (m : Nat) : Nat → Nat → List Nat
  | 0, _ => []
  | n + 1, x => x :: orb m n ((x * 5 + 1) % (m + 1))
theorem orb_get (m : Nat) : ∀ n a k, k < n → (orb m n (lcgN m a))[k]? = some (lcgN m (a + k))
  | 0, _, _, h => absurd h (Nat.not_lt_zero _)
  | n + 1, a, 0, _ => rfl
  | n + 1, a, k + 1, h => by
    have := orb_get m n (a + 1) k (by omega)
    rw [show a + 1 + k = a + (k + 1) by omega] at this
    exact this
theorem orb_len (m : Nat) : ∀ n x, (orb m n x).length = n
  | 0, _ => rfl
  | n + 1, x => congrArg (· + 1) (orb_len m n _)
theorem orb511 : ((List.range 512).all fun j => (orb 511 512 0).contains j) = true := by decide +kernel
theorem once511 : lcgN 511 512 = 0 := by decide +kernel
theorem meet511 {j : Nat} (h : j ≤ 511) : ∃ b, b ≤ 511 ∧ lcgN 511 b = j := by
  have q := List.all_eq_true.mp orb511 j (List.mem_range.mpr (by omega))
  obtain ⟨b, hb, e⟩ := List.getElem_of_mem (List.contains_iff_mem.mp q)
  rw [orb_len] at hb
  have g := orb_get 511 512 0 b hb
  rw [Nat.zero_add] at g
  have e2 : (orb 511 512 (lcgN 511 0))[b]? = some j := List.getElem?_eq_some_iff.mpr ⟨by rw [orb_len]; exact hb, e⟩
  exact ⟨b, by omega, Option.some.inj (g.symm.trans e2)⟩
theorem more511 : ∀ k, lcgN 511 (512 + k) = lcgN 511 k
  | 0 => once511
  | k + 1 => congrArg (fun x => (x * 5 + 1) % 512) (more511 k)
theorem from511 {i j : Nat} (hi : i ≤ 511) (hj : j ≤ 511) : ∃ k, k ≤ 511 ∧ lcgI 511 i k = j := by
  obtain ⟨a, a1, a2⟩ := meet511 hi
  obtain ⟨b, b1, b2⟩ := meet511 hj
  by_cases c : a ≤ b
  · exact ⟨b - a, by omega, by rw [← a2, lcgN_add, Nat.add_sub_cancel' c, b2]⟩
  · exact ⟨512 + b - a, by omega, by rw [← a2, lcgN_add, Nat.add_sub_cancel' (by omega), more511, b2]⟩
/-- each slot is the start of an early run -/
theorem meetsW {m : Nat} (w : MaskW m) (h : Int) {j : Nat} (l : j ≤ m) : ∃ n, n ≤ m + 12 ∧ runI m (SetTable.bits h) n = j := by
  rcases w with w | rfl
  · exact run_meets w h l
  · obtain ⟨k, k1, k2⟩ := from511 (runI_le 511 (SetTable.bits h) 12) l
    exact ⟨12 + k, by omega, (runI_tail (bits_lt h) k).trans k2⟩
theorem way_in (m : Nat) (h : Int) (k : Nat) : way m h k ≤ m := by
  have l : SetTable.bits h % (m + 1) < m + 1 := Nat.mod_lt _ (Nat.succ_pos m)
  have e := runEnd_bd (Nat.le_of_lt_succ l)
  have := nth_in (m := m) k (runAt m (SetTable.bits h % (m + 1)) (SetTable.bits h)) (by unfold runAt; dsimp only; omega)
  exact Nat.le_trans (Nat.le_add_right _ _) this
/-- a table of such a mask, each of whose keys is found by its hash -/
structure TabW (t : SetTable) (hs : List Int) : Prop where
  ris : Ris t.place.toList
  dm : t.dummies = #[]
  sz : t.place.size = hs.length
  mok : MaskW t.mask
  bd : ∀ y ∈ t.place.toList, y ≤ t.mask
  reach : ∀ (i : Nat) (g : Int) (y : Nat), hs[i]? = some g → t.place.toList[i]? = some y → ∃ c, way t.mask g c = y ∧ ∀ c', c' < c → way t.mask g c' ∈ t.place.toList
theorem maskW_odd {m : Nat} (h : MaskW m) : m % 2 = 1 := h.elim mask_odd fun e => by rw [e]
theorem maskW_le {m : Nat} (h : MaskW m) : m ≤ 511 := by rcases h with (h | h | h) | h <;> omega
/-- the first free place on a key's way -/
theorem TabW.first {t : SetTable} {hs : List Int} (T : TabW t hs) (few : hs.length ≤ t.mask) (g : Int) : ∃ c, c < 10 * SetTable.turns t.mask ∧ way t.mask g c ∉ t.place.toList ∧ ∀ d, d < c → way t.mask g d ∈ t.place.toList := by
  have z : t.place.toList.length ≤ t.mask := by rw [Array.length_toList, T.sz]; exact few
  obtain ⟨y, y1, y2⟩ := st_missing t.place.toList (t.mask + 1) (by omega)
  obtain ⟨n, n1, n2⟩ := meetsW T.mok g (Nat.le_of_lt_succ y1)
  obtain ⟨c, c1, c2⟩ := run_nth t.mask (SetTable.bits g) n
  have at_ : way t.mask g c = y := (congrArg SetTable.Probe.j c2).trans n2
  obtain ⟨d, d1, d2, d3⟩ := st_least (p := fun d => way t.mask g d ∉ t.place.toList) c (by rw [at_]; exact y2)
  exact ⟨d, by unfold SetTable.turns; omega, d2, fun e le => Decidable.of_not_not (d3 e le)⟩
theorem TabW.before {t : SetTable} {hs : List Int} (T : TabW t hs) {h : Int} {c i y : Nat} (free : way t.mask h c ∉ t.place.toList) (hi : hs[i]? = some h) (hy : t.place.toList[i]? = some y) : ∃ d, d < c ∧ way t.mask h d = y := by
  obtain ⟨d, d1, d2⟩ := T.reach i h y hi hy
  have my := List.mem_of_getElem? hy
  refine ⟨d, Nat.lt_of_not_le fun le => ?_, d1⟩
  rcases Nat.eq_or_lt_of_le le with rfl | lt
  · exact free (d1 ▸ my)
  · exact free (d2 c lt)
theorem TabW.put {t : SetTable} {hs : List Int} (T : TabW t hs) {g : Int} {c : Nat} (free : way t.mask g c ∉ t.place.toList) (all : ∀ d, d < c → way t.mask g d ∈ t.place.toList) :
    (t.put (way t.mask g c)).2 = SetTable.below t.place (way t.mask g c) ∧ SetTable.below t.place (way t.mask g c) ≤ hs.length ∧
    TabW (t.put (way t.mask g c)).1 (hs.take (SetTable.below t.place (way t.mask g c)) ++ g :: hs.drop (SetTable.below t.place (way t.mask g c))) ∧
    (t.put (way t.mask g c)).1.mask = t.mask ∧ (t.put (way t.mask g c)).1.led = t.led ∧ (t.put (way t.mask g c)).1.fill = hs.length + 1 := by
  have bd := way_in t.mask g c
  generalize hy : way t.mask g c = y at free bd ⊢
  generalize hb : SetTable.below t.place y = b
  have cut := below_cut T.ris y
  rw [hb] at cut
  have b1 : b ≤ t.place.toList.length := by rw [Array.length_toList]; exact cut.1
  have b2 : b ≤ hs.length := T.sz ▸ cut.1
  have new : (t.put y).1.place.toList = t.place.toList.take b ++ y :: t.place.toList.drop b := hb ▸ put_place t y
  have size : (t.put y).1.place.size = hs.length + 1 := by
    rw [← Array.length_toList, new, len_ins _ b1, Array.length_toList, T.sz]
  have grow : ∀ {x : Nat}, x ∈ t.place.toList → x ∈ (t.put y).1.place.toList := fun {x} m => new ▸ mem_ins.mpr (.inr m)
  have dm2 := put_dm T.dm y
  refine ⟨hb, b2, ⟨ris_insert T.ris fun e => free (List.mem_of_getElem? (Array.getElem?_toList ▸ e)), dm2, by rw [len_ins _ b2]; exact size, T.mok, fun x hx => ?_, fun i g' y' h1 h2 => ?_⟩, rfl, rfl, ?_⟩
  · rw [new] at hx
    exact (mem_ins.mp hx).elim (fun e => e ▸ bd) (T.bd x)
  · rw [tins_get hs b2] at h1
    rw [new, tins_get _ b1] at h2
    have old : ∀ k, hs[k]? = some g' → t.place.toList[k]? = some y' → ∃ c, way t.mask g' c = y' ∧ ∀ c', c' < c → way t.mask g' c' ∈ (t.put y).1.place.toList := fun k q1 q2 =>
      let ⟨d, d1, d2⟩ := T.reach k g' y' q1 q2
      ⟨d, d1, fun c' lt => grow (d2 c' lt)⟩
    by_cases e1 : i < b
    · rw [if_pos e1] at h1 h2; exact old i h1 h2
    · rw [if_neg e1] at h1 h2
      by_cases e2 : i = b
      · rw [if_pos e2] at h1 h2
        cases h1; cases h2
        exact ⟨c, hy, fun c' lt => grow (all c' lt)⟩
      · rw [if_neg e2] at h1 h2; exact old (i - 1) h1 h2
  · unfold SetTable.fill
    rw [size, dm2]; rfl
/-- the first free slot, when all is laid anew -/
theorem freeW {m : Nat} (w : MaskW m) (own : Array (Option Nat)) (g : Int) {y : Nat} (l : y ≤ m) (free : oAt own y = none) :
    ∃ c, SetTable.layClean.free m own (SetTable.turns m) (SetTable.bits g % (m + 1)) (SetTable.bits g) = some (way m g c) ∧ oAt own (way m g c) = none ∧ ∀ d, d < c → oAt own (way m g d) ≠ none := by
  obtain ⟨n, n1, n2⟩ := meetsW w g l
  have at_ : way m g (off m (SetTable.bits g % (m + 1)) (SetTable.bits g) n) = y := by
    have := nth_off m n (SetTable.bits g % (m + 1)) (SetTable.bits g)
    rw [itL_run] at this
    exact (congrArg SetTable.Probe.j this).trans n2
  obtain ⟨c, c1, c2, c3⟩ := st_least (p := fun c => oAt own (way m g c) = none) _ (by rw [at_]; exact free)
  refine ⟨c, free_spec m own (SetTable.turns m) n _ _ c (by unfold SetTable.turns; omega) c1 (fun d ld => ?_) (Option.isNone_iff_eq_none.mpr c2), c2, c3⟩
  exact Bool.eq_false_iff.mpr fun e => c3 d ld (Option.isNone_iff_eq_none.mp e)
theorem stepW {m : Nat} (w : MaskW m) {done : List Int} {own : Array (Option Nat)} (W : Own m done own) (few : done.length ≤ m) (g : Int) :
    ∃ y, SetTable.layClean.free m own (SetTable.turns m) (SetTable.bits g % (m + 1)) (SetTable.bits g) = some y ∧ Own m (done ++ [g]) (own.setIfInBounds y (some done.length)) := by
  obtain ⟨ps, p1, p2⟩ := W.ps
  obtain ⟨y0, l0, n0⟩ := st_missing ps (m + 1) (by omega)
  have f0 : oAt own y0 = none := Decidable.of_not_not fun e => n0 (p2 y0 (Nat.le_of_lt_succ l0) e)
  obtain ⟨c, c1, c2, c3⟩ := freeW w own g (Nat.le_of_lt_succ l0) f0
  have bd := way_in m g c
  refine ⟨_, c1, ?_⟩
  generalize hy : way m g c = y at c2 bd
  have self := oAt_set_self (owner := own) (j := y) (some done.length) (by rw [W.sz]; omega)
  have ne : ∀ {i : Nat}, i ≠ y → oAt (own.setIfInBounds y (some done.length)) i = oAt own i := fun e => oAt_set_ne _ e
  have keep : ∀ {i : Nat}, oAt own i ≠ none → oAt (own.setIfInBounds y (some done.length)) i ≠ none := fun {i} h => by
    by_cases e : i = y
    · rw [e, self]; exact fun z => nomatch z
    · rwa [ne e]
  refine ⟨by rw [Array.size_setIfInBounds, W.sz], fun j k lj e => ?_, fun k lk => ?_, ⟨y :: ps, by rw [List.length_cons, p1, List.length_append, List.length_singleton], fun j lj e => ?_⟩⟩
  · by_cases ej : j = y
    · subst ej
      rw [self] at e; cases e
      exact ⟨g, c, by rw [List.getElem?_append_right (Nat.le_refl _), Nat.sub_self]; rfl, hy, fun d ld => keep (c3 d ld)⟩
    · rw [ne ej] at e
      obtain ⟨g', d, d1, d2, d3⟩ := W.at_ j k lj e
      exact ⟨g', d, by rw [List.getElem?_append_left (List.getElem?_eq_some_iff.mp d1).1]; exact d1, d2, fun d' ld => keep (d3 d' ld)⟩
  · rw [List.length_append, List.length_singleton] at lk
    rcases Nat.lt_succ_iff_lt_or_eq.mp lk with lt | rfl
    · obtain ⟨j, j1, j2⟩ := W.all k lt
      exact ⟨j, j1, by rw [ne (fun e => by rw [e, c2] at j2; cases j2)]; exact j2⟩
    · exact ⟨y, bd, self⟩
  · by_cases ej : j = y
    · rw [ej]; exact List.mem_cons_self
    · rw [ne ej] at e
      exact List.mem_cons_of_mem _ (p2 j lj e)
theorem layW {m : Nat} (w : MaskW m) : ∀ (rest done : List Int) (own : Array (Option Nat)), Own m done own → done.length + rest.length ≤ m → ∃ own', rest.foldl (stepF m) (some (own, done.length)) = some (own', done.length + rest.length) ∧ Own m (done ++ rest) own'
  | [], done, own, W, _ => ⟨own, rfl, by rw [List.append_nil]; exact W⟩
  | g :: rest, done, own, W, few => by
    rw [List.length_cons] at few
    obtain ⟨y, y1, y2⟩ := stepW w W (by omega) g
    have len : (done ++ [g]).length = done.length + 1 := by rw [List.length_append, List.length_singleton]
    obtain ⟨own', o1, o2⟩ := layW w rest (done ++ [g]) _ y2 (by omega)
    rw [len] at o1
    refine ⟨own', ?_, by rw [List.append_assoc] at o2; exact o2⟩
    rw [List.foldl_cons, stepF_some y1, o1, List.length_cons, Nat.add_assoc, Nat.add_comm 1]
theorem relaidW (t : SetTable) {hs : Array Int} {wanted M : Nat} (hw : SetTable.sizeAbove wanted - 1 = M) (w : MaskW M) (few : hs.size ≤ M) :
    ∃ t' od, t.relaid hs wanted = some (t', od) ∧ od.toList.Perm (List.range hs.size) ∧ TabW t' (od.toList.map fun i => hs.getD i 0) ∧ t'.mask = M ∧ t'.led = t.led := by
  obtain ⟨own, f, W⟩ := layW w hs.toList [] _ (Own.init M) (by rw [Array.length_toList]; exact (Nat.zero_add _).symm ▸ few)
  rw [List.nil_append] at W
  have lay : SetTable.layClean M hs = some own := by rw [layClean_eq, show (0 : Nat) = ([] : List Int).length from rfl, f]; rfl
  have re : t.relaid hs wanted = some (tabOf t M own, ((liveOf M own).map (·.2)).toArray) := by rw [relaid_eq, hw, lay]; rfl
  have rs := ris_live (fun j => own.getD j none) (List.range (M + 1)) List.pairwise_lt_range
  have ris : Ris ((liveOf M own).map (·.1)) := rs.1
  have live : ∀ {j k : Nat}, (j, k) ∈ liveOf M own ↔ j ≤ M ∧ oAt own j = some k := mem_live W.sz
  have cover : ∀ k, k < hs.size → k ∈ (liveOf M own).map (·.2) := fun k lk => by
    obtain ⟨j, j1, j2⟩ := W.all k (by rw [Array.length_toList]; exact lk)
    exact List.mem_map.mpr ⟨(j, k), live.mpr ⟨j1, j2⟩, rfl⟩
  have count : (liveOf M own).length = hs.size := by
    obtain ⟨ps, p1, p2⟩ := W.ps
    have p1 : ps.length = hs.size := p1
    refine Nat.le_antisymm ?_ ?_
    · have nd : ((liveOf M own).map (·.1)).Nodup := List.Pairwise.imp (fun h => Nat.ne_of_lt h) ris
      have := nat_nodup_len ((liveOf M own).map (·.1)) ps nd fun x hx => by
        obtain ⟨⟨j, k⟩, q, rfl⟩ := List.mem_map.mp hx
        obtain ⟨j1, j2⟩ := live.mp q
        exact p2 j j1 (by rw [j2]; exact fun z => nomatch z)
      rwa [List.length_map, p1] at this
    · have := nat_nodup_len (List.range hs.size) ((liveOf M own).map (·.2)) List.nodup_range fun k hk => cover k (List.mem_range.mp hk)
      rwa [List.length_map, List.length_range] at this
  refine ⟨_, _, re, perm_range hs.size _ (by rw [List.length_map, count]) cover, ⟨ris, rfl, ?_, w, fun x hx => ?_, fun i g y h1 h2 => ?_⟩, rfl, rfl⟩
  · show ((liveOf M own).map (·.1)).toArray.size = _
    simp
  · obtain ⟨⟨j, k⟩, q, rfl⟩ := List.mem_map.mp (show x ∈ (liveOf M own).map (·.1) from hx)
    exact (live.mp q).1
  · have h1 : (((liveOf M own).map (·.2)).map fun i => hs.getD i 0)[i]? = some g := h1
    have h2 : ((liveOf M own).map (·.1))[i]? = some y := h2
    rw [List.map_map, List.getElem?_map] at h1
    rw [List.getElem?_map] at h2
    cases q : (liveOf M own)[i]? with
    | none => rw [q] at h2; cases h2
    | some z =>
      obtain ⟨y', k⟩ := z
      rw [q] at h1 h2
      cases h2
      have h1 : hs.getD k 0 = g := Option.some.inj h1
      obtain ⟨j1, j2⟩ := live.mp (List.mem_of_getElem? q)
      obtain ⟨g0, c, c1, c2, c3⟩ := W.at_ _ k j1 j2
      rw [Array.getElem?_toList] at c1
      rw [Array.getD_eq_getD_getElem?, c1] at h1
      have h1 : g0 = g := h1
      subst h1
      refine ⟨c, c2, fun d ld => ?_⟩
      obtain ⟨k2, e2⟩ := Option.ne_none_iff_exists'.mp (c3 d ld)
      exact List.mem_map.mpr ⟨(way M g0 d, k2), live.mpr ⟨way_in M g0 d, e2⟩, rfl⟩
theorem size_308 : SetTable.sizeAbove (SetTable.grown 77) = 512 := by decide +kernel
end Ag

set_option Elab.async false
set_option linter.all false
set_option maxRecDepth 100000
set_option maxHeartbeats 4000000
/-! Sets of fewer than 301 tuples whose items are numbers and texts. -/
namespace Ag
open PySem PySem.Spec PyProof.Rows L2
section
variable {P : Program} {w : World}
/-- the probe at its c-th step, and what it keeps -/
abbrev prb (m : Nat) (g : Int) (c : Nat) : SetTable.Probe := nth m (runAt m (SetTable.bits g % (m + 1)) (SetTable.bits g)) c
theorem prb_add (m : Nat) (g : Int) (c q : Nat) : nth m (prb m g c) q = prb m g (c + q) := (nth_add m c _ q).symm
theorem prb_way (m : Nat) (g : Int) (c q : Nat) : (nth m (prb m g c) q).j = way m g (c + q) := congrArg (fun z : SetTable.Probe => z.j) (prb_add m g c q)
theorem nth_dm (m : Nat) : ∀ (n : Nat) (z : SetTable.Probe), z.dummy = none → (nth m z n).dummy = none
  | 0, _, e => e
  | n + 1, z, e => nth_dm m n (adv m z) (by unfold adv; split <;> exact e)

variable {κ : Type} [DecidableEq κ] (kd : HeapKind P w κ)
/-- what a set asks of the keys it holds -/
structure KeyOk : Prop where
  old : ∀ {h h' : Heap} {k : κ} {b : Addr}, (∀ c o, h.get? c = some o → h'.get? c = some o) → kd.is h k b → kd.is h' k b
  but : ∀ {h h' : Heap} {k : κ} {b d : Addr} {o : Obj} {vs : Array (Int × Value)} {n : Nat} {t : SetTable}, kd.is h k b → h.get? d = some o → o.data = .set vs n t → Heap.SameBut d h h' → kd.is h' k b
  cls : ∀ {A : Around} {E : Value → Shared → Prop} {s : Shared} {k : κ} {b : Addr} {Q : Bool → Shared → Prop}, kd.is s.heap k b → Q false s → wpAny (model P w) A (ofAClassStatement 8 (.ref b)) Q E s
  byv : ∀ {A : Around} {E : Value → Shared → Prop} {s : Shared} {k : κ} {b : Addr} {Q : Bool → Shared → Prop}, kd.is s.heap k b → (∀ r, Q r s) → wpAny (model P w) A (hashByValue 8 (.ref b)) Q E s
/-- the entries of a table whose keys are those of L -/
def entH (L : List (Addr × κ)) : List (Int × Value) := L.map fun z => (kd.hash z.2, Value.ref z.1)
structure SetH (h : Heap) (a : Addr) (L : List (Addr × κ)) (vs : Array (Int × Value)) (n : Nat) (t : SetTable) : Prop where
  at_ : ∃ o, h.get? a = some o ∧ o.ExactSet ∧ o.data = .set vs n t
  ents : vs.toList = entH kd L
  lay : TabW t (L.map fun z => kd.hash z.2)
  once : (L.map Prod.snd).Nodup
  keys : ∀ z ∈ L, kd.is h z.2 z.1
  told : w.params.followText "set-order" = true ∨ t.led = true
  loose : L.length * 5 < t.mask * 3
  small : L.length < 301
variable {kd} {A : Around} {E : Value → Shared → Prop} {s : Shared} {a : Addr} {L : List (Addr × κ)} {vs : Array (Int × Value)} {n : Nat} {t : SetTable}
theorem ent_len {vs : Array (Int × Value)} {L : List (Addr × κ)} (e : vs.toList = entH kd L) : vs.size = L.length := by
  have := congrArg List.length e
  unfold entH at this
  rwa [Array.length_toList, List.length_map] at this
theorem ent_at {vs : Array (Int × Value)} {L : List (Addr × κ)} (e : vs.toList = entH kd L) {i : Nat} {z : Addr × κ} (hz : L[i]? = some z) : vs[i]? = some (kd.hash z.2, Value.ref z.1) := by
  have : vs.toList[i]? = some (kd.hash z.2, Value.ref z.1) := by rw [e]; unfold entH; rw [List.getElem?_map, hz]; rfl
  rwa [Array.getElem?_toList] at this
theorem fit_of {vs : Array (Int × Value)} {L : List (Addr × κ)} {t : SetTable} (e : vs.toList = entH kd L) (h1 : t.place.size = vs.size) (h2 : t.dummies = #[]) (h3 : vs.size ≤ t.mask) : t.fits vs.size = true := by
  unfold SetTable.fits SetTable.fill
  rw [h2, Bool.and_eq_true, beq_iff_eq, decide_eq_true_eq]
  exact ⟨h1, by show t.place.size + 0 ≤ t.mask; omega⟩
theorem byv_if (ok : KeyOk kd) {c : Bool} {k : κ} {b : Addr} {α : Type} {F : Bool → Sem α} {Q : α → Shared → Prop} (hb : kd.is s.heap k b) (q : ∀ r, wpAny (model P w) A (F r) Q E s) : wpAny (model P w) A (if c = true then hashByValue 8 (.ref b) >>= F else pure true >>= F) Q E s := by
  cases c with
  | true => exact wp_if_pos rfl (wpAny_bind (ok.byv hb q))
  | false => exact wp_if_neg (by decide) (wpAny_bind (wpAny_pure (q true)))
theorem SetH.plc (R : SetH kd s.heap a L vs n t) : t.place.size = L.length := by
  have := R.lay.sz
  rwa [List.length_map] at this
theorem SetH.fits (R : SetH kd s.heap a L vs n t) : t.fits vs.size = true := by
  have z := ent_len R.ents
  have r := R.loose
  exact fit_of R.ents (by rw [R.plc, z]) R.lay.dm (by omega)
/-- nothing shows when keys are looked for among keys -/
theorem unseen (ok : KeyOk kd) {k : κ} {b : Addr} {Q : Bool → Shared → Prop} (hb : kd.is s.heap k b) {ys : List Value} (all : ∀ y ∈ ys, ∃ j c, y = Value.ref c ∧ kd.is s.heap j c) (q : Q false s) :
    wpAny (model P w) A (searchCouldBeSeen (.ref b) ys) Q E s := by
  unfold searchCouldBeSeen
  refine wpAny_bind (wpAny_forIn_list _ (fun left out s1 => out.1 = none ∧ s1 = s ∧ ∀ y ∈ left, ∃ j c, y = Value.ref c ∧ kd.is s.heap j c) _ (fun y left out s1 z => ?_) (fun out s1 z => ?_) _ _ ⟨rfl, rfl, all⟩)
  · obtain ⟨e1, rfl, z⟩ := z
    obtain ⟨j, c, rfl, hc⟩ := z y List.mem_cons_self
    have z2 := fun u hu => z u (List.mem_cons_of_mem _ hu)
    dsimp only
    by_cases hv : (b == c || (carriedByValue (.ref b) && carriedByValue (.ref c))) = true
    · exact wp_if_pos hv (wpAny_pure ⟨rfl, rfl, z2⟩)
    · refine wp_if_neg hv (wpAny_bind (kd.quiet hb ?_))
      simp only [Bool.not_true, Bool.false_eq_true, if_false]
      refine wpAny_bind (kd.quiet hc ?_)
      simp only [Bool.not_true, Bool.false_eq_true, if_false]
      refine wpAny_bind (ok.cls hb ?_)
      simp only [Bool.false_eq_true, if_false]
      refine wpAny_bind (ok.cls hc ?_)
      simp only [Bool.false_eq_true, if_false]
      exact wpAny_pure ⟨rfl, rfl, z2⟩
  · obtain ⟨o1, o2⟩ := out
    obtain ⟨e1, rfl, _⟩ := z
    have e1 : o1 = none := e1
    subst e1
    exact wpAny_pure q
/-- looking for a key that is to be added, from the c-th step on; at the e-th step is the first empty slot -/
theorem look_from (ok : KeyOk kd) (R : SetH kd s.heap a L vs n t) {b : Addr} {k : κ} (hb : kd.is s.heap k b) (ro : kd.room A) {e : Nat} (e1 : e < 10 * SetTable.turns t.mask) (e2 : way t.mask (kd.hash k) e ∉ t.place.toList)
    (e3 : ∀ c, c < e → way t.mask (kd.hash k) c ∈ t.place.toList) {Q : SetFound → Shared → Prop} (yes : k ∈ L.map Prod.snd → Q (.there none) s) (no : k ∉ L.map Prod.snd → Q (.free (way t.mask (kd.hash k) e) false) s) :
    ∀ (u c : Nat) (o : Option SetTable.Probe), o.getD (t.probeStart (kd.hash k)) = prb t.mask (kd.hash k) c → c ≤ e → e < u + c →
      (∀ (i : Nat) z, L[i]? = some z → z.2 = k → ∃ d, c ≤ d ∧ d < e ∧ t.place.toList[i]? = some (way t.mask (kd.hash k) d)) → wpAny (model P w) A (setSearchFrom a (.ref b) (kd.hash k) true u o) Q E s
  | 0, c, o, _, h1, h2, _ => absurd h2 (by omega)
  | u + 1, c, o, ho, h1, h2, still => by
    obtain ⟨ob, g1, g2, g3⟩ := R.at_
    rw [setSearchFrom_succ]
    refine wpAny_bind (wpAny_setState_of g1 g3 R.fits ?_)
    dsimp only
    have ng : ¬ t.gaveWay = true := by
      unfold SetTable.gaveWay
      rw [maskW_odd R.lay.mok]; decide
    refine wp_if_neg ng ?_
    try refine wpAny_bind (wpAny_pure ?_)
    have hs : ∀ (i : Nat) z, L[i]? = some z → (fun i => (vs[i]?.map (·.1)).getD 0) i = kd.hash z.2 := fun i z hz => by
      show (vs[i]?.map (·.1)).getD 0 = _
      rw [ent_at R.ents hz]; rfl
    rcases go_spec t R.lay.ris R.lay.dm (fun i => (vs[i]?.map (·.1)).getD 0) (kd.hash k) (10 * SetTable.turns t.mask) (e - c) (prb t.mask (kd.hash k) c) (nth_dm _ _ _ rfl) (by omega) (fun q hq => by rw [prb_way]; exact e3 _ (by omega)) (by rw [prb_way, show c + (e - c) = e by omega]; exact e2) with ⟨q, i, f1, f2, f3, f4, f5⟩ | ⟨f4, f5⟩
    · -- one with the same hash
      rw [prb_way, prb_add] at f5
      rw [prb_way] at f2
      have st : t.probe (fun i => (vs[i]?.map (·.1)).getD 0) (kd.hash k) (o.getD (t.probeStart (kd.hash k))) = some (.candidate (way t.mask (kd.hash k) (c + q)) i (prb t.mask (kd.hash k) (c + (q + 1)))) := by rw [ho]; exact f5
      rw [st]
      dsimp only
      have il : i < L.length := by
        have z := (List.getElem?_eq_some_iff.mp f2).1
        rw [Array.length_toList, R.plc] at z; exact z
      obtain ⟨z, hz⟩ : ∃ z, L[i]? = some z := ⟨_, List.getElem?_eq_getElem il⟩
      have zL : z ∈ L := List.mem_of_getElem? hz
      have sl : t.slot (way t.mask (kd.hash k) (c + q)) = .live i := slot_live R.lay.ris f2
      have on : wpAny (model P w) A (searchRest a (.ref b) (kd.hash k) true u vs t (way t.mask (kd.hash k) (c + q)) i (prb t.mask (kd.hash k) (c + (q + 1)))) Q E s := by
        unfold searchRest
        rw [ent_at R.ents hz]
        dsimp only
        refine wpAny_bind (wpAny_holding (kd.eqBool ro (R.keys z zL) hb ?_))
        refine wpAny_bind (wpAny_setState_of g1 g3 R.fits ?_)
        dsimp only
        by_cases eq : z.2 = k
        · exact wp_if_pos (by rw [decide_eq_true eq]; rfl) (wpAny_pure (yes (List.mem_map.mpr ⟨z, zL, eq⟩)))
        · have fl : (true && decide (z.2 = k)) = false := by rw [decide_eq_false eq]; rfl
          refine wp_if_neg (by rw [fl]; decide) ?_
          try refine wpAny_bind (wpAny_pure ?_)
          rw [sameMem]
          dsimp only
          simp only [if_true, sl, ent_at R.ents hz]
          refine wpAny_bind (wpAny_isSame_ref_self (wpAny_bind (wpAny_pure ?_)))
          simp only [if_true]
          refine wp_if_neg (by rw [decide_eq_false eq]; decide) ?_
          refine look_from ok R hb ro e1 e2 e3 yes no u (c + (q + 1)) _ rfl (by omega) (by omega) fun i' z' hz' ek => ?_
          obtain ⟨d, d1, d2, d3⟩ := still i' z' hz' ek
          refine ⟨d, ?_, d2, d3⟩
          rcases Nat.lt_trichotomy d (c + q) with lt | rfl | gt
          · refine absurd ((hs i' z' hz').trans (congrArg kd.hash ek)) (f4 (d - c) i' (by omega) ?_)
            rw [prb_way, show c + (d - c) = d by omega]; exact d3
          · have same := slot_live R.lay.ris d3
            rw [sl] at same
            injection same with same
            rw [← same, hz] at hz'
            exact absurd ((congrArg Prod.snd (Option.some.inj hz')).trans ek) eq
          · omega
      by_cases tl : t.led = true
      · refine wp_if_neg (by rw [tl]; decide) ?_
        try refine wpAny_bind (wpAny_pure ?_)
        exact on
      · refine wp_if_pos (by rw [Bool.not_eq_true] at tl; rw [tl]; rfl) ?_
        refine wpAny_bind (unseen ok hb (fun y hy => ?_) ?_)
        · obtain ⟨y1, m1, m2⟩ := List.mem_map.mp hy
          have m3 : y1 ∈ vs.toList := by
            have : y1 ∈ vs ∧ y1.1 = kd.hash k := by simpa using m1
            simpa using this.1
          rw [R.ents] at m3
          obtain ⟨z2, hz2, m4⟩ := List.mem_map.mp m3
          exact ⟨z2.2, z2.1, by rw [← m2, ← m4], R.keys z2 hz2⟩
        · refine wp_if_neg (by decide) ?_
          try refine wpAny_bind (wpAny_pure ?_)
          exact on
    · -- the empty slot is come to
      rw [prb_way, show c + (e - c) = e by omega] at f5
      have st : t.probe (fun i => (vs[i]?.map (·.1)).getD 0) (kd.hash k) (o.getD (t.probeStart (kd.hash k))) = some (.empty (way t.mask (kd.hash k) e) none) := by rw [ho]; exact f5
      rw [st]
      dsimp only
      refine wpAny_pure (no fun hm => ?_)
      obtain ⟨z, zL, ek⟩ := List.mem_map.mp hm
      obtain ⟨i, hi, ei⟩ := List.getElem_of_mem zL
      have hz : L[i]? = some z := by rw [List.getElem?_eq_getElem hi, ei]
      obtain ⟨d, d1, d2, d3⟩ := still i z hz ek
      refine absurd ((hs i z hz).trans (congrArg kd.hash ek)) (f4 (d - c) i (by omega) ?_)
      rw [prb_way, show c + (d - c) = d by omega]; exact d3
theorem look_at (ok : KeyOk kd) (R : SetH kd s.heap a L vs n t) {b : Addr} {k : κ} (hb : kd.is s.heap k b) (ro : kd.room A) {Q : SetFound → Shared → Prop} (yes : k ∈ L.map Prod.snd → Q (.there none) s)
    (no : ∀ e, k ∉ L.map Prod.snd → way t.mask (kd.hash k) e ∉ t.place.toList → (∀ c, c < e → way t.mask (kd.hash k) c ∈ t.place.toList) → Q (.free (way t.mask (kd.hash k) e) false) s) :
    wpAny (model P w) A (setSearch a (.ref b) (kd.hash k) true) Q E s := by
  have rm := R.loose
  obtain ⟨e, e1, e2, e3⟩ := R.lay.first (by rw [List.length_map]; omega) (kd.hash k)
  have few : e < 100000 := by
    have : 10 * SetTable.turns t.mask ≤ 5260 := by
      have := maskW_le R.lay.mok
      unfold SetTable.turns
      omega
    omega
  unfold setSearch
  refine look_from ok R hb ro e1 e2 e3 yes (fun hn => no e hn e2 e3) 100000 0 none rfl (Nat.zero_le _) (by omega) fun i z hz ek => ?_
  have il : i < t.place.toList.length := by
    rw [Array.length_toList, R.plc]
    exact (List.getElem?_eq_some_iff.mp hz).1
  have hj := List.getElem?_eq_getElem il
  obtain ⟨d, d1, d2⟩ := R.lay.before e2 (h := kd.hash k) (i := i) (by rw [List.getElem?_map, hz, ← ek]; rfl) hj
  exact ⟨d, Nat.zero_le _, d1, by rw [d2]; exact hj⟩
end
end Ag

set_option Elab.async false
set_option linter.all false
set_option maxRecDepth 100000
set_option maxHeartbeats 4000000
namespace Ag
open PySem PySem.Spec PyProof.Rows L2
theorem self_pick {α : Type} : ∀ l : List α, (List.range l.length).filterMap (fun i => l[i]?) = l
  | [] => rfl
  | x :: l => by
    have e : (List.range (x :: l).length).filterMap (fun i => (x :: l)[i]?) = x :: (List.range l.length).filterMap (fun i => l[i]?) := by
      rw [List.length_cons, List.range_succ_eq_map, List.filterMap_cons_some (b := x) (by rfl), List.filterMap_map]
      congr 1
    rw [e, self_pick l]
section
variable {P : Program} {w : World} {κ : Type} [DecidableEq κ] {kd : HeapKind P w κ} {A : Around} {E : Value → Shared → Prop} {s : Shared} {a : Addr} {L : List (Addr × κ)} {vs : Array (Int × Value)} {n : Nat} {t : SetTable}
theorem picked {vs : Array (Int × Value)} {L : List (Addr × κ)} (e : vs.toList = entH kd L) : ∀ l : List Nat, (∀ i ∈ l, i < L.length) →
    l.filterMap (fun i => vs[i]?) = entH kd (l.filterMap fun i => L[i]?) ∧ ((l.filterMap fun i => L[i]?).map fun z => kd.hash z.2) = l.map fun i => (vs.map (·.1)).getD i 0
  | [], _ => ⟨rfl, rfl⟩
  | i :: l, h => by
    obtain ⟨h1, h2⟩ := picked e l fun j hj => h j (List.mem_cons_of_mem _ hj)
    have hi := h i List.mem_cons_self
    have e1 : L[i]? = some L[i] := List.getElem?_eq_getElem hi
    have e2 := ent_at e e1
    have e3 : (vs.map (·.1)).getD i 0 = kd.hash (L[i]).2 := by
      have : (vs.map (·.1))[i]? = some (kd.hash (L[i]).2) := by rw [Array.getElem?_map, e2]; rfl
      rw [Array.getD_eq_getD_getElem?, this]; rfl
    rw [List.filterMap_cons_some e2, List.filterMap_cons_some e1, h1, List.map_cons, List.map_cons, h2, e3]
    exact ⟨rfl, rfl⟩
/-- the table is laid anew, with more room -/
theorem relay_h (ok : KeyOk kd) {o : Obj} (g1 : s.heap.get? a = some o) (g2 : o.ExactSet) (g3 : o.data = .set vs n t) (e : vs.toList = entH kd L) (z : t.place.size = vs.size) (dm : t.dummies = #[]) (le : vs.size ≤ t.mask) (once : (L.map Prod.snd).Nodup)
    (keys : ∀ z ∈ L, kd.is s.heap z.2 z.1) (told : w.params.followText "set-order" = true ∨ t.led = true) (few : L.length < 301) {want M : Nat} (w1 : SetTable.sizeAbove want - 1 = M) (w2 : MaskW M) (w3 : SetTable.sizeAbove want ≤ 512)
    (w4 : L.length * 5 < M * 3) {Q : Unit → Shared → Prop} (q : ∀ h' L' vs' n' t', Heap.SameBut a s.heap h' → SetH kd h' a L' vs' n' t' → L'.Perm L → Q () { s with heap := h' }) : wpAny (model P w) A (setRelay a want) Q E s := by
  have len := ent_len e
  obtain ⟨t', od, r1, r2, r3, r4, r5⟩ := relaidW t (hs := vs.map (·.1)) (wanted := want) w1 w2 (by rw [Array.size_map, len]; omega)
  rw [Array.size_map, len] at r2
  obtain ⟨p1, p2⟩ := picked e od.toList fun i hi => List.mem_range.mp (r2.mem_iff.mp hi)
  have p3 : (od.toList.filterMap fun i => L[i]?).Perm L := by
    have := r2.filterMap fun i => L[i]?
    rwa [self_pick] at this
  have p4 : (od.filterMap (vs[·]?)).toList = entH kd (od.toList.filterMap fun i => L[i]?) := by rw [Array.toList_filterMap]; exact p1
  rw [← p2] at r3
  generalize od.toList.filterMap (fun i => L[i]?) = L' at p3 p4 r3
  have len2 := ent_len p4
  rw [p3.length_eq] at len2
  rw [setRelay_eq]
  refine wpAny_bind (wpAny_setState_of g1 g3 (fit_of e z dm le) ?_)
  dsimp only
  refine wp_if_neg (by rw [sizeLine_eq]; omega) ?_
  try refine wpAny_bind (wpAny_pure ?_)
  rw [r1]
  dsimp only
  refine wpAny_bind ?_
  refine wp_if_neg (by rw [len2, len]; simp) ?_
  try refine wpAny_bind (wpAny_pure ?_)
  refine wpAny_pure ?_
  dsimp only
  refine wpAny_storeSet_of g1 g3 ?_ (by rw [len2, sizeLine_eq]; omega)
  have sb : Heap.SameBut a s.heap (s.heap.update a (Obj.putSet (od.filterMap (vs[·]?)) t')) := Heap.SameBut.update ..
  exact q _ L' (od.filterMap (vs[·]?)) (n + 1) t' sb ⟨⟨_, store_at g1 g3, ⟨g2.1, g2.2.1, g2.2.2⟩, rfl⟩, p4, r3, (p3.map Prod.snd).nodup_iff.mpr once, fun y hy => ok.but (keys y (p3.mem_iff.mp hy)) g1 g3 sb, by rw [r5]; exact told,
    by rw [p3.length_eq, r4]; exact w4, by rw [p3.length_eq]; exact few⟩ p3
theorem grown_case {m l : Nat} (mk : MaskW m) (lt : l * 5 < m * 3) (ge : m * 3 ≤ (l + 1) * 5) (few : l + 1 < 301) : ∃ M, SetTable.sizeAbove (SetTable.grown (l + 1)) - 1 = M ∧ MaskW M ∧ SetTable.sizeAbove (SetTable.grown (l + 1)) ≤ 512 ∧ (l + 1) * 5 < M * 3 := by
  rcases mk with (rfl | rfl | rfl) | rfl
  · have : l = 4 := by omega
    subst this
    exact ⟨31, by rw [size_20], .inl (.inr (.inl rfl)), by rw [size_20]; decide, by decide⟩
  · have : l = 18 := by omega
    subst this
    exact ⟨127, by rw [size_76], .inl (.inr (.inr rfl)), by rw [size_76]; decide, by decide⟩
  · have : l = 76 := by omega
    subst this
    exact ⟨511, by rw [size_308], .inr rfl, by rw [size_308]; decide, by decide⟩
  · exact absurd ge (by omega)
/-- a key is added -/
theorem add_h (ok : KeyOk kd) (R : SetH kd s.heap a L vs n t) {b : Addr} {k : κ} (hb : kd.is s.heap k b) (ro : kd.room A) (few : L.length + 1 < 301) {Q : Bool → Shared → Prop}
    (q : ∀ r h' L' vs' n' t', Heap.SameBut a s.heap h' → SetH kd h' a L' vs' n' t' → (k ∈ L.map Prod.snd → L' = L) → (k ∉ L.map Prod.snd → L'.Perm ((b, k) :: L)) → Q r { s with heap := h' }) :
    wpAny (model P w) A (setAddHashed a (.ref b) (kd.hash k)) Q E s := by
  obtain ⟨o, g1, g2, g3⟩ := R.at_
  have len := ent_len R.ents
  have rm := R.loose
  unfold setAddHashed
  refine wpAny_holding ?_
  rw [show (100000 : Nat) = 99999 + 1 from rfl, setAddHashedIn_succ]
  refine wpAny_bind (wpAny_setState_of g1 g3 R.fits ?_)
  dsimp only
  refine wp_if_neg (by simp [byScan, Value.scannable]) ?_
  try refine wpAny_bind (wpAny_pure ?_)
  refine wpAny_bind (look_at ok R hb ro (fun yes => ?_) fun e no e2 e3 => ?_)
  · dsimp only
    exact wpAny_pure (q false s.heap L vs n t (Heap.SameBut.refl a s.heap) R (fun _ => rfl) fun no => absurd yes no)
  · dsimp only
    refine wpAny_bind (wpAny_setState_of g1 g3 R.fits ?_)
    dsimp only
    obtain ⟨q1, q2, q3, q4, q5, q9⟩ := R.lay.put e2 e3
    generalize hT : t.put (way t.mask (kd.hash k) e) = T1 at q1 q3 q4 q5 q9 ⊢
    obtain ⟨t0, j⟩ := T1
    dsimp only at q1 q3 q4 q5 q9 ⊢
    subst q1
    refine byv_if ok hb fun r0 => ?_
    generalize hT2 : (if r0 = true then t0 else { t0 with plain := false }) = t1
    obtain ⟨q3, q4, q5, q9⟩ : TabW t1 ((L.map fun z => kd.hash z.2).take (SetTable.below t.place (way t.mask (kd.hash k) e)) ++ kd.hash k :: (L.map fun z => kd.hash z.2).drop (SetTable.below t.place (way t.mask (kd.hash k) e))) ∧ t1.mask = t.mask ∧ t1.led = t.led ∧ t1.fill = (L.map fun z => kd.hash z.2).length + 1 := by
      subst hT2
      cases r0 with
      | true => exact ⟨q3, q4, q5, q9⟩
      | false => exact ⟨⟨q3.ris, q3.dm, q3.sz, q3.mok, q3.bd, q3.reach⟩, q4, q5, q9⟩
    clear hT2
    generalize hj : SetTable.below t.place (way t.mask (kd.hash k) e) = j at q2 q3 ⊢
    have p1 := put_perm L j (b, k)
    have e1 : (SetTable.insertAt vs j (kd.hash k, Value.ref b)).toList = entH kd (L.take j ++ (b, k) :: L.drop j) := by
      rw [SetTable.toList_insertAt, R.ents]
      unfold entH
      rw [List.map_append, List.map_cons, List.map_take, List.map_drop]
    have p2 : ((L.take j ++ (b, k) :: L.drop j).map fun z => kd.hash z.2) = (L.map fun z => kd.hash z.2).take j ++ kd.hash k :: (L.map fun z => kd.hash z.2).drop j := by rw [List.map_append, List.map_cons, List.map_take, List.map_drop]
    rw [← p2] at q3
    generalize SetTable.insertAt vs j (kd.hash k, Value.ref b) = v1 at e1 ⊢
    generalize L.take j ++ (b, k) :: L.drop j = L1 at p1 q3 e1
    have l1 : L1.length = L.length + 1 := p1.length_eq
    have l2 : v1.size = L.length + 1 := by rw [ent_len e1, l1]
    have once : (L1.map Prod.snd).Nodup := (p1.map Prod.snd).nodup_iff.mpr (List.nodup_cons.mpr ⟨no, R.once⟩)
    refine wpAny_bind (wpAny_storeSet_of g1 g3 ?_ (by rw [l2, sizeLine_eq]; omega))
    have sb : Heap.SameBut a s.heap (s.heap.update a (Obj.putSet v1 t1)) := Heap.SameBut.update ..
    have o1 := store_at (es' := v1) (t' := t1) g1 g3
    generalize s.heap.update a (Obj.putSet v1 t1) = h1 at sb o1 ⊢
    have keys : ∀ z ∈ L1, kd.is h1 z.2 z.1 := fun z hz => by
      rcases List.mem_cons.mp (p1.mem_iff.mp hz) with ez | hz
      · rw [ez]; exact ok.but hb g1 g3 sb
      · exact ok.but (R.keys z hz) g1 g3 sb
    have told : w.params.followText "set-order" = true ∨ t1.led = true := by rw [q5]; exact R.told
    have full : t1.tooFull = true ↔ t.mask * 3 ≤ (L.length + 1) * 5 := by
      unfold SetTable.tooFull
      rw [decide_eq_true_iff, q9, List.length_map, q4]
    by_cases tf : t1.tooFull = true
    · obtain ⟨M, w1, w2, w3, w4⟩ := grown_case R.lay.mok rm (full.mp tf) few
      first
        | (refine wpAny_bind ?_; refine wp_if_pos (by rw [tf]; rfl) ?_)
        | (refine wp_if_pos (by rw [tf]; rfl) ?_; refine wpAny_bind ?_)
      rw [len]
      refine relay_h (s := { s with heap := h1 }) ok o1 ⟨g2.1, g2.2.1, g2.2.2⟩ rfl e1 (by have := q3.sz; rw [List.length_map] at this; rw [this, l1, l2]) q3.dm (by rw [l2, q4]; rcases R.lay.mok with (m | m | m) | m <;> omega) once keys told (by rw [l1]; exact few) w1 w2 w3 (by rw [l1]; exact w4) fun h2 L2 v2 n2 t2 sb2 R2 p3 => ?_
      exact wpAny_pure (q true h2 L2 v2 n2 t2 (sb.trans sb2) R2 (fun yes => absurd yes no) fun _ => p3.trans p1)
    · have nf : ¬ t.mask * 3 ≤ (L.length + 1) * 5 := fun z => tf (full.mpr z)
      rw [Bool.not_eq_true] at tf
      first
        | refine wp_if_neg (by rw [tf]; decide) ?_
        | (refine wpAny_bind ?_; refine wp_if_neg (by rw [tf]; decide) ?_; refine wpAny_pure ?_)
      refine wpAny_pure (q true h1 L1 v1 (n + 1) t1 sb ⟨⟨_, o1, ⟨g2.1, g2.2.1, g2.2.2⟩, rfl⟩, e1, q3, once, keys, told, by rw [l1, q4]; omega, by rw [l1]; exact few⟩ (fun yes => absurd yes no) fun _ => p1)
/-- what a set has got of the first i keys -/
structure Has (ks : List (Addr × κ)) (i : Nat) (L : List (Addr × κ)) : Prop where
  of : ∀ z ∈ L, z ∈ ks.take i
  all : ∀ z ∈ ks.take i, z.2 ∈ L.map Prod.snd
  len : L.length ≤ i
theorem Has.step {ks L L' : List (Addr × κ)} {i : Nat} {z : Addr × κ} (g : Has ks i L) (h : ks[i]? = some z) (h1 : z.2 ∈ L.map Prod.snd → L' = L) (h2 : z.2 ∉ L.map Prod.snd → L'.Perm (z :: L)) : Has ks (i + 1) L' := by
  have e : ks.take (i + 1) = ks.take i ++ [z] := by rw [List.take_succ, h]; rfl
  rw [show Has ks (i + 1) L' ↔ ((∀ y ∈ L', y ∈ ks.take (i + 1)) ∧ (∀ y ∈ ks.take (i + 1), y.2 ∈ L'.map Prod.snd) ∧ L'.length ≤ i + 1) from ⟨fun x => ⟨x.of, x.all, x.len⟩, fun x => ⟨x.1, x.2.1, x.2.2⟩⟩, e]
  by_cases hz : z.2 ∈ L.map Prod.snd
  · rw [h1 hz]
    refine ⟨fun y hy => List.mem_append_left _ (g.of y hy), fun y hy => ?_, Nat.le_succ_of_le g.len⟩
    rcases List.mem_append.mp hy with m | m
    · exact g.all y m
    · rw [List.mem_singleton.mp m]; exact hz
  · have pm := h2 hz
    refine ⟨fun y hy => ?_, fun y hy => (pm.map Prod.snd).mem_iff.mpr ?_, by rw [pm.length_eq]; exact Nat.succ_le_succ g.len⟩
    · rcases List.mem_cons.mp (pm.mem_iff.mp hy) with m | m
      · rw [m]; exact List.mem_append_right _ List.mem_cons_self
      · exact List.mem_append_left _ (g.of y m)
    · rcases List.mem_append.mp hy with m | m
      · exact List.mem_cons_of_mem _ (g.all y m)
      · rw [List.mem_singleton.mp m]; exact List.mem_cons_self
theorem SetH.keep {h h' : Heap} (R : SetH kd h a L vs n t) (e : ∀ o, h.get? a = some o → h'.get? a = some o) (k : ∀ z ∈ L, kd.is h' z.2 z.1) : SetH kd h' a L vs n t := by
  obtain ⟨o, g1, g⟩ := R.at_
  exact ⟨⟨o, e o g1, g⟩, R.ents, R.lay, R.once, k, R.told, R.loose, R.small⟩
theorem setH_new {h : Heap} (g : h.get? a = some { cls := .type "set", dict := none, data := .set #[] 0 (.fresh 0 0 (!w.params.followText "set-order")) }) : SetH kd h a [] #[] 0 (.fresh 0 0 (!w.params.followText "set-order")) := by
  refine ⟨⟨_, g, ⟨rfl, rfl, rfl⟩, rfl⟩, rfl, ⟨List.Pairwise.nil, rfl, rfl, .inl (.inl rfl), fun y hy => ?_, fun i y j hi => ?_⟩, List.nodup_nil, fun z hz => ?_, ?_, ?_, ?_⟩
  · cases hy
  · simp at hi
  · cases hz
  · show _ ∨ (!w.params.followText "set-order") = true
    cases w.params.followText "set-order" <;> simp
  · show 0 * 5 < 7 * 3; decide
  · show 0 < 301; decide
end
end Ag

set_option Elab.async false
set_option linter.all false
set_option maxRecDepth 100000
set_option maxHeartbeats 4000000
namespace Ag
open PySem PySem.Spec PyProof.Rows L2
section
variable {P : Program} {w : World} {A : Around} {E : Value → Shared → Prop} {s : Shared}
/-- tuples of numbers and texts -/
abbrev TKind (P : Program) (w : World) : HeapKind P w (List Key) := tupleKind (mixKind P w)
theorem flat_items {k : List Key} {us : List Value} (h : ItemsAre (mixKind P w) k us) : ∀ u ∈ us, (∃ i t, u = Value.int i t) ∨ ∃ x t, u = Value.str x t := by
  induction h with
  | nil => exact fun u hu => absurd hu List.not_mem_nil
  | cons a _ ih =>
    refine fun u hu => (List.mem_cons.mp hu).elim (fun e => ?_) (ih u)
    subst e
    rcases keyIs_shape a with ⟨i, t, _, e⟩ | ⟨x, t, _, e⟩
    · exact .inl ⟨i, t, e⟩
    · exact .inr ⟨x, t, e⟩
theorem cls_flat {n : Nat} {u : Value} (h : (∃ i t, u = Value.int i t) ∨ ∃ x t, u = Value.str x t) : ofAClassStatement n u = pure false := by
  rcases h with ⟨i, t, rfl⟩ | ⟨x, t, rfl⟩ <;> cases n <;> rfl
theorem byv_flat {n : Nat} {u : Value} (h : (∃ i t, u = Value.int i t) ∨ ∃ x t, u = Value.str x t) : ∃ r, hashByValue n u = pure r := by
  rcases h with ⟨i, t, rfl⟩ | ⟨x, t, rfl⟩
  · exact ⟨true, by cases n <;> rfl⟩
  · exact ⟨false, by cases n <;> rfl⟩
theorem tkind_ok : KeyOk (TKind P w) where
  old := fun e k => let ⟨o, its, m, e1, e2⟩ := k; ⟨o, its, m, e _ _ e1, e2⟩
  but := fun {h h' k b d o vs n t} hk g1 g3 sb => by
    obtain ⟨o', its, m, e1, e2, e3, e4⟩ := hk
    refine ⟨o', its, m, (sb.2 b fun z => ?_).trans e1, e2, e3, e4⟩
    subst z
    rw [e1] at g1
    cases Option.some.inj g1
    rw [e3] at g3; cases g3
  cls := fun {A E s k b Q} hk q => by
    have ty := IsTupleKey.typeIs hk
    obtain ⟨o, its, m, e1, _, e3, e4⟩ := hk
    unfold ofAClassStatement
    refine wpAny_bind (wpAny_typeOf ty ?_)
    dsimp only
    simp only [show (("tuple" : String) == "tuple") = true by decide, if_true, Bool.not_true, Bool.false_eq_true, if_false]
    try refine wpAny_bind (wpAny_pure ?_)
    try simp only [Bool.not_true, Bool.false_eq_true, if_false]
    show wpAny _ _ (seqItems? (.ref b) >>= _) _ _ s
    refine wpAny_bind (wpAny_seqItems e1 e3 ?_)
    dsimp only
    refine wpAny_bind ?_
    show wpAny _ _ (forIn its _ _) _ _ s
    rw [← Array.forIn_toList]
    refine wpAny_forIn_list _ (fun left out s1 => out.1 = none ∧ s1 = s ∧ ∀ u ∈ left, (∃ i t, u = Value.int i t) ∨ ∃ x t, u = Value.str x t) _ (fun u left out s1 z => ?_) (fun out s1 z => ?_) _ _ ⟨rfl, rfl, flat_items e4⟩
    · obtain ⟨_, rfl, z⟩ := z
      rw [cls_flat (z u List.mem_cons_self)]
      refine wpAny_bind (wpAny_pure ?_)
      simp only [Bool.false_eq_true, if_false]
      exact wpAny_pure ⟨rfl, rfl, fun y hy => z y (List.mem_cons_of_mem _ hy)⟩
    · obtain ⟨o1, o2⟩ := out
      obtain ⟨z1, rfl, _⟩ := z
      have z1 : o1 = none := z1
      subst z1
      exact wpAny_pure q
  byv := fun {A E s k b Q} hk q => by
    have ty := IsTupleKey.typeIs hk
    obtain ⟨o, its, m, e1, _, e3, e4⟩ := hk
    unfold hashByValue
    refine wpAny_bind (wpAny_specialOf ty F.slot_tuple_hash.lookup ?_)
    show wpAny _ _ (seqItems? (.ref b) >>= _) _ _ s
    refine wpAny_bind (wpAny_seqItems e1 e3 ?_)
    refine wpAny_bind ?_
    show wpAny _ _ (forIn its _ _) _ _ s
    rw [← Array.forIn_toList]
    refine wpAny_forIn_list _ (fun left out s1 => s1 = s ∧ ∀ u ∈ left, (∃ i t, u = Value.int i t) ∨ ∃ x t, u = Value.str x t) _ (fun u left out s1 z => ?_) (fun out s1 z => ?_) _ _ ⟨rfl, flat_items e4⟩
    · obtain ⟨rfl, z⟩ := z
      obtain ⟨r, er⟩ := byv_flat (n := 7) (z u List.mem_cons_self)
      rw [er]
      refine wpAny_bind (wpAny_pure ?_)
      cases r with
      | true =>
        simp only [Bool.not_true, Bool.false_eq_true, if_false]
        exact wpAny_pure ⟨rfl, fun y hy => z y (List.mem_cons_of_mem _ hy)⟩
      | false =>
        simp only [Bool.not_false, if_true]
        exact wpAny_pure (wpAny_pure (q _))
    · obtain ⟨o1, o2⟩ := out
      obtain ⟨rfl, _⟩ := z
      cases o1 with
      | none => exact wpAny_pure (q _)
      | some r => exact wpAny_pure (q _)
variable {κ : Type} [DecidableEq κ] {kd : HeapKind P w κ}
/-- set.update's loop over keys -/
theorem upd_keys (ok : KeyOk kd) {I : Addr} {fp wr : List Addr} {G : Array GenState → Array GenState → Prop} {n : Nat} {Pv : Nat → Value → Prop} {St : Nat → Shared → Prop} {R : Result → Shared → Prop}
    (W : WalksS P w A.in1 I fp wr G n Pv St) (C : Addr) (hC : C ∉ fp) (ks : List (Addr × κ)) (hn : n = ks.length) (hb : ks.length < 301) (hv : ∀ i v, Pv i v → ∃ z, ks[i]? = some z ∧ v = Value.ref z.1)
    (h0 : Heap) (hk : ∀ z ∈ ks, kd.is h0 z.2 z.1) (hC0 : h0.get? C = none) (hw0 : ∀ b ∈ wr, h0.get? b = none) (ro : kd.room A.in1) :
    ∀ (j i : Nat) (s : Shared), n - i = j → i ≤ n → St i s → (∀ b o, h0.get? b = some o → s.heap.get? b = some o) → (∃ L vs m t, SetH kd s.heap C L vs m t ∧ Has ks i L) →
      (∀ s' L vs m t, Moved (C :: wr) G s s' → SetH kd s'.heap C L vs m t → Has ks n L → (∀ b o, h0.get? b = some o → s'.heap.get? b = some o) → R (.ok (.ret .none)) s') →
      codeAny (model P w) A (.builtin "set.update.loop" ⟨[.ref C, .ref I], []⟩) R s := by
  have hCw : C ∉ wr := fun z => hC (W.sub _ z)
  have wide : ∀ b ∈ wr, b ∈ C :: wr := fun b z => List.mem_cons_of_mem _ z
  have stay : ∀ {s s' : Shared}, Moved wr G s s' → (∀ b o, h0.get? b = some o → s.heap.get? b = some o) → ∀ b o, h0.get? b = some o → s'.heap.get? b = some o := fun mv kp b o e => mv.heap b o (fun z => by rw [hw0 b z] at e; cases e) (kp b o e)
  have isIn : ∀ {L i}, Has ks i L → ∀ z ∈ L, kd.is h0 z.2 z.1 := fun g z hz => hk z (List.mem_of_mem_take (g.of z hz))
  intro j
  induction j with
  | zero =>
    intro i s hj hi st kp ⟨L, vs, m, t, hS, g⟩ hR
    obtain rfl : i = n := by omega
    refine codeAny_builtin F.entry_set_update_loop ?_
    rw [Around.under_plainId F.plain_set_update_loop _]
    show wpAny _ A.in1 (pyNext (.ref I) >>= _) _ _ s
    refine wpAny_bind (W.done s _ _ st fun s' mv => ?_)
    show wpAny _ A.in1 (ret Value.none) _ _ s'
    have kp2 := stay mv kp
    exact wpAny_pure (hR s' L vs m t (mv.mono wide) (hS.keep (fun o e => mv.heap C o hCw e) fun z hz => ok.old kp2 (isIn g z hz)) g kp2)
  | succ j ih =>
    intro i s hj hi st kp ⟨L, vs, m, t, hS, g⟩ hR
    have lt : i < n := by omega
    refine codeAny_builtin F.entry_set_update_loop ?_
    rw [Around.under_plainId F.plain_set_update_loop _]
    show wpAny _ A.in1 (pyNext (.ref I) >>= _) _ _ s
    refine wpAny_bind (W.item i s _ _ lt st fun v s' pv st' mv => ?_)
    obtain ⟨z, hz, rfl⟩ := hv i v pv
    have kp2 := stay mv kp
    have hS2 := hS.keep (h' := s'.heap) (fun o e => mv.heap C o hCw e) fun z hz => ok.old kp2 (isIn g z hz)
    have hz2 : kd.is s'.heap z.2 z.1 := ok.old kp2 (hk z (List.mem_of_getElem? hz))
    show wpAny _ A.in1 (holding [Value.ref z.1] (setAdd C (.ref z.1)) >>= _) _ _ s'
    refine wpAny_bind (wpAny_holding ?_)
    unfold setAdd
    refine wpAny_holding (wpAny_bind (kd.pyHash ro hz2 ?_))
    refine add_h (s := { s' with toks := s'.toks + kd.draws z.2 }) ok hS2 hz2 ro (by have := g.len; omega) fun r h' L' vs' m' t' sb hS3 c1 c2 => ?_
    have kp3 : ∀ b o, h0.get? b = some o → h'.get? b = some o := fun b o e => (sb.2 b (fun q => by rw [q, hC0] at e; cases e)).trans (kp2 b o e)
    refine wpAny_pure ⟨plainId_quiet F.plain_set_update_loop _, ih (i + 1) _ (by omega) lt (W.frame _ s' _ _ st' (Nat.le_add_right _ _) fun b q o e => ?_) kp3 ⟨L', vs', m', t', hS3, g.step hz c1 c2⟩ fun s2 L2 vs2 m2 t2 mv2 hS4 g2 kp4 => hR s2 L2 vs2 m2 t2 ?_ hS4 g2 kp4⟩
    · rw [sb.2 b (fun y => hC (y ▸ q))]; exact e
    · refine Moved.trans W.gtrans ((mv.mono wide).then_heap (Nat.le_add_right _ _) fun b o q e => ?_) mv2
      rw [sb.2 b (fun y => q (y ▸ List.mem_cons_self))]; exact e
set_option maxHeartbeats 4000000 in
theorem set_of_keys (ok : KeyOk kd) {s : Shared} {l : Addr} {items : Array Value} {ks : List (Addr × κ)} {Q : Value → Shared → Prop} (hh : A.handled = none) (hl : s.heap.IsList l items) (hi : items.toList = ks.map fun z => Value.ref z.1) (hk : ∀ z ∈ ks, kd.is s.heap z.2 z.1) (hb : ks.length < 301)
    (ro : kd.room A.in1.in1.in1)
    (hQ : ∀ (h' : Heap) (tk : Nat) L vs m t, SetH kd h' s.heap.objs.size L vs m t → Has ks ks.length L → (∀ b o, s.heap.get? b = some o → h'.get? b = some o) → Q (.ref s.heap.objs.size) { s with heap := h', toks := tk }) :
    wpAny (model P w) A (call (.type "set") [.ref l]) Q E s := by
  have isz : items.size = ks.length := by
    have := congrArg List.length hi
    rwa [Array.length_toList, List.length_map] at this
  obtain ⟨c, tl, hmro⟩ := F.called_set.mro
  have hmade := F.called_set.made
  have hsub := F.called_set.sub
  refine wpAny_call (codeAny_of_tree ?_)
  show wpAny _ _ (callAny (.type "set") _) _ _ _
  refine wpAny_pure ⟨Code.quiet_builtin _ (by decide +kernel), codeAny_builtin F.entry_type_call ?_⟩
  rw [Around.under_plain (weight_type_call_type "set" [.ref l] []) rfl]
  have h1 := F.called_set.notType
  have h2 := F.called_set.canCreate
  have hct := F.typeCall_set_1 (.ref l)
  repeat (any_goals (first | assumption | wp_step))
  refine codeAny_mono (code_set_led1 (.ref l) (E := E) (Q₁ := fun obj s₁ => obj = .ref s.heap.objs.size ∧ s₁ = { s with heap := s.heap.push ({ cls := .type "set", dict := none, data := .set #[] 0 (.fresh 0 0 (!w.params.followText "set-order")) } : Obj) }) ⟨rfl, rfl⟩) fun r s₁ hr => ?_
  cases r with
  | error e => exact hr
  | ok fl =>
    cases fl with
    | ret obj =>
      obtain ⟨rfl, rfl⟩ := hr
      have hS : (s.heap.push ({ cls := .type "set", dict := none, data := .set #[] 0 (.fresh 0 0 (!w.params.followText "set-order")) } : Obj)).get? s.heap.objs.size = some ({ cls := .type "set", dict := none, data := .set #[] 0 (.fresh 0 0 (!w.params.followText "set-order")) } : Obj) := Heap.get?_push_size _ rfl
      have hT : Shared.TypeIs { s with heap := s.heap.push ({ cls := .type "set", dict := none, data := .set #[] 0 (.fresh 0 0 (!w.params.followText "set-order")) } : Obj) } (.ref s.heap.objs.size) "set" := ⟨_, hS, rfl⟩
      have hli := F.called_set.init.lookup
      have hbi := F.called_set.init.bind (.ref s.heap.objs.size)
      repeat (any_goals (first | assumption | wp_step))
      refine codeAny_mono (codeAny_call_builtin (R := wants (fun r s₂ => r = .none ∧ ∃ h' tk L vs m t, s₂ = { s with heap := h', toks := tk } ∧ SetH kd h' s.heap.objs.size L vs m t ∧ Has ks ks.length L ∧
          (∀ b o, s.heap.get? b = some o → h'.get? b = some o)) E) F.called_set.init.plain F.entry_set_init (check_set_init_1 hT ?_)) fun r₂ s₂ hr₂ => ?_
      · obtain ⟨ol, hol, hcl, nl, hdl⟩ := hl
        obtain ⟨ocls, odict, odata, oslots⟩ := ol
        simp only at hcl hdl
        subst hcl; subst hdl
        have hol1 : (s.heap.push ({ cls := .type "set", dict := none, data := .set #[] 0 (.fresh 0 0 (!w.params.followText "set-order")) } : Obj)).get? l = some { cls := .type "list", dict := odict, data := .seq items nl, slots := oslots } := Heap.get?_push_of_some _ hol
        have hsls := F.sub_list_set
        have hslf := F.sub_list_frozenset
        have hne : (Value.type "list" == Value.type "dict") = false := by decide
        have hl1 : (s.heap.push ({ cls := .type "set", dict := none, data := .set #[] 0 (.fresh 0 0 (!w.params.followText "set-order")) } : Obj)).IsList l items := ⟨_, hol1, rfl, nl, rfl⟩
        unfold Builtin.«set.__init__» noKeywords Builtin.Frozenset.updateFrom
        generalize hPI : pyIter = PI
        wp_walk
        subst hPI
        refine wpAny_pyIter_list hl1 ?_
        refine wpAny_bind (wpAny_runValue ?_)
        have llt : l < s.heap.objs.size := Heap.lt_size hol
        have hh3 : A.in1.in1.in1.handled = none := by simp [hh]
        have z1 : (s.heap.push ({ cls := .type "set", dict := none, data := .set #[] 0 (.fresh 0 0 (!w.params.followText "set-order")) } : Obj)).objs.size = s.heap.objs.size + 1 := Heap.size_push ..
        have ne1 : l ≠ (s.heap.push ({ cls := .type "set", dict := none, data := .set #[] 0 (.fresh 0 0 (!w.params.followText "set-order")) } : Obj)).objs.size := by rw [z1]; exact Nat.ne_of_lt (Nat.lt_succ_of_lt llt)
        have hnf : s.heap.objs.size ∉ [(s.heap.push ({ cls := .type "set", dict := none, data := .set #[] 0 (.fresh 0 0 (!w.params.followText "set-order")) } : Obj)).objs.size, l] := by
          rw [z1]; intro z
          rcases List.mem_cons.mp z with z | z
          · exact Nat.ne_of_lt (Nat.lt_succ_self _) z
          · exact Nat.ne_of_gt llt (List.mem_singleton.mp z)
        have hval : ∀ (i : Nat) (v : Value), items[i]? = some v → ∃ z, ks[i]? = some z ∧ v = Value.ref z.1 := fun i v q => by
          have q2 : items.toList[i]? = some v := by rw [Array.getElem?_toList]; exact q
          rw [hi, List.getElem?_map] at q2
          cases e : ks[i]? with
          | none => rw [e] at q2; cases q2
          | some z => rw [e] at q2; exact ⟨z, rfl, (Option.some.inj q2).symm⟩
        have noObj : ∀ b, s.heap.objs.size ≤ b → s.heap.get? b = none := fun b hb => by
          cases q : s.heap.get? b with
          | none => rfl
          | some o => exact absurd (Heap.lt_size q) (Nat.not_lt.mpr hb)
        refine upd_keys ok ((Walks.list hh3 _ l ne1 items).toS) s.heap.objs.size hnf ks isz hb hval s.heap hk (noObj _ (Nat.le_refl _)) (fun b hb => noObj b (by rw [List.mem_singleton.mp hb, z1]; exact Nat.le_succ _)) ro (items.size - 0) 0 _ (by omega) (Nat.zero_le _)
          ⟨⟨_, Heap.get?_push_size _ rfl, rfl, rfl⟩, (hl1.push _)⟩ (fun b o e => Heap.get?_push_of_some _ (Heap.get?_push_of_some _ e)) ⟨[], #[], 0, _, setH_new (Heap.get?_push_of_some _ hS), ⟨fun z hz => (nomatch hz), fun z hz => (nomatch hz), Nat.le_refl _⟩⟩ fun s' L vs m t mv hS' g kp => ?_
        obtain ⟨h', g2, d', tk', os'⟩ := s'
        have eg : g2 = s.gens := mv.gens
        have ed : d' = s.drawn := mv.drawn
        have eo : os' = s.os := mv.os
        subst eg; subst ed; subst eo
        show wpAny _ _ _ _ _ _
        refine wpAny_pure ?_
        show wpAny _ _ (ret Value.none) _ _ _
        rw [isz] at g
        exact wpAny_pure ⟨rfl, h', tk', L, vs, m, t, rfl, hS', g, kp⟩
      · cases r₂ with
        | error e => exact hr₂
        | ok fl₂ =>
          cases fl₂ with
          | ret r =>
            obtain ⟨rfl, h', tk, L, vs, m, t, rfl, hS', g, kp⟩ := hr₂
            repeat (any_goals (first | assumption | wp_step))
            exact hQ _ _ _ _ _ _ hS' g kp
          | _ => exact hr₂.elim
    | _ => exact hr.elim
set_option maxHeartbeats 4000000 in
theorem set_of_keysT (ok : KeyOk kd) {s : Shared} {l : Addr} {items : Array Value} {ks : List (Addr × κ)} {Q : Value → Shared → Prop} (hh : A.handled = none) (hl : s.heap.IsTuple l items) (hi : items.toList = ks.map fun z => Value.ref z.1) (hk : ∀ z ∈ ks, kd.is s.heap z.2 z.1) (hb : ks.length < 301)
    (ro : kd.room A.in1.in1.in1)
    (hQ : ∀ (h' : Heap) (tk : Nat) L vs m t, SetH kd h' s.heap.objs.size L vs m t → Has ks ks.length L → (∀ b o, s.heap.get? b = some o → h'.get? b = some o) → Q (.ref s.heap.objs.size) { s with heap := h', toks := tk }) :
    wpAny (model P w) A (call (.type "set") [.ref l]) Q E s := by
  have isz : items.size = ks.length := by
    have := congrArg List.length hi
    rwa [Array.length_toList, List.length_map] at this
  obtain ⟨c, tl, hmro⟩ := F.called_set.mro
  have hmade := F.called_set.made
  have hsub := F.called_set.sub
  refine wpAny_call (codeAny_of_tree ?_)
  show wpAny _ _ (callAny (.type "set") _) _ _ _
  refine wpAny_pure ⟨Code.quiet_builtin _ (by decide +kernel), codeAny_builtin F.entry_type_call ?_⟩
  rw [Around.under_plain (weight_type_call_type "set" [.ref l] []) rfl]
  have h1 := F.called_set.notType
  have h2 := F.called_set.canCreate
  have hct := F.typeCall_set_1 (.ref l)
  repeat (any_goals (first | assumption | wp_step))
  refine codeAny_mono (code_set_led1 (.ref l) (E := E) (Q₁ := fun obj s₁ => obj = .ref s.heap.objs.size ∧ s₁ = { s with heap := s.heap.push ({ cls := .type "set", dict := none, data := .set #[] 0 (.fresh 0 0 (!w.params.followText "set-order")) } : Obj) }) ⟨rfl, rfl⟩) fun r s₁ hr => ?_
  cases r with
  | error e => exact hr
  | ok fl =>
    cases fl with
    | ret obj =>
      obtain ⟨rfl, rfl⟩ := hr
      have hS : (s.heap.push ({ cls := .type "set", dict := none, data := .set #[] 0 (.fresh 0 0 (!w.params.followText "set-order")) } : Obj)).get? s.heap.objs.size = some ({ cls := .type "set", dict := none, data := .set #[] 0 (.fresh 0 0 (!w.params.followText "set-order")) } : Obj) := Heap.get?_push_size _ rfl
      have hT : Shared.TypeIs { s with heap := s.heap.push ({ cls := .type "set", dict := none, data := .set #[] 0 (.fresh 0 0 (!w.params.followText "set-order")) } : Obj) } (.ref s.heap.objs.size) "set" := ⟨_, hS, rfl⟩
      have hli := F.called_set.init.lookup
      have hbi := F.called_set.init.bind (.ref s.heap.objs.size)
      repeat (any_goals (first | assumption | wp_step))
      refine codeAny_mono (codeAny_call_builtin (R := wants (fun r s₂ => r = .none ∧ ∃ h' tk L vs m t, s₂ = { s with heap := h', toks := tk } ∧ SetH kd h' s.heap.objs.size L vs m t ∧ Has ks ks.length L ∧
          (∀ b o, s.heap.get? b = some o → h'.get? b = some o)) E) F.called_set.init.plain F.entry_set_init (check_set_init_1 hT ?_)) fun r₂ s₂ hr₂ => ?_
      · obtain ⟨ol, hol, hcl, nl, hdl⟩ := hl
        obtain ⟨ocls, odict, odata, oslots⟩ := ol
        simp only at hcl hdl
        subst hcl; subst hdl
        have hol1 : (s.heap.push ({ cls := .type "set", dict := none, data := .set #[] 0 (.fresh 0 0 (!w.params.followText "set-order")) } : Obj)).get? l = some { cls := .type "tuple", dict := odict, data := .seq items nl, slots := oslots } := Heap.get?_push_of_some _ hol
        have hsls := F.sub_tuple_set
        have hslf := F.sub_tuple_frozenset
        have hne : (Value.type "tuple" == Value.type "dict") = false := by decide
        have hl1 : (s.heap.push ({ cls := .type "set", dict := none, data := .set #[] 0 (.fresh 0 0 (!w.params.followText "set-order")) } : Obj)).IsTuple l items := ⟨_, hol1, rfl, nl, rfl⟩
        unfold Builtin.«set.__init__» noKeywords Builtin.Frozenset.updateFrom
        generalize hPI : pyIter = PI
        wp_walk
        subst hPI
        refine wpAny_pyIter_tuple hl1 ?_
        refine wpAny_bind (wpAny_runValue ?_)
        have llt : l < s.heap.objs.size := Heap.lt_size hol
        have hh3 : A.in1.in1.in1.handled = none := by simp [hh]
        have z1 : (s.heap.push ({ cls := .type "set", dict := none, data := .set #[] 0 (.fresh 0 0 (!w.params.followText "set-order")) } : Obj)).objs.size = s.heap.objs.size + 1 := Heap.size_push ..
        have ne1 : l ≠ (s.heap.push ({ cls := .type "set", dict := none, data := .set #[] 0 (.fresh 0 0 (!w.params.followText "set-order")) } : Obj)).objs.size := by rw [z1]; exact Nat.ne_of_lt (Nat.lt_succ_of_lt llt)
        have hnf : s.heap.objs.size ∉ [(s.heap.push ({ cls := .type "set", dict := none, data := .set #[] 0 (.fresh 0 0 (!w.params.followText "set-order")) } : Obj)).objs.size, l] := by
          rw [z1]; intro z
          rcases List.mem_cons.mp z with z | z
          · exact Nat.ne_of_lt (Nat.lt_succ_self _) z
          · exact Nat.ne_of_gt llt (List.mem_singleton.mp z)
        have hval : ∀ (i : Nat) (v : Value), items[i]? = some v → ∃ z, ks[i]? = some z ∧ v = Value.ref z.1 := fun i v q => by
          have q2 : items.toList[i]? = some v := by rw [Array.getElem?_toList]; exact q
          rw [hi, List.getElem?_map] at q2
          cases e : ks[i]? with
          | none => rw [e] at q2; cases q2
          | some z => rw [e] at q2; exact ⟨z, rfl, (Option.some.inj q2).symm⟩
        have noObj : ∀ b, s.heap.objs.size ≤ b → s.heap.get? b = none := fun b hb => by
          cases q : s.heap.get? b with
          | none => rfl
          | some o => exact absurd (Heap.lt_size q) (Nat.not_lt.mpr hb)
        refine upd_keys ok ((Walks.tuple hh3 _ l ne1 items).toS) s.heap.objs.size hnf ks isz hb hval s.heap hk (noObj _ (Nat.le_refl _)) (fun b hb => noObj b (by rw [List.mem_singleton.mp hb, z1]; exact Nat.le_succ _)) ro (items.size - 0) 0 _ (by omega) (Nat.zero_le _)
          ⟨⟨_, Heap.get?_push_size _ rfl, rfl, rfl⟩, (hl1.push _)⟩ (fun b o e => Heap.get?_push_of_some _ (Heap.get?_push_of_some _ e)) ⟨[], #[], 0, _, setH_new (Heap.get?_push_of_some _ hS), ⟨fun z hz => (nomatch hz), fun z hz => (nomatch hz), Nat.le_refl _⟩⟩ fun s' L vs m t mv hS' g kp => ?_
        obtain ⟨h', g2, d', tk', os'⟩ := s'
        have eg : g2 = s.gens := mv.gens
        have ed : d' = s.drawn := mv.drawn
        have eo : os' = s.os := mv.os
        subst eg; subst ed; subst eo
        show wpAny _ _ _ _ _ _
        refine wpAny_pure ?_
        show wpAny _ _ (ret Value.none) _ _ _
        rw [isz] at g
        exact wpAny_pure ⟨rfl, h', tk', L, vs, m, t, rfl, hS', g, kp⟩
      · cases r₂ with
        | error e => exact hr₂
        | ok fl₂ =>
          cases fl₂ with
          | ret r =>
            obtain ⟨rfl, h', tk, L, vs, m, t, rfl, hS', g, kp⟩ := hr₂
            repeat (any_goals (first | assumption | wp_step))
            exact hQ _ _ _ _ _ _ hS' g kp
          | _ => exact hr₂.elim
    | _ => exact hr.elim
end
end Ag

set_option Elab.async false
set_option linter.all false
set_option maxRecDepth 100000
set_option maxHeartbeats 2000000
/-! Sets of tuples over the layer: set(list or tuple of tuples), sorted of such a set. -/
namespace Ag
open PySem PySem.Spec PyProof.Rows L2
open PySem.W (EachIs AllAlike Sortable dataKind sortLe dataLt keyToks sortingHeap sortingHeap_old)
/-- a key as data -/
def itmD : Key → PyData | .inl i => .int i | .inr x => .str x
def keyD (k : List Key) : PyData := .tuple (k.map itmD)
theorem dps_key {K : PySem.W.Frag} {H : Hp} : ∀ k : List Key, DpAll K H (k.map kV) (k.map itmD)
  | [] => .nil
  | .inl i :: k => .cons (.int i) (dps_key k)
  | .inr x :: k => .cons (.str x) (dps_key k)
theorem depth_key : ∀ k : List Key, PyData.depthAll (k.map itmD) = 0
  | [] => by simp [PyData.depthAll]
  | .inl i :: k => by simp [PyData.depthAll, itmD, PyData.depth, depth_key k]
  | .inr x :: k => by simp [PyData.depthAll, itmD, PyData.depth, depth_key k]
theorem keyD_depth (k : List Key) : (keyD k).depth ≤ 1 := by
  have := depth_key k
  unfold keyD
  simp only [PyData.depth]
  omega
theorem map_of_perm {α β : Type} (f : α → β) {us vs : List β} (p : us.Perm vs) : ∀ L : List α, L.map f = vs → ∃ M : List α, M.Perm L ∧ us = M.map f := by
  induction p with
  | nil =>
    intro L e
    cases L with
    | nil => exact ⟨[], .nil, rfl⟩
    | cons x l => cases e
  | cons u _ ih =>
    intro L e
    cases L with
    | nil => cases e
    | cons x l =>
      rw [List.map_cons, List.cons.injEq] at e
      obtain ⟨M, a, b⟩ := ih l e.2
      exact ⟨x :: M, a.cons x, by rw [List.map_cons, e.1, b]⟩
  | swap u v l =>
    intro L e
    match L, e with
    | x :: y :: l', e =>
      rw [List.map_cons, List.map_cons, List.cons.injEq, List.cons.injEq] at e
      exact ⟨y :: x :: l', .swap x y l', by rw [List.map_cons, List.map_cons, e.1, e.2.1, e.2.2]⟩
  | trans _ _ ih1 ih2 =>
    intro L e
    obtain ⟨M, a, b⟩ := ih2 L e
    obtain ⟨N, c, d⟩ := ih1 M b.symm
    exact ⟨N, c.trans a, d⟩
theorem each_pairs : ∀ M : List (Addr × List Key), EachIs (fun (u : Value) (b : V × (Addr × List Key)) => RelV b.1 u) (M.map fun z => Value.ref z.1) (M.map fun z => (V.ref z.1, z))
  | [] => .nil
  | z :: M => .cons rfl (each_pairs M)
section
variable {P : Program} {w : World}
theorem vals_fst {β : Type} {us : List Value} {zs : List (V × β)} (h : EachIs (fun (u : Value) (b : V × β) => RelV b.1 u) us zs) : Vals (zs.map Prod.fst) us := by
  induction h with
  | nil => exact .nil
  | cons a _ ih => exact .cons a ih
/-- a set's table, without what stands at the keys' places -/
structure Set0 (P : Program) (w : World) (h : Heap) (a : Addr) (L : List (Addr × List Key)) (vs : Array (Int × Value)) (n : Nat) (t : SetTable) : Prop where
  at_ : ∃ o, h.get? a = some o ∧ o.ExactSet ∧ o.data = .set vs n t
  ents : vs.toList = entH (TKind P w) L
  lay : TabW t (L.map fun z => (TKind P w).hash z.2)
  once : (L.map Prod.snd).Nodup
  told : w.params.followText "set-order" = true ∨ t.led = true
  loose : L.length * 5 < t.mask * 3
  small : L.length < 301
variable {h : Heap} {a : Addr} {L : List (Addr × List Key)} {vs : Array (Int × Value)} {n : Nat} {t : SetTable}
theorem SetH.bare (R : SetH (TKind P w) h a L vs n t) : Set0 P w h a L vs n t := ⟨R.at_, R.ents, R.lay, R.once, R.told, R.loose, R.small⟩
theorem Set0.full (R : Set0 P w h a L vs n t) (k : ∀ z ∈ L, (TKind P w).is h z.2 z.1) : SetH (TKind P w) h a L vs n t := ⟨R.at_, R.ents, R.lay, R.once, k, R.told, R.loose, R.small⟩
/-- the set of the keys of ks, at a -/
def KeySet (P : Program) (w : World) (a : Addr) (ks : List (Addr × List Key)) : HO := .ext fun h => ∃ L vs n t, Set0 P w h a L vs n t ∧ Has ks ks.length L
theorem refs_val : ∀ {ks : List (Addr × List Key)} {us : List Value}, Vals (ks.map fun z => V.ref z.1) us → us = ks.map fun z => Value.ref z.1
  | [], _, .nil => rfl
  | z :: ks, _, .cons r t => by
    have e := refs_val t
    cases r
    rw [e]; rfl
theorem val_refs : ∀ ks : List (Addr × List Key), Vals (ks.map fun z => V.ref z.1) (ks.map fun z => Value.ref z.1)
  | [] => .nil
  | z :: ks => .cons rfl (val_refs ks)
end
section
variable {X : Cx}
theorem key_at {pins : List (Addr × Obj)} {σ : L2.St} {H : Hp} {s : Shared} (I : L2.Inv X pins σ H s) {b : Addr} {k : List Key} (h : SqT X.K H b (k.map kV)) : (TKind X.prog X.w).is s.heap k b := by
  obtain ⟨its, r, ⟨o, e1, e2, n, e3⟩, _⟩ := I.tuple h
  exact ⟨o, its.toArray, n, e1, e2, e3, by simpa using items_are r⟩
def rSetQ (K : PySem.W.Frag) (P : Program) (w : World) : List V → Hp → VK → Prop := fun xs H Q => ∃ (l : Addr) (ks : List (Addr × List Key)), xs = [V.ref l] ∧ (SqL K H l (ks.map fun z => V.ref z.1) ∨ SqT K H l (ks.map fun z => V.ref z.1)) ∧ (∀ z ∈ ks, SqT K H z.1 (z.2.map kV)) ∧ ks.length < 301 ∧
  ∀ p, H p = none → Q (.ref p) (upd H p (KeySet P w p ks))
theorem cr_setQ (hc : X.calm = true) (hu : X.A.units + 3 < cLine) : CallR X (.type "set") (rSetQ X.K X.prog X.w) := by
  intro pins s σ H vs us Q I r h
  obtain ⟨l, ks, rfl, hs, hk, hb, q⟩ := h
  rw [Vals.ref1 r]
  have hn : H s.heap.objs.size = none := I.hok.fresh (Nat.le_refl _)
  have keys : ∀ z ∈ ks, (TKind X.prog X.w).is s.heap z.2 z.1 := fun z hz => key_at I (hk z hz)
  have fin : ∀ (h' : Heap) (tk : Nat) L vs m t, SetH (TKind X.prog X.w) h' s.heap.objs.size L vs m t → Has ks ks.length L → (∀ b o, s.heap.get? b = some o → h'.get? b = some o) →
      ∃ y H', Inv X pins σ H' { s with heap := h', toks := tk } ∧ RelV y (Value.ref s.heap.objs.size) ∧ Q y H' := fun h' tk L vs m t R g kp => by
    refine ⟨.ref s.heap.objs.size, upd H s.heap.objs.size (KeySet X.prog X.w s.heap.objs.size ks), I.laid (t' := tk) kp (Nat.le_refl _) ⟨⟨L, vs, m, t, R.bare, g⟩, ?_, ?_⟩, rfl, q _ hn⟩
    · obtain ⟨o, e, _⟩ := R.at_
      exact ⟨o, e⟩
    · rintro h1 h2 ⟨L, vs, m, t, R, g⟩ e
      obtain ⟨o, e1, e2⟩ := R.at_
      exact ⟨L, vs, m, t, ⟨⟨o, e o e1, e2⟩, R.ents, R.lay, R.once, R.told, R.loose, R.small⟩, g⟩
  rcases hs with hs | hs
  · obtain ⟨its, rv, hl, _⟩ := I.list hs
    exact set_of_keys (P := X.prog) (w := X.w) tkind_ok (I.ok.hd hc) hl.isList (refs_val rv) keys hb hu fin
  · obtain ⟨its, rv, hl, _⟩ := I.tuple hs
    exact set_of_keysT (P := X.prog) (w := X.w) tkind_ok (I.ok.hd hc) hl (refs_val rv) keys hb hu fin
def rSortQ (K : PySem.W.Frag) (P : Program) (w : World) : List V → Hp → VK → Prop := fun xs H Q => ∃ (a : Addr) (ks : List (Addr × List Key)), xs = [V.ref a] ∧ H a = some (KeySet P w a ks) ∧ (∀ z ∈ ks, SqT K H z.1 (z.2.map kV)) ∧ AllAlike (ks.map fun z => keyD z.2) ∧ Sortable (ks.map fun z => keyD z.2) ∧
  ∀ (L zs : List (Addr × List Key)) p, Has ks ks.length L → (L.map Prod.snd).Nodup → zs.Perm L → (zs.map fun z => keyD z.2) = (L.map fun z => keyD z.2).mergeSort leD → H p = none → Q (.ref p) (upd H p (.lst (zs.map fun z => V.ref z.1)))
theorem cr_sortQ (hc : X.calm = true) (hu : X.A.units + 64 < cLine) : CallR X (.builtin "sorted") (rSortQ X.K X.prog X.w) := by
  intro pins s σ H vs us Q I r h
  obtain ⟨a, ks, rfl, ha, hk, al, so, q⟩ := h
  obtain ⟨⟨L, tv, m, t, R0, g⟩, _⟩ := I.hok a _ ha
  rw [Vals.ref1 r]
  have sub : ∀ z ∈ L, z ∈ ks := fun z hz => List.mem_of_mem_take (g.of z hz)
  have R := R0.full fun z hz => key_at I (hk z (sub z hz))
  obtain ⟨o, g1, g2, g3⟩ := R.at_
  have len := ent_len R.ents
  have sm := R.small
  refine Calls.call_function_entry kind_sorted plain_sorted entry_sorted (args_sorted1 _) ?_
  unfold Builtin.«sorted»
  refine wpAny_bind (m := checkCount "sorted" 1 1 _) (wpAny_pure ?_)
  refine wpAny_bind (collect_set (A := X.A.in1) (I.ok.hd hc) ⟨o, g1, g2.1, g3⟩ R.fits (by unfold scanBound; omega) R.lay.ris R.told fun s1 us k1 hz gs o1 pm => ?_)
  have e1 : tv.toList.map (·.2) = L.map fun z => Value.ref z.1 := by
    rw [R.ents]; unfold entH; rw [List.map_map]; rfl
  rw [e1] at pm
  obtain ⟨M, pM, rfl⟩ := map_of_perm _ pm L rfl
  have subM : ∀ z ∈ M, z ∈ ks := fun z hz => sub z (pM.mem_iff.mp hz)
  have hlen : (M.map fun z => Value.ref z.1).length ≤ sizeLine := by rw [List.length_map, pM.length_eq, sizeLine_eq]; omega
  have dps : ∀ N : List (Addr × List Key), (∀ z ∈ N, z ∈ ks) → DpAll X.K H (N.map fun z => V.ref z.1) (N.map fun z => keyD z.2) := by
    intro N
    induction N with
    | nil => exact fun _ => .nil
    | cons z N ih => exact fun hN => .cons (.tup (hk z (hN z List.mem_cons_self)) (dps_key z.2)) (ih fun y hy => hN y (List.mem_cons_of_mem _ hy))
  have alM : AllAlike (M.map fun z => keyD z.2) := fun d hd e he => by
    obtain ⟨z, hz, rfl⟩ := List.mem_map.mp hd
    obtain ⟨y, hy, rfl⟩ := List.mem_map.mp he
    exact al _ (List.mem_map.mpr ⟨z, subM z hz, rfl⟩) _ (List.mem_map.mpr ⟨y, subM y hy, rfl⟩)
  have soM : Sortable (M.map fun z => keyD z.2) := by
    have up : ∀ d ∈ M.map (fun z => keyD z.2), d ∈ ks.map fun z => keyD z.2 := fun d hd => by
      obtain ⟨z, hz, rfl⟩ := List.mem_map.mp hd
      exact List.mem_map.mpr ⟨z, subM z hz, rfl⟩
    exact so.imp (fun h d hd => h d (up d hd)) fun h d hd => h d (up d hd)
  obtain ⟨as, hr⟩ := Dp.readsAll I _ _ _ (dps M subM) (val_refs M)
  refine wpAny_bind (wpAny_newList ?_ hlen)
  have hoL : (s1.heap.push (seqObj "list" (M.map fun z => Value.ref z.1).toArray 0)).get? s1.heap.objs.size = some (seqObj "list" (M.map fun z => Value.ref z.1).toArray 0) := Heap.get?_push_size _ rfl
  have old : ∀ b u, s.heap.get? b = some u → (sortingHeap (s1.heap.push (seqObj "list" (M.map fun z => Value.ref z.1).toArray 0)) s1.heap.objs.size (M.map fun z => Value.ref z.1)).get? b = some u := fun b u e => by
    have e2 := k1 b u e
    exact sortingHeap_old (Nat.ne_of_lt (Heap.lt_size e2)) (Heap.get?_push_of_some _ e2)
  have hr2 := PyProof.Rows.ReadsAll.keeps old hr
  generalize hh : sortingHeap (s1.heap.push (seqObj "list" (M.map fun z => Value.ref z.1).toArray 0)) s1.heap.objs.size (M.map fun z => Value.ref z.1) = h2 at hr2
  have hS : ∀ d ∈ M.map (fun z => keyD z.2), X.A.in1.in1.units + d.depth < cLine := fun d hd => by
    obtain ⟨z, hz, rfl⟩ := List.mem_map.mp hd
    have := keyD_depth z.2
    show X.A.units + 1 + 1 + _ < cLine
    omega
  refine wpAny_bind (wpAny_holding (wpAny_call_entry slot_list_sort ⟨_, hoL, rfl⟩ entry_list_sort (PySem.W.list_sort_vals (κ := dataKind h2 (M.map fun z => keyD z.2)) (s := { s1 with heap := s1.heap.push (seqObj "list" (M.map fun z => Value.ref z.1).toArray 0) }) hoL (by rw [hh]; exact PySem.W.SortsAt.data (s := { s1 with heap := h2 }) (each_reads hr2) alM soM hS) hlen ⟨_, rfl, ?_⟩) (args_list_sort _)))
  · have e2 := each_pairs M
    have hk2 : EachIs (fun (v : Value) (b : V × (Addr × List Key)) => (dataKind h2 (M.map fun z => keyD z.2)).keyOf v = some (keyToks (keyD b.2.2))) (M.map fun z => Value.ref z.1) (M.map fun z => (V.ref z.1, z)) := by
      have all : ∀ (N : List (Addr × List Key)) {as : List Addr}, (∀ z ∈ N, z ∈ M) → ReadsAll h2 (N.map fun z => Value.ref z.1) (N.map fun z => keyD z.2) as → EachIs (fun (v : Value) (b : V × (Addr × List Key)) => (dataKind h2 (M.map fun z => keyD z.2)).keyOf v = some (keyToks (keyD b.2.2))) (N.map fun z => Value.ref z.1) (N.map fun z => (V.ref z.1, z)) := by
        intro N
        induction N with
        | nil => exact fun _ _ => .nil
        | cons z N ih =>
          intro as hN hrN
          cases hrN with
          | cons a b => exact .cons (PySem.W.dataKind_some alM (List.mem_map.mpr ⟨z, hN z List.mem_cons_self, rfl⟩) a) (ih (fun y hy => hN y (List.mem_cons_of_mem _ hy)) b)
      exact all M (fun _ h => h) hr2
    have e3 := PySem.W.sortVals_each (κ := dataKind h2 (M.map fun z => keyD z.2)) (rev := false) (ks := M.map fun z => Value.ref z.1) (fun b : V × (Addr × List Key) => keyToks (keyD b.2.2)) e2 hk2
    obtain ⟨c, hc2⟩ := sortedHeap_at (vs := M.map fun z => Value.ref z.1) (out := (PySem.W.sortVals (dataKind h2 (M.map fun z => keyD z.2)) false (M.map fun z => Value.ref z.1) (M.map fun z => Value.ref z.1)).toArray) hoL
    generalize PySem.W.sortVals (dataKind h2 (M.map fun z => keyD z.2)) false (M.map fun z => Value.ref z.1) (M.map fun z => Value.ref z.1) = out at e3 hc2 ⊢
    have ps : ((M.map fun z => (V.ref z.1, z)).mergeSort (sortLe (dataKind h2 (M.map fun z => keyD z.2)).toKeyOrd false fun b : V × (Addr × List Key) => keyToks (keyD b.2.2))).Perm (M.map fun z => (V.ref z.1, z)) := List.mergeSort_perm _ _
    have ms : ((M.map fun z => (V.ref z.1, z)).mergeSort (sortLe (dataKind h2 (M.map fun z => keyD z.2)).toKeyOrd false fun b : V × (Addr × List Key) => keyToks (keyD b.2.2))).map (fun b => keyD b.2.2) = ((M.map fun z => (V.ref z.1, z)).map fun b => keyD b.2.2).mergeSort leD :=
      PySem.W.sort_maps (s := leD) (fun b : V × (Addr × List Key) => keyD b.2.2) fun p _ q _ => rfl
    generalize (M.map fun z => (V.ref z.1, z)).mergeSort (sortLe (dataKind h2 (M.map fun z => keyD z.2)).toKeyOrd false fun b : V × (Addr × List Key) => keyToks (keyD b.2.2)) = W at e3 ps ms
    have kp : ∀ b u, s.heap.get? b = some u → (sortedHeap (s1.heap.push (seqObj "list" (M.map fun z => Value.ref z.1).toArray 0)) s1.heap.objs.size (M.map fun z => Value.ref z.1) out.toArray).get? b = some u := fun b u e => by
      have e2 := k1 b u e
      have lt := Heap.lt_size e2
      rw [sortedHeap_old (Nat.ne_of_lt lt) (by rw [size_push']; exact Nat.lt_succ_of_lt lt)]
      exact Heap.get?_push_of_some _ e2
    generalize sortedHeap (s1.heap.push (seqObj "list" (M.map fun z => Value.ref z.1).toArray 0)) s1.heap.objs.size (M.map fun z => Value.ref z.1) out.toArray = h3 at kp hc2 ⊢
    have hn : H s1.heap.objs.size = none := I.hok.fresh hz
    have hv := vals_fst e3
    have e4 : W.map Prod.fst = (W.map Prod.snd).map fun z => V.ref z.1 := by
      rw [List.map_map]
      refine List.map_congr_left fun b hb => ?_
      obtain ⟨z, _, rfl⟩ := List.mem_map.mp (ps.mem_iff.mp hb)
      rfl
    have e5 : (W.map Prod.snd).Perm M := by
      have := ps.map Prod.snd
      rw [List.map_map] at this
      exact this.trans (by rw [show (Prod.snd ∘ fun z : Addr × List Key => (V.ref z.1, z)) = id from rfl, List.map_id])
    have e6 : ((W.map Prod.snd).map fun z => keyD z.2) = (M.map fun z => keyD z.2).mergeSort leD := by
      rw [List.map_map]
      refine ms.trans ?_
      rw [List.map_map]; rfl
    have small : (W.map Prod.fst).length ≤ sizeLine := by
      rw [List.length_map, ps.length_eq, List.length_map, pM.length_eq, sizeLine_eq]; omega
    have J : Inv X pins σ (upd H s1.heap.objs.size (.lst (W.map Prod.fst))) { s with heap := h3, gens := s1.gens, drawn := s1.drawn, toks := s1.toks } :=
      I.call (ch := []) (Un.laid kp hz hn) (I.hok.laid kp hz ⟨small, _, c, hv, hc2⟩) (by rw [gs]; exact I.bare) (fun _ z => nomatch z)
    have es : ({ s1 with heap := h3 } : Shared) = { s with heap := h3, gens := s1.gens, drawn := s1.drawn, toks := s1.toks } := by
      cases s1; cases s; cases o1; rfl
    refine wpAny_pure ⟨_, rfl, .ref s1.heap.objs.size, _, ?_, rfl, q M (W.map Prod.snd) s1.heap.objs.size ⟨fun z hz => g.of z (pM.mem_iff.mp hz), fun z hz => (pM.map Prod.snd).mem_iff.mpr (g.all z hz), by rw [pM.length_eq]; exact g.len⟩ ((pM.map Prod.snd).nodup_iff.mpr R.once) e5 e6 hn⟩
    rw [← e4]
    exact es ▸ J
end
end Ag

set_option Elab.async false
set_option linter.all false
set_option maxRecDepth 100000
set_option maxHeartbeats 1000000
set_option pp.maxSteps 300
/-! Ascending lists of texts, pairs, rows; sorted lists of them. -/
namespace Ag
open PySem PySem.Spec PyProof.Rows L2
open PySem.W (alike alikeAll dataLt dataLt_tuple dataLt_all_yes dataLt_all_no dataLt_int dataLt_str AllAlike Sortable)
abbrev Rk := List (List Nat)
theorem rk_trans {a b c : Rk} (h : a < b) (k : b < c) : a < c := List.lt_trans h k
theorem rk_irr (a : Rk) : ¬ a < a := List.lt_irrefl a
theorem rk_total (a b : Rk) : a ≤ b ∨ b ≤ a := List.le_total a b
theorem rk_anti {a b : Rk} (h : a ≤ b) (k : b ≤ a) : a = b := List.le_antisymm h k
theorem rk_letrans {a b c : Rk} (h : a ≤ b) (k : b ≤ c) : a ≤ c := List.le_trans h k
section
variable {α : Type} {f : α → Rk}
/-- each is under those behind it -/
def Up (f : α → Rk) (S : List α) : Prop := S.Pairwise fun a b => f a < f b
theorem Up.nodup {S : List α} (u : Up f S) : S.Nodup := List.nodup_iff_pairwise_ne.mpr (List.Pairwise.imp (fun {a b} h e => by rw [e] at h; exact rk_irr _ h) u)
def leF (f : α → Rk) (a b : α) : Bool := decide (f a ≤ f b)
theorem leF_trans (f : α → Rk) (a b c : α) (h : leF f a b = true) (k : leF f b c = true) : leF f a c = true := decide_eq_true (rk_letrans (of_decide_eq_true h) (of_decide_eq_true k))
theorem leF_total (f : α → Rk) (a b : α) : (leF f a b || leF f b a) = true := by
  rw [Bool.or_eq_true]
  exact (rk_total (f a) (f b)).imp decide_eq_true decide_eq_true
theorem up_sort (inj : ∀ a b, f a = f b → a = b) {L : List α} (nd : L.Nodup) : Up f (L.mergeSort (leF f)) := by
  have pm : (L.mergeSort (leF f)).Perm L := List.mergeSort_perm _ _
  have sr : (L.mergeSort (leF f)).Pairwise fun a b => leF f a b = true := List.pairwise_mergeSort (leF_trans f) (leF_total f) L
  refine List.Pairwise.imp (fun {a b} h => ?_) (sr.and (List.nodup_iff_pairwise_ne.mp (pm.nodup_iff.mpr nd)))
  obtain ⟨h1, h2⟩ := h
  have h1 : f a ≤ f b := of_decide_eq_true h1
  exact List.not_le.mp fun c => h2 (inj _ _ (rk_anti h1 c))
/-- there is one ascending list of the same items -/
theorem up_ext (inj : ∀ a b, f a = f b → a = b) {S T : List α} (u : Up f S) (v : Up f T) (m : ∀ z, z ∈ S ↔ z ∈ T) : S = T :=
  List.Perm.eq_of_pairwise (le := fun a b => f a < f b) (fun a b _ _ h k => absurd (rk_trans h k) (rk_irr _)) u v ((List.perm_ext_iff_of_nodup u.nodup v.nodup).mpr m)
theorem up_sorted' {S : List α} (u : Up f S) : S.mergeSort (leF f) = S := List.mergeSort_of_pairwise (List.Pairwise.imp (fun {a b} h => decide_eq_true (List.le_of_lt h)) u)
theorem Up.filter {S : List α} (u : Up f S) (p : α → Bool) : Up f (S.filter p) := List.Pairwise.filter p u
theorem Up.take {S : List α} (u : Up f S) (n : Nat) : Up f (S.take n) := List.Pairwise.take u
end
/-! ### ranks -/
def rkS (x : Str) : Rk := [x.cps.toList]
def rkP (p : Str × Str) : Rk := [p.1.cps.toList, p.2.cps.toList]
abbrev Rw := Str × Str × Str
def rkR (r : Rw) : Rk := [r.1.cps.toList, r.2.1.cps.toList, r.2.2.cps.toList]
theorem cps_inj {x y : Str} (h : x.cps.toList = y.cps.toList) : x = y := Str.ext' (Array.toList_inj.mp h)
theorem rkS_inj (x y : Str) (h : rkS x = rkS y) : x = y := by
  unfold rkS at h
  injection h with h1 _
  exact cps_inj h1
theorem rkP_inj (x y : Str × Str) (h : rkP x = rkP y) : x = y := by
  obtain ⟨a, b⟩ := x
  obtain ⟨c, d⟩ := y
  unfold rkP at h
  injection h with h1 h
  injection h with h2 _
  exact Prod.ext (cps_inj h1) (cps_inj h2)
theorem rkR_inj (x y : Rw) (h : rkR x = rkR y) : x = y := by
  obtain ⟨a, b, c⟩ := x
  obtain ⟨d, e, g⟩ := y
  unfold rkR at h
  injection h with h1 h
  injection h with h2 h
  injection h with h3 _
  exact Prod.ext (cps_inj h1) (Prod.ext (cps_inj h2) (cps_inj h3))
/-! ### as data -/
def txD (xs : List Str) : PyData := .tuple (xs.map .str)
theorem alike_tx : ∀ xs ys : List Str, alikeAll (xs.map .str) (ys.map .str) = true
  | [], _ => by simp [alikeAll]
  | _ :: _, [] => by simp [alikeAll]
  | x :: xs, y :: ys => by simp [alikeAll, alike, alike_tx xs ys]
theorem dataLt_tx : ∀ xs ys : List Str, PySem.W.dataLt (txD xs) (txD ys) = decide (xs.map (fun x => x.cps.toList) < ys.map fun x => x.cps.toList)
  | [], [] => by rw [decide_eq_false (List.lt_irrefl _)]; rfl
  | [], y :: ys => by rw [decide_eq_true (by simp)]; rfl
  | x :: xs, [] => by rw [decide_eq_false (by simp)]; rfl
  | x :: xs, y :: ys => by
    have ih := dataLt_tx xs ys
    unfold txD at ih ⊢
    rw [dataLt_tuple] at ih ⊢
    rw [List.map_cons, List.map_cons, List.map_cons, List.map_cons]
    by_cases h : x = y
    · subst h
      rw [dataLt_all_yes (by simp [alike]) (by simp [PyData.eqv]), ih]
      refine decide_eq_decide.mpr ⟨fun k => List.cons_lt_cons_iff.mpr (.inr ⟨rfl, k⟩), fun k => ?_⟩
      exact (List.cons_lt_cons_iff.mp k).elim (fun z => absurd z (List.lt_irrefl _)) fun z => z.2
    · rw [dataLt_all_no (by simp [alike]) (by simp only [PyData.eqv]; exact beq_eq_false_iff_ne.mpr h), dataLt_str]
      refine decide_eq_decide.mpr ⟨fun k => List.cons_lt_cons_iff.mpr (.inl k), fun k => ?_⟩
      exact (List.cons_lt_cons_iff.mp k).elim id fun z => absurd (cps_inj z.1) h
theorem le_tx (xs ys : List Str) : leD (txD xs) (txD ys) = decide (xs.map (fun x => x.cps.toList) ≤ ys.map fun x => x.cps.toList) := by
  show (!PySem.W.dataLt (txD ys) (txD xs)) = _
  rw [dataLt_tx, ← decide_not]
  exact decide_eq_decide.mpr List.not_lt
theorem sort_tx {α : Type} (g : α → List Str) (S : List α) : (S.map fun a => txD (g a)).mergeSort leD = (S.mergeSort (leF fun a => (g a).map fun x => x.cps.toList)).map fun a => txD (g a) :=
  (PySem.W.sort_maps (s := leD) (fun a => txD (g a)) fun p _ q _ => by rw [le_tx]; rfl).symm
theorem eqv_tx : ∀ xs ys : List Str, PyData.eqv (txD xs) (txD ys) = decide (xs = ys)
  | [], [] => by simp [txD, PyData.eqv, PyData.eqvAll]
  | [], y :: ys => by simp [txD, PyData.eqv, PyData.eqvAll]
  | x :: xs, [] => by simp [txD, PyData.eqv, PyData.eqvAll]
  | x :: xs, y :: ys => by
    have ih := eqv_tx xs ys
    simp only [txD, PyData.eqv, List.map_cons, PyData.eqvAll] at ih ⊢
    rw [ih]
    by_cases h : x = y
    · subst h; simp
    · have : (x == y) = false := beq_eq_false_iff_ne.mpr h
      rw [this, Bool.false_and, decide_eq_false (fun e => h (List.cons.inj e).1)]
end Ag

set_option Elab.async false
set_option linter.all false
set_option maxRecDepth 100000
set_option maxHeartbeats 4000000
/-! sorted(tuple of texts). -/
namespace Ag
open PySem PySem.Spec PyProof.Rows L2
section
variable {P : Program} {w : World} {A : Around} {E : Value → Shared → Prop} {s : Shared}
/-- what is collected from a tuple, and where the heap ends behind it -/
theorem collect_tup {a : Addr} {o : Obj} {its : Array Value} {n : Nat} {Q : List Value → Shared → Prop} (ho : s.heap.get? a = some o) (hc : o.cls = .type "tuple") (hd : o.data = .seq its n) (hz : its.size ≤ sizeLine)
    (k : ∀ h', (∀ b u, s.heap.get? b = some u → h'.get? b = some u) → s.heap.objs.size ≤ h'.objs.size → Q its.toList { s with heap := h' }) : wpAny (model P w) A (collect (.ref a)) Q E s := by
  obtain ⟨N, hN⟩ : ∃ N : Obj, N = { cls := .type "list", data := .seq ([] : List Value).toArray } := ⟨_, rfl⟩
  have new : (s.heap.push N).get? s.heap.objs.size = some N := by subst hN; exact Heap.get?_push_size _ rfl
  have kept : ∀ b u, s.heap.get? b = some u → ((s.heap.push N).update s.heap.objs.size (Obj.mapSeq (· ++ its))).get? b = some u := fun b u e =>
    (Heap.get?_update_other _ _ (Nat.ne_of_gt (Heap.lt_size e))).trans (Heap.get?_push_of_some _ e)
  have big : s.heap.objs.size ≤ ((s.heap.push N).update s.heap.objs.size (Obj.mapSeq (· ++ its))).objs.size := by
    have e1 : ((s.heap.push N).update s.heap.objs.size (Obj.mapSeq (· ++ its))).get? s.heap.objs.size ≠ none := by
      rw [Heap.get?_update_self _ new (by subst hN; rfl)]; exact fun z => nomatch z
    cases q : ((s.heap.push N).update s.heap.objs.size (Obj.mapSeq (· ++ its))).get? s.heap.objs.size with
    | none => exact absurd q e1
    | some u => exact Nat.le_of_lt (Heap.lt_size q)
  have got : ((s.heap.push N).update s.heap.objs.size (Obj.mapSeq (· ++ its))).get? s.heap.objs.size = some (Obj.mapSeq (· ++ its) N) := Heap.get?_update_self _ new (by subst hN; rfl)
  have last : wpAny (model P w) A (match Value.ref s.heap.objs.size with | Value.ref b => (do match (← load b).data with | Data.seq xs _ => pure xs.toList | _ => unsupported "internal:collect") | _ => unsupported "internal:collect") Q E { s with heap := (s.heap.push N).update s.heap.objs.size (Obj.mapSeq (· ++ its)) } := by
    show wpAny _ A (load s.heap.objs.size >>= _) _ _ _
    apply wpAny_bind
    apply wpAny_load got
    subst hN
    apply wpAny_pure
    have e : ((#[] : Array Value) ++ its).toList = its.toList := by simp
    show Q ((#[] : Array Value) ++ its).toList _
    rw [e]
    exact k _ kept big
  unfold collect
  apply wpAny_bind
  apply wpAny_runValue
  apply codeAny_builtin F.entry_proto_collect
  rw [show Around.under A (.builtin "proto.collect" ⟨[.ref a], []⟩) = A.in1 from Around.under_plainId F.plain_proto_collect _]
  show wpAny _ A.in1 (newList [] >>= fun l => again (.builtin "list.__iadd__" ⟨[l, .ref a], []⟩)) _ _ s
  apply wpAny_bind
  refine wpAny_newObj_type ?_
  refine wpAny_pure ?_
  refine ⟨plainId_quiet F.plain_list_iadd _, codeAny_builtin F.entry_list_iadd ?_⟩
  rw [show ∀ B, Around.under B (.builtin "list.__iadd__" ⟨[.ref s.heap.objs.size, .ref a], []⟩) = B.in1 from fun B => Around.under_plainId F.plain_list_iadd _]
  show wpAny _ A.in1 (Builtin.List.listExtendWith (.ref s.heap.objs.size) (.ref a) (.ref s.heap.objs.size)) _ _ _
  subst hN
  have run := wpAny_extend_seq (hsz := hz) (A := A) (R := fun r t => r = .ok (.ret (.ref s.heap.objs.size)) ∧ t = { s with heap := (s.heap.push { cls := .type "list", data := .seq ([] : List Value).toArray }).update s.heap.objs.size (Obj.mapSeq (· ++ its)) })
    (prog := P) (w := w) (s := { s with heap := s.heap.push { cls := .type "list", data := .seq ([] : List Value).toArray } }) s.heap.objs.size a (.ref s.heap.objs.size) 0 (.inr rfl) new (Heap.get?_push_of_some _ ho) hc hd ⟨rfl, rfl⟩
  refine wpAny_mono run (fun f t h => ?_) (fun e t h => absurd h.1 (by simp))
  cases f with
  | done f =>
    obtain ⟨e, rfl⟩ := h
    cases e
    exact last
  | again c => exact ⟨h.1, codeAny_mono h.2 fun r t2 hr => by obtain ⟨rfl, rfl⟩ := hr; exact last⟩
theorem sorted_of_tup {a : Addr} {o : Obj} {its : Array Value} {n : Nat} {xs : List Str} {Q : Value → Shared → Prop} (ho : s.heap.get? a = some o) (hc : o.cls = .type "tuple") (hd : o.data = .seq its n) (hz : its.size ≤ sizeLine) (hx : StrsAre its.toList xs)
    (k : ∀ h' p (out : Array Value) (c : Nat) (ys : List Str), (∀ b u, s.heap.get? b = some u → h'.get? b = some u) → s.heap.objs.size ≤ p → h'.get? p = some (seqObj "list" out c) → StrsAre out.toList ys → sortedS ys = true → ys.Perm xs → Q (.ref p) { s with heap := h' }) :
    wpAny (model P w) A (call (.builtin "sorted") [.ref a]) Q E s := by
  refine Calls.call_function_entry kind_sorted plain_sorted entry_sorted (args_sorted1 _) ?_
  unfold Builtin.«sorted»
  apply wpAny_bind (m := checkCount "sorted" 1 1 _)
  apply wpAny_pure
  apply wpAny_bind
  refine collect_tup (A := A.in1) ho hc hd hz fun h1 k1 z1 => ?_
  have small : its.toList.length ≤ sizeLine := by rw [Array.length_toList]; exact hz
  refine wpAny_bind (wpAny_newList ?_ small)
  have hoL : (h1.push (seqObj "list" its.toList.toArray 0)).get? h1.objs.size = some (seqObj "list" its.toList.toArray 0) := Heap.get?_push_size _ rfl
  refine wpAny_bind (wpAny_holding (wpAny_call_entry slot_list_sort ⟨_, hoL, rfl⟩ entry_list_sort (list_sort_treeKAny (s := { s with heap := h1.push (seqObj "list" its.toList.toArray 0) }) strKind_oneLt hoL hx.keysOf (fun v₁ v₂ rest e => keyKind_strs (by rw [← e]; exact hx)) small fun st' hp hs => ⟨_, rfl, ?_⟩) (args_list_sort _)))
  obtain ⟨ys, a1, a2, a3⟩ := sorted_out_str hx hp hs
  obtain ⟨c, hc2⟩ := sortedHeap_at (vs := its.toList) (out := (arrOf st').map (·.2)) hoL
  refine wpAny_pure ⟨_, rfl, k _ h1.objs.size _ c ys (fun b u e => ?_) z1 hc2 a1 a3 a2⟩
  have q := k1 b u e
  have lt := Heap.lt_size q
  rw [sortedHeap_old (Nat.ne_of_lt lt) (by rw [size_push']; exact Nat.lt_succ_of_lt lt)]
  exact Heap.get?_push_of_some _ q
end
def rSortTS (K : PySem.W.Frag) : List V → Hp → VK → Prop := fun vs H Q => ∃ (a : Addr) (xs : List Str), vs = [V.ref a] ∧ SqT K H a (xs.map V.str) ∧ ∀ ys p, ys.Perm xs → sortedS ys = true → H p = none → Q (.ref p) (upd H p (.lst (ys.map V.str)))
theorem cr_sortTS {X : Cx} : CallR X (.builtin "sorted") (rSortTS X.K) := by
  intro pins s σ H vs us Q I r h
  obtain ⟨a, xs, rfl, ha, q⟩ := h
  obtain ⟨its, rv, ⟨o, ho, hc, n, hd⟩, hz⟩ := I.tuple ha
  rw [Vals.ref1 r]
  refine sorted_of_tup ho hc hd (by rw [List.size_toArray, ← rv.length]; exact hz) rv.strs fun h' p out c ys kp hp hg hout srt pm => ?_
  have hn : H p = none := I.hok.fresh hp
  have small : (ys.map V.str).length ≤ sizeLine := by
    rw [List.length_map] at hz ⊢
    rw [pm.length_eq]; exact hz
  exact ⟨.ref p, _, I.laid (t' := s.toks) (o := .lst (ys.map V.str)) kp hp ⟨small, out.toList, c, vals_of_strs hout, hg⟩, rfl, q ys p pm srt hn⟩
end Ag

set_option Elab.async false
set_option linter.all false
set_option maxRecDepth 100000
set_option maxHeartbeats 2000000
/-! A dict comprehension over anything that is walked. -/
namespace Ag
open PySem PySem.Spec PyProof.Rows L2
theorem dc_it {J : It} {n : Nat} {G : Hp → Prop} {Y : Nat → Hp → V → Hp → Prop} (wk : Walk J n G Y) {g : TG} {tt : TT} {tk tv : TE} {vs : List Nat} {σ : L2.St} {H0 : Hp} {D : Addr} {Qd : Hp → Prop} (Pv : Nat → Hp → Prop) (p0 : Pv 0 (upd H0 D (.dK []))) (stands : ∀ i H, i ≤ n → Pv i H → G H)
    (turn : ∀ i x H H', i < n → Pv i H → Y i H x H' → g x (wipe σ vs) H' fun σ2 H2 => wipe σ2 vs = wipe σ vs ∧ tt σ2 H2 fun b H3 =>
      if b = true then tk σ2 H3 fun y H4 => tv σ2 H4 fun z H5 => ∃ kvs k, y = kV k ∧ H5 D = some (.dK kvs) ∧ kvs.length < sizeLine ∧ Pv (i + 1) (upd H5 D (.dK (putK kvs k z))) else Pv (i + 1) H3) (last : ∀ H, Pv n H → Qd H) :
    ∃ W : Nat → Nat → Hp → Prop, (∃ m, W 0 m (upd H0 D (.dK []))) ∧ ∀ i m H, W i m H →
      (J.stop i H ∧ Qd H) ∨ (J.go i H ∧ ∃ Nx : Hp → Prop, (∀ H', Nx H' → ∃ m', m' < m ∧ W (i + 1) m' H') ∧ ∀ x H', J.yld i H x H' → g x (wipe σ vs) H' fun σ2 H2 => wipe σ2 vs = wipe σ vs ∧ tt σ2 H2 fun b H3 =>
        if b = true then tk σ2 H3 fun y H4 => tv σ2 H4 fun z H5 => ∃ kvs k, y = kV k ∧ H5 D = some (.dK kvs) ∧ kvs.length < sizeLine ∧ Nx (upd H5 D (.dK (putK kvs k z))) else Nx H3) := by
  refine ⟨fun i m H => m + i = n ∧ Pv i H, ⟨n, by simp, p0⟩, fun i m H ⟨e, p⟩ => ?_⟩
  have q := stands i H (by omega) p
  cases m with
  | zero =>
    have e : i = n := by omega
    subst e
    exact .inl ⟨wk.stops H q, last H p⟩
  | succ m => exact .inr ⟨wk.goes i H (by omega) q, Pv (i + 1), fun H' p' => ⟨m, Nat.lt_succ_self _, by omega, p'⟩, fun x H' y => turn i x H H' (by omega) p (wk.yields i H x H' (by omega) q y)⟩
/-- tuple(x) -/
abbrev tupR (K : PySem.W.Frag) : List V → Hp → VK → Prop := fun xs H Q => ∃ p ys, xs = [.ref p] ∧ ((SqL K H p ys ∧ ∀ l, H l = none → Q (.ref l) (upd H l (.tup ys))) ∨ (SqT K H p ys ∧ Q (.ref p) H))
end Ag

set_option Elab.async false
set_option linter.all false
set_option maxRecDepth 100000
set_option maxHeartbeats 1000000
set_option pp.maxSteps 300
namespace Ag
open PySem PySem.Spec PyProof.Rows L2
theorem up_rising : ∀ (l : List Str) (p : Str), risingS p l = true → (p :: l).Pairwise fun a b => a.cps.toList ≤ b.cps.toList
  | [], p, _ => List.pairwise_singleton _ _
  | x :: r, p, h => by
    have h' : (!ltCps x.cps.toList p.cps.toList && risingS x r) = true := h
    obtain ⟨h1, h2⟩ := Bool.and_eq_true_iff.mp h'
    have ih := up_rising r x h2
    have le : p.cps.toList ≤ x.cps.toList := by
      rw [ltCps_eq] at h1
      have : ¬ x.cps.toList < p.cps.toList := by simpa using h1
      exact List.not_lt.mp this
    refine List.pairwise_cons.mpr ⟨fun y hy => ?_, ih⟩
    rcases List.mem_cons.mp hy with rfl | hy
    · exact le
    · exact List.le_trans le ((List.pairwise_cons.mp ih).1 y hy)
theorem rkS_lt {a b : Str} (h : a.cps.toList ≤ b.cps.toList) (n : a ≠ b) : rkS a < rkS b := by
  refine List.cons_lt_cons_iff.mpr (.inl (List.not_le.mp fun c => n (cps_inj (List.le_antisymm h c))))
/-- unlike texts, as sorted -/
theorem up_sortedS {l : List Str} (h : sortedS l = true) (nd : l.Nodup) : Up rkS l := by
  have : l.Pairwise fun a b => a.cps.toList ≤ b.cps.toList := by
    cases l with
    | nil => exact .nil
    | cons x r => exact up_rising r x h
  exact List.Pairwise.imp (fun {a b} h => rkS_lt h.1 h.2) (this.and (List.nodup_iff_pairwise_ne.mp nd))
section
variable {κ : Type} [DecidableEq κ]
theorem keys_of_put (kvs : List (κ × V)) (k : κ) (v : V) : (putK kvs k v).map (·.1) = if k ∈ kvs.map (·.1) then kvs.map (·.1) else kvs.map (·.1) ++ [k] := by
  have e : (kvs.any fun kv => decide (kv.1 = k)) = true ↔ k ∈ kvs.map (·.1) := by
    rw [List.any_eq_true]
    constructor
    · rintro ⟨kv, h, d⟩
      exact List.mem_map.mpr ⟨kv, h, of_decide_eq_true d⟩
    · intro h
      obtain ⟨kv, h, d⟩ := List.mem_map.mp h
      exact ⟨kv, h, decide_eq_true d⟩
  unfold putK
  by_cases h : k ∈ kvs.map (·.1)
  · rw [if_pos (e.mpr h), if_pos h, List.map_map]
    refine List.map_congr_left fun kv _ => ?_
    show (if kv.1 = k then (kv.1, v) else kv).1 = kv.1
    split <;> rfl
  · rw [if_neg fun z => h (e.mp z), if_neg h, List.map_append]; rfl
theorem once_put {kvs : List (κ × V)} (h : (kvs.map (·.1)).Nodup) (k : κ) (v : V) : ((putK kvs k v).map (·.1)).Nodup := by
  rw [keys_of_put]
  split
  · exact h
  · rename_i n
    exact List.nodup_append.mpr ⟨h, List.nodup_cons.mpr ⟨fun z => (nomatch z), List.nodup_nil⟩, fun a ha b hb e => n (by rw [List.mem_singleton.mp hb] at e; exact e ▸ ha)⟩
theorem mem_put {kvs : List (κ × V)} {k j : κ} {v : V} : j ∈ (putK kvs k v).map (·.1) ↔ j = k ∨ j ∈ kvs.map (·.1) := by
  rw [keys_of_put]
  split
  · rename_i h
    exact ⟨.inr, fun z => z.elim (fun e => e ▸ h) id⟩
  · rw [List.mem_append, List.mem_singleton, or_comm]
theorem put_le {κ : Type} [DecidableEq κ] (kvs : List (κ × V)) (k : κ) (v : V) : (putK kvs k v).length ≤ kvs.length + 1 := by
  unfold putK
  split
  · rw [List.length_map]; omega
  · rw [List.length_append]; exact Nat.le_refl _
theorem valV_get {kvs : List (κ × V)} (nd : (kvs.map (·.1)).Nodup) {i : Nat} {k : κ} {v : V} (h : kvs[i]? = some (k, v)) : valV kvs k = some v := by
  induction kvs generalizing i with
  | nil => simp at h
  | cons kv r ih =>
    rw [List.map_cons, List.nodup_cons] at nd
    cases i with
    | zero =>
      simp at h; subst h
      exact valV_pos rfl
    | succ i =>
      have h : r[i]? = some (k, v) := by simpa using h
      rw [valV_neg (fun e => nd.1 (by rw [e]; exact List.mem_map.mpr ⟨(k, v), List.mem_of_getElem? h, rfl⟩))]
      exact ih nd.2 h
theorem valV_mem {kvs : List (κ × V)} {k : κ} : k ∈ kvs.map (·.1) ↔ ∃ v, valV kvs k = some v := by
  cases e : valV kvs k with
  | none => exact ⟨fun h => absurd h (valV_not e), fun ⟨_, h⟩ => nomatch h⟩
  | some v => exact ⟨fun _ => ⟨v, rfl⟩, fun _ => L2.valV_in e⟩
end
end Ag

set_option Elab.async false
set_option linter.all false
set_option maxRecDepth 100000
set_option maxHeartbeats 1000000
set_option pp.maxSteps 300
/-! Short ways. -/
namespace Ag
open PySem PySem.Spec PyProof.Rows L2
theorem layAll_of : ∀ {ds : List PyData}, (∀ d ∈ ds, d.canLay0 = true) → PyData.canLayAll0 ds = true
  | [], _ => by simp [PyData.canLayAll0]
  | d :: ds, h => by
    rw [PyData.canLayAll0, h d List.mem_cons_self, layAll_of fun x hx => h x (List.mem_cons_of_mem _ hx)]; rfl
theorem st_upd {K : PySem.W.Frag} {H : Hp} {l a : Addr} {xs ys : List V} {o : HO} (h : H l = some (.lst ys)) (s : SqT K H a xs) : SqT K (upd H l o) a xs := s.imp (fun z => by
  rcases z with z | ⟨u, z⟩
  · exact .inl (by rw [upd_ne (ne_of z h (fun q => nomatch q))]; exact z)
  · exact .inr ⟨u, by rw [upd_ne (ne_of z h (fun q => nomatch q))]; exact z⟩) id
section
variable {K : PySem.W.Frag} {σ : L2.St} {F : Addr → Prop} {H : Hp} {te : TE} {d : PyData}
theorem run_edv {Q : VK} (h : ED K te σ F H d) (k : ∀ v H1, Same H H1 → Df K (Fr F H) H1 v d → Q v H1) : te σ H Q := h H (Same.refl _) Q k
theorem run_asgd {g : TG} {tz : TS} {D : Ends} (h : ED K te σ F H d) (k : ∀ v H1, Same H H1 → Df K (Fr F H) H1 v d → g v σ H1 fun σ2 H2 => tz D σ2 H2) : tSeq (tAsg te g) tz D σ H := h H (Same.refl _) _ k
theorem run_asgd1 {g : TG} {D : Ends} (h : ED K te σ F H d) (k : ∀ v H1, Same H H1 → Df K (Fr F H) H1 v d → g v σ H1 D.nx) : tAsg te g D σ H := h H (Same.refl _) _ k
theorem run_asg {g : TG} {tz : TS} {D : Ends} (h : te σ H fun v H1 => g v σ H1 fun σ2 H2 => tz D σ2 H2) : tSeq (tAsg te g) tz D σ H := h
theorem run_lstT {ta : TA} {Q : VK} (h : ta σ H fun vs H1 => vs.length ≤ sizeLine ∧ ∀ q, H1 q = none → Q (.ref q) (upd H1 q (.lst vs))) : tLst ta σ H Q := h
theorem run_or {t u : TT} {Q : Bool → Hp → Prop} (h : t σ H fun b H1 => if b = true then Q true H1 else u σ H1 Q) : tOr t u σ H Q := h
theorem run_ifs {t : TT} {ta tb : TS} {D : Ends} (h : t σ H fun b H1 => if b = true then ta D σ H1 else tb D σ H1) : tIfS t ta tb D σ H := h
theorem run_ifq {t : TT} {ta tb tz : TS} {D : Ends} (h : t σ H fun b H1 => if b = true then ta { D with nx := fun σ H => tz D σ H } σ H1 else tb { D with nx := fun σ H => tz D σ H } σ H1) : tSeq (tIfS t ta tb) tz D σ H := h
theorem run_callB {r : List V → Hp → VK → Prop} {ta : TA} {Q : VK} (h : ta σ H fun vs H1 => r vs H1 Q) : tCB r ta σ H Q := h
theorem run_consT {tr : TA} {Q : List V → Hp → Prop} (h : te σ H fun v H1 => tr σ H1 fun vs H2 => Q (v :: vs) H2) : tCons te tr σ H Q := h
theorem run_retT {D : Ends} (h : te σ H D.rt) : tRet te D σ H := h
/-- a list of written items -/
theorem run_lstA {ta : TA} {ds : List PyData} {Q : VK} (h : EA K ta σ F H ds) (l : ds.length ≤ 1000) (k : ∀ q vs H1, Same H H1 → DpAll K H1 vs ds → H1 q = some (.lst vs) → Q (.ref q) H1) : tLst ta σ H Q :=
  h H (Same.refl _) _ fun vs H1 s1 hv => ⟨by rw [dfs_len hv]; exact small5 (by omega), fun q hq => k q vs _ (s1.trans (Same.newA hq)) (dps_mono (Same.newA hq) (dfs_dps hv)) upd_same⟩
end
abbrev listR (K : PySem.W.Frag) : List V → Hp → VK → Prop := fun xs H Q => ∃ p ys, xs = [.ref p] ∧ (SqL K H p ys ∨ SqT K H p ys) ∧ ∀ l, H l = none → Q (.ref l) (upd H l (.lst ys))
theorem u65 {k : Nat} {A : Around} (r : Room k A) : A.units + 65 < cLine := by have := r.un; omega
end Ag

set_option Elab.async false
set_option linter.all false
set_option maxRecDepth 100000
set_option maxHeartbeats 2000000
set_option pp.maxSteps 300
namespace Ag
open PySem PySem.Spec PyProof.Rows L2
/-! own exceptions as values: made by their own __init__, read, asked by isinstance -/
/-- C(e, ..) as a value -/
def tMkV (C : Addr) (sp : Sp) (dvs : List V) (ta : TA) : TE := fun σ H Q => ta σ H fun vs H1 => vs.length ≤ 1000 ∧ ∀ a, H1 a = none → sp (.ref a :: (vs ++ dvs)) (upd H1 a (exo a C none)) (fun v H2 => v = .non ∧ Q (.ref a) H2) (fun _ _ _ => False)
section
variable {X : Cx} {e : Expr} {es : List Expr} {te : TE} {ta : TA} {p pos : Pos}
theorem pe_oex {CX : CXT} {x : Str} {C fI : Addr} {k : Nat} {fd : FuncData} {ps : List Str} {sp : Sp} {ds : List Value} {dvs : List V} (T : OexC X.K C) (iC : PySem.W.findIn X.K (.ref C) "__init__" = some (some (.ref fI))) (tI : PySem.W.typeIn X.K (.ref fI) = some (.type "function"))
    (F1 : FnOk X.prog X.w X.K X.mg X.base CX k fI fd ps sp) (hr : Room (k + 1) X.A) (hb : Binds X.K fd ps ds) (hd : Vals dvs ds) (hx : Passes CX X (fun _ _ _ => False)) (hg : Gl X x) (hm : X.mg x = some (.ref C)) (ha : PA X (e :: es) ta)
    (hdb : (x == ("__debug__" : Str)) = false := by decide) (he : starEach (e :: es) X.env = (false, eval e X.env) :: starEach es X.env := by rfl) (hpl : (backTo pos (starEach es X.env)).any (·.1) = false := by rfl) :
    PE X (.Call (.Name x p) (e :: es) [] pos) (tMkV C sp dvs ta) := by
  refine ⟨fun pins s σ H Q I h => ?_⟩
  obtain ⟨nm, q, N, bs, bm, sn, sub, ab, col, dd, k0, k1, k2, k3, k5, hC, hbm⟩ := T.cls
  refine wpAny_Call_Name_kw (ld_glob I hg hm ?_ hdb)
  refine PySem.W.callWith_K (h₀ := X.base) I.ok.mod.kin T.kC (thn (ha.run pos pins s σ H _ I h) fun us s1 ⟨vs, H1, I1, r1, hz, q1⟩ => ⟨I1.kIn, ?_⟩) he hpl
  show wpAny _ _ (call (.ref C) us) _ _ _
  obtain ⟨hp, g, dr, tk, os⟩ := s1
  have hsz : hp.objs.size ≤ hp.objs.size + 1 := Nat.le_succ _
  have hq := q1 (hp.objs.size + 1) (I1.hok.fresh hsz)
  have hget : ((hp.push (PySem.W.kdv_tup us)).push (PySem.HandSPX.excO C hp.objs.size)).get? (hp.objs.size + 1) = some (PySem.HandSPX.excO C hp.objs.size) := by heap_get
  have I2 : Inv X pins σ (upd H1 (hp.objs.size + 1) (exo (hp.objs.size + 1) C none)) ⟨(hp.push (PySem.W.kdv_tup us)).push (PySem.HandSPX.excO C hp.objs.size), g, dr, tk, os⟩ :=
    I1.laid (t' := tk) (a := hp.objs.size + 1) (o := exo (hp.objs.size + 1) C none) (h' := (hp.push (PySem.W.kdv_tup us)).push (PySem.HandSPX.excO C hp.objs.size)) (fun _ _ z => Heap.get?_push_of_some _ (Heap.get?_push_of_some _ z)) hsz (exo_ok hget)
  have r2 : Vals (V.ref (hp.objs.size + 1) :: (vs ++ dvs)) (Value.ref (hp.objs.size + 1) :: (us ++ ds)) := .cons rfl (r1.append hd)
  have hl : (Value.ref (hp.objs.size + 1) :: us ++ ds).length = ps.length := by
    have e := r2.length
    rw [F1.len _ _ _ _ hq] at e
    exact e.symm
  have hus : us.length ≤ sizeLine := by
    rw [← Paired.length r1, sizeLine_eq]
    omega
  refine wpAny_call (PySem.HandSPX.call_own F.excBase_ValueError (fun Y => PySem.HandSPX.refsVE_contains Y bm hbm) (I1.kIn _ _ hC) (PySem.W.looks_findIn I1.kIn iC) (fun self => PySem.W.bind_fn I1.kIn self tI) hus
    (codeAny_mono (F1.run _ X.stack _ _ ⟨Value.ref (hp.objs.size + 1) :: us, []⟩ (Value.ref (hp.objs.size + 1) :: (us ++ ds)) _ _ (fun _ _ _ => False) (hr.make C us []) (I2.env0.make C us []) (hb _ (Value.ref (hp.objs.size + 1) :: us) I2.kIn hl) r2 hq) fun r s' hq' => ?_))
  cases r with
  | error er => exact hx pins σ _ _ er s' I2 hq'
  | ok fl =>
    cases fl with
    | ret u =>
      obtain ⟨v, H2, I3, rv, ev, q2⟩ := I2.after hq'
      subst ev
      exact ⟨rv, .ref _, H2, I3, rfl, q2⟩
    | next => exact False.elim hq'
    | brk => exact False.elim hq'
    | cont => exact False.elim hq'
/-- C(), an own exception without an own __init__ -/
theorem pe_exc0 {C : Addr} {bmB : List Value} {B newId initId : String} {x : Str} (F : ExcBaseFacts B newId initId bmB) (q : PySem.W.excIn X.K C bmB newId = true) (gC : X.mg x = some (.ref C)) (kC : PySem.W.keepIn X.K (.ref C) = true) (hg : Gl X x)
    (hdb : (x == ("__debug__" : Str)) = false := by decide) :
    PE X (.Call (.Name x p) [] [] pos) (fun σ H Q => ∀ a, H a = none → Q (.ref a) (upd H a (ExO (.ref C) a))) := by
  refine ⟨fun pins s σ H Q I h => ?_⟩
  refine wpAny_Call_Name_kw (ld_glob I hg gC ?_ hdb)
  refine PySem.W.callWith_K0 (first := []) I.kIn kC ?_
  show wpAny _ _ (call (.ref C) []) _ _ _
  obtain ⟨bm, N, nm, qn, bs, hdct, sn, sub, ab, col, dd, k0, k1, k2, k3, k5, mN, hC, hN, hni, T⟩ := exc_obj I.kIn q
  refine wpAny_call_exc_subT F T hC hN hni (fun h' a hm => ?_) (by show 0 ≤ sizeLine; rw [sizeLine_eq]; omega)
  have hn : H a = none := I.hok.gone hm.new
  obtain ⟨t, ht, _, _⟩ := hm.there
  exact ⟨.ref a, upd H a (ExO (.ref C) a), I.laidN hm.keeps hm.new hn (exO_ok ht ⟨rfl, rfl⟩ rfl rfl rfl (show 4 < 6 by decide)), rfl, h a hn⟩
/-- the field of an own exception that is a value -/
def tXo (K : PySem.W.Frag) (f : Str) (te : TE) : TE := fun σ H Q => te σ H fun x H1 => ∃ (a C dd : Addr) (fs : List (Str × V)) (v : V), x = .ref a ∧ H1 a = some (exo a C (some dd)) ∧ H1 dd = some (exd dd fs) ∧ fs.lookup f = some v ∧ XfC K C ∧ PySem.W.findIn K (.ref C) f = some none ∧ Q v H1
theorem pe_xo {n : Str} (he : PE X e te) (hb : attributeBase e n X.env (eval e X.env) = eval e X.env := by rfl) : PE X (.Attribute e n pos) (tXo X.K n te) := by
  refine ⟨fun pins s σ H Q I h => ?_⟩
  refine attr_of hb (thn (he.run pins s σ H _ I h) fun u s1 hh => ?_)
  obtain ⟨x, H1, I1, rx, a, C, dd, fs, v, ex, ea, ed, l, T, hno, q⟩ := hh
  subst ex
  obtain rfl : u = Value.ref a := rx
  obtain ⟨t0, ha⟩ := exo_at I1.hok ea
  obtain ⟨mA, hns, hr⟩ := exd_at I1.hok ed
  obtain ⟨od, ho, hl⟩ := lookIn_ns hns
  obtain ⟨u, hu, ru⟩ := RelO.some_of (v := v) (o := mA n) (by rw [← l]; exact hr n)
  have J : PySem.W.InstAt s1.heap a _ C (some od) := ⟨ha, rfl, rfl, ho⟩
  exact HandSPX.exc_get I1.kIn J T.ga T.gg T.exC (PySem.W.findObj_own T.hdC hno rfl (by rw [hl, hu])) (handed_of ru) ⟨v, H1, I1.tok _, ru, q⟩
/-- an exception as a value: with fields, or without -/
def ExAt (H : Hp) (a C : Addr) : Prop := (∃ d fs, H a = some (exo a C (some d)) ∧ H d = some (exd d fs)) ∨ H a = some (ExO (.ref C) a)
/-- isinstance(one, c), one an exception that is a value -/
def rIsV (K : PySem.W.Frag) : List V → Hp → VK → Prop := fun xs H Q => ∃ (a D : Addr) (c : V) (cv : Value) (b : Bool), xs = [.ref a, c] ∧ ExAt H a D ∧ ExcC K D ∧ (∀ u, RelV c u → u = cv) ∧ PySem.W.kitOne K (.ref D) cv = some b ∧ Q (.bl b) H
theorem call_isV : CallR X (.builtin "isinstance") (rIsV X.K) := by
  intro pins s σ H xs us Q I r h
  obtain ⟨a, D, c, cv, b, rfl, ha, C, hcv, e, q⟩ := h
  cases r with
  | cons rx rr =>
    cases rr with
    | cons rt rr =>
      cases rr
      cases rx
      have ec := hcv _ rt
      subst ec
      have hcl : (PySem.W.clsIn X.K D).isSome = true := by
        obtain ⟨cd, hc, _⟩ := PySem.W.any_some C.hd
        rw [hc]; rfl
      have J : ∃ oe od, PySem.W.InstAt s.heap a oe D od := by
        rcases ha with ⟨d, fs, ea, ed⟩ | ea
        · obtain ⟨t0, ho⟩ := exo_at I.hok ea
          obtain ⟨mA, hns, _⟩ := exd_at I.hok ed
          obtain ⟨od, hod, _⟩ := lookIn_ns hns
          exact ⟨_, some od, ho, rfl, rfl, hod⟩
        · obtain ⟨⟨oe, vs, ho, hz, hd, _⟩, _⟩ := I.hok a _ ea
          obtain ⟨oc, od, oda, osl⟩ := oe
          obtain ⟨h1, h2⟩ := hz
          dsimp only at h1 h2 hd
          subst h1 h2 hd
          exact ⟨_, none, ho, rfl, rfl, trivial⟩
      obtain ⟨oe, od, J⟩ := J
      exact PySem.W.kia_one (PySem.W.kitx_exc hcl C.hg C.hk C.hs C.ha C.hn C.ht C.hm) I.kIn J e (fun z => nomatch z) fun tk => ⟨.bl b, H, I.kept (t' := tk) fun _ _ z => z, rfl, q⟩
/-- isinstance(e, c), e the exception that the suite holds, with a dict -/
def rIsP (K : PySem.W.Frag) (a : Addr) (cls : Value) (d : Option Addr) : List V → Hp → VK → Prop := fun xs H Q => ∃ (D dd : Addr) (fs : List (Str × V)) (c : V) (cv : Value) (b : Bool), xs = [.ref a, c] ∧ cls = .ref D ∧ d = some dd ∧ H dd = some (.xd fs) ∧ ExcC K D ∧ (∀ u, RelV c u → u = cv) ∧ PySem.W.kitOne K (.ref D) cv = some b ∧ Q (.bl b) H
theorem call_isP {a : Addr} {oe : Obj} {pn : List (Addr × Obj)} {cls : Value} {d : Option Addr} (hz : Zc cls d oe) (hf : ∃ vs, oe.data = .fields vs) : CallR (X.suite a ((a, oe) :: pn)) (.builtin "isinstance") (rIsP X.K a cls d) := by
  intro pins s σ H xs us Q I r h
  obtain ⟨D, dd, fs, c, cv, b, rfl, rfl, rfl, ed, C, hcv, e, q⟩ := h
  cases r with
  | cons rx rr =>
    cases rr with
    | cons rt rr =>
      cases rr
      cases rx
      have ec := hcv _ rt
      subst ec
      have hcl : (PySem.W.clsIn X.K D).isSome = true := by
        obtain ⟨cd, hc, _⟩ := PySem.W.any_some C.hd
        rw [hc]; rfl
      obtain ⟨hget, _⟩ := I.pin (a, oe) (List.mem_append.mpr (.inl List.mem_cons_self))
      obtain ⟨vs, hv⟩ := hf
      have hx : ObjOk X.prog X.w H s.heap dd (.xd fs) := I.hok dd _ ed
      obtain ⟨mA, hns, _⟩ := hx
      obtain ⟨od, hod, _⟩ := lookIn_ns hns
      have J : PySem.W.InstAt s.heap a oe D (some od) := ⟨hget, hz.1, by unfold PySem.W.notCls; rw [hv] <;> rfl, by rw [hz.2]; exact hod⟩
      exact PySem.W.kia_one (PySem.W.kitx_exc hcl C.hg C.hk C.hs C.ha C.hn C.ht C.hm) I.kIn J e (fun z => nomatch z) fun tk => ⟨.bl b, H, I.kept (t' := tk) fun _ _ z => z, rfl, q⟩
end
end Ag

set_option Elab.async false
set_option linter.all false
set_option maxRecDepth 100000
set_option maxHeartbeats 2000000
set_option pp.maxSteps 300
namespace Ag
open PySem PySem.Spec PyProof.Rows L2
theorem nameB_as {x : Str} (h : nameB x = true) : As 12 x := by
  unfold nameB at h
  simp only [Bool.and_eq_true, decide_eq_true_eq] at h
  refine ⟨fun c hc => ?_, by omega⟩
  have := List.all_eq_true.mp h.2 c hc
  rcases Bool.or_eq_true_iff.mp this with k | k
  · have := of_decide_eq_true k; omega
  · have := of_decide_eq_true k; omega
theorem name_gd {x : Str} (h : nameB x = true) : gd (.str x) = true := by
  have a := nameB_as h
  simp only [gd, Bool.and_eq_true, decide_eq_true_eq]
  refine ⟨Array.all_eq_true_iff_forall_mem.mpr fun c hc => decide_eq_true ?_, Nat.le_trans a.2 (by decide)⟩
  have := a.1 c (Array.mem_toList_iff.mpr hc); omega
theorem shaped_gd {d : PyData} (h : gd d = true) (l : d.depth ≤ 64) : SeqAt.shaped d = true := by
  unfold SeqAt.shaped
  rw [gd_lay h, Bool.true_and]; exact decide_eq_true l
theorem shaped_name {x : Str} (h : nameB x = true) : SeqAt.shaped (.str x) = true := shaped_gd (name_gd h) (by simp [PyData.depth])
theorem atI_neg {α : Type} {xs : List α} {v : α} {k : Nat} (h1 : 1 ≤ k) (h2 : k ≤ xs.length) (h : xs[xs.length - k]? = some v) : atI xs (-(k : Int)) = some v := by
  have e : ixN xs.length (-(k : Int)) = some (xs.length - k) := by
    unfold ixN
    rw [if_neg (by omega), if_pos (by omega)]
    congr 1; omega
  unfold atI; rw [e]; exact h
/-! ### rows: hall, call, other -/
def rowK (r : Rw) : List Key := [.inr r.1, .inr r.2.1, .inr r.2.2]
def rowD (r : Rw) : PyData := .tuple [.str r.1, .str r.2.1, .str r.2.2]
def rowV (r : Rw) : List V := [.str r.1, .str r.2.1, .str r.2.2]
def hcK (h c : Str) : List Key := [.inr h, .inr c]
theorem rowK_inj {r s : Rw} (h : rowK r = rowK s) : r = s := by
  obtain ⟨a, b, c⟩ := r
  obtain ⟨d, e, f⟩ := s
  unfold rowK at h
  injection h with h1 h
  injection h with h2 h
  injection h with h3 h
  injection h1 with h1
  injection h2 with h2
  injection h3 with h3
  subst h1 h2 h3; rfl
theorem hcK_inj {h c h' c' : Str} (e : hcK h c = hcK h' c') : h = h' ∧ c = c' := by
  unfold hcK at e
  injection e with h1 e
  injection e with h2 e
  injection h1 with h1
  injection h2 with h2
  exact ⟨h1, h2⟩
def goodR (r : Rw) : Prop := nameB r.1 = true ∧ nameB r.2.1 = true ∧ nameB r.2.2 = true
/-- the answers of a call at a hall, in the order of the rows -/
def ansOf (S : List Rw) (h c : Str) : List Str := (S.filter fun r => decide (r.1 = h) && decide (r.2.1 = c)).map fun r => r.2.2
theorem ansOf_snoc (S : List Rw) (h c x h' c' : Str) : ansOf (S ++ [(h, c, x)]) h' c' = if h' = h ∧ c' = c then ansOf S h' c' ++ [x] else ansOf S h' c' := by
  unfold ansOf
  rw [List.filter_append, List.map_append]
  by_cases e : h' = h ∧ c' = c
  · rw [if_pos e, e.1, e.2]
    simp
  · rw [if_neg e]
    have : (decide (h = h') && decide (c = c')) = false := by
      rw [Bool.and_eq_false_iff, decide_eq_false_iff_not, decide_eq_false_iff_not]
      by_cases q : h = h'
      · exact .inr fun z => e ⟨q.symm, z.symm⟩
      · exact .inl q
    simp [this]
theorem mem_ansOf {S : List Rw} {h c o : Str} : o ∈ ansOf S h c ↔ (h, c, o) ∈ S := by
  unfold ansOf
  rw [List.mem_map]
  constructor
  · rintro ⟨r, hr, rfl⟩
    obtain ⟨h1, h2⟩ := List.mem_filter.mp hr
    rw [Bool.and_eq_true, decide_eq_true_eq, decide_eq_true_eq] at h2
    rw [← h2.1, ← h2.2]; exact h1
  · intro hm
    exact ⟨(h, c, o), List.mem_filter.mpr ⟨hm, by simp⟩, rfl⟩
theorem ansOf_len (S : List Rw) (h c : Str) : (ansOf S h c).length ≤ S.length := by
  unfold ansOf
  rw [List.length_map]; exact List.length_filter_le _ _
/-- answers by hall and call: what stands in a dict, A telling how the values stand -/
structure Ans (A : Hp → Addr → List V → Prop) (H : Hp) (kvs : List (List Key × V)) (S : List Rw) : Prop where
  len : kvs.length ≤ S.length
  at_ : ∀ h c, (ansOf S h c = [] ∧ valV kvs (hcK h c) = none) ∨ (ansOf S h c ≠ [] ∧ ∃ a : Addr, valV kvs (hcK h c) = some (.ref a) ∧ A H a ((ansOf S h c).map V.str))
  key : ∀ k ∈ kvs.map (·.1), ∃ h c, k = hcK h c ∧ ansOf S h c ≠ []
  once : (kvs.map (·.1)).Nodup
section
variable {A : Hp → Addr → List V → Prop} {H H' : Hp} {kvs : List (List Key × V)} {S : List Rw}
theorem Ans.nil : Ans A H [] [] := ⟨Nat.le_refl _, fun _ _ => .inl ⟨rfl, rfl⟩, fun _ h => (nomatch h), List.nodup_nil⟩
theorem Ans.kept (h : Ans A H kvs S) (k : ∀ a xs, A H a xs → A H' a xs) : Ans A H' kvs S := ⟨h.len, fun x c => (h.at_ x c).imp id fun ⟨n, a, e1, e2⟩ => ⟨n, a, e1, k _ _ e2⟩, h.key, h.once⟩
theorem Ans.mem (hA : Ans A H kvs S) {h c : Str} : hcK h c ∈ kvs.map (·.1) ↔ ansOf S h c ≠ [] := by
  rw [valV_mem]
  rcases hA.at_ h c with ⟨e1, e2⟩ | ⟨e1, a, e2, _⟩
  · exact ⟨fun ⟨v, z⟩ => (nomatch (e2.symm.trans z)), fun z => absurd e1 z⟩
  · exact ⟨fun _ => e1, fun _ => ⟨_, e2⟩⟩
theorem Ans.put (hA : Ans A H kvs S) (kp : ∀ a xs, A H a xs → A H' a xs) {h c x : Str} {a : Addr} (ha : A H' a ((ansOf S h c ++ [x]).map V.str)) : Ans A H' (putK kvs (hcK h c) (.ref a)) (S ++ [(h, c, x)]) where
  len := by
    have := put_le kvs (hcK h c) (V.ref a)
    have := hA.len
    rw [List.length_append]; show _ ≤ S.length + 1; omega
  at_ := fun h' c' => by
    rw [ansOf_snoc, valV_put]
    by_cases e : h' = h ∧ c' = c
    · rw [if_pos e, e.1, e.2, if_pos rfl]
      exact .inr ⟨by simp, a, rfl, ha⟩
    · rw [if_neg e, if_neg fun z => e (hcK_inj z)]
      exact (hA.at_ h' c').imp id fun ⟨n, b, e1, e2⟩ => ⟨n, b, e1, kp _ _ e2⟩
  key := fun k hk => by
    rcases mem_put.mp hk with rfl | hk
    · exact ⟨h, c, rfl, by rw [ansOf_snoc, if_pos ⟨rfl, rfl⟩]; simp⟩
    · obtain ⟨h', c', e, n⟩ := hA.key k hk
      refine ⟨h', c', e, ?_⟩
      rw [ansOf_snoc]
      split
      · simp
      · exact n
  once := once_put hA.once _ _
end
section
variable {K : PySem.W.Frag}
def RowsAt (K : PySem.W.Frag) (H : Hp) (zs : List (Addr × Rw)) : Prop := ∀ z ∈ zs, SqT K H z.1 (rowV z.2) ∧ goodR z.2
theorem RowsAt.same {H H' : Hp} {zs : List (Addr × Rw)} (s : Same H H') (h : RowsAt K H zs) : RowsAt K H' zs := fun z hz => ⟨s.stA (h z hz).1, (h z hz).2⟩
theorem row_dp {H : Hp} {a : Addr} {r : Rw} (h : SqT K H a (rowV r)) : Dp K H (.ref a) (rowD r) := .tup h (.cons (.str _) (.cons (.str _) (.cons (.str _) .nil)))
theorem rows_dps {H : Hp} : ∀ {zs : List (Addr × Rw)}, RowsAt K H zs → DpAll K H (zs.map fun z => V.ref z.1) (zs.map fun z => rowD z.2)
  | [], _ => .nil
  | z :: zs, h => .cons (row_dp (h z List.mem_cons_self).1) (rows_dps fun y hy => h y (List.mem_cons_of_mem _ hy))
/-- data that are rows: where they stand -/
theorem rows_at {H : Hp} : ∀ {vs : List V} {R : List Rw}, DpAll K H vs (R.map rowD) → (∀ r ∈ R, goodR r) → ∃ zs : List (Addr × Rw), vs = zs.map (fun z => V.ref z.1) ∧ zs.map Prod.snd = R ∧ RowsAt K H zs
  | [], [], _, _ => ⟨[], rfl, rfl, fun z hz => (nomatch hz)⟩
  | v :: vs, r :: R, h, g => by
    cases h with
    | cons a t =>
      obtain ⟨zs, e1, e2, e3⟩ := rows_at t fun y hy => g y (List.mem_cons_of_mem _ hy)
      cases a with
      | tup hs q =>
        rename_i b xs
        cases q with
        | cons q1 q =>
          cases q with
          | cons q2 q =>
            cases q with
            | cons q3 q =>
              cases q; cases q1; cases q2; cases q3
              exact ⟨(b, r) :: zs, by rw [List.map_cons, e1], by rw [List.map_cons, e2], fun z hz => by
                rcases List.mem_cons.mp hz with rfl | hz
                · exact ⟨hs, g _ List.mem_cons_self⟩
                · exact e3 z hz⟩
end
theorem rowD_inj {r s : Rw} (h : rowD r = rowD s) : r = s := by
  obtain ⟨a, b, c⟩ := r
  obtain ⟨d, e, f⟩ := s
  unfold rowD at h
  injection h with h
  injection h with h1 h
  injection h with h2 h
  injection h with h3 _
  injection h1 with h1
  injection h2 with h2
  injection h3 with h3
  exact Prod.ext h1 (Prod.ext h2 h3)
theorem sort_rows (R : List Rw) : (R.map rowD).mergeSort leD = (R.mergeSort (leF rkR)).map rowD := sort_tx (fun r : Rw => [r.1, r.2.1, r.2.2]) R
theorem eqv_row (r s : Rw) : PyData.eqv (rowD r) (rowD s) = decide (r = s) := by
  have := eqv_tx [r.1, r.2.1, r.2.2] [s.1, s.2.1, s.2.2]
  refine this.trans (decide_eq_decide.mpr ⟨fun h => ?_, fun h => by rw [h]⟩)
  injection h with h1 h
  injection h with h2 h
  injection h with h3 _
  exact Prod.ext h1 (Prod.ext h2 h3)
theorem nodup_len {α : Type} [DecidableEq α] : ∀ (ys xs : List α), ys.Nodup → (∀ y ∈ ys, y ∈ xs) → ys.length ≤ xs.length
  | [], _, _, _ => Nat.zero_le _
  | y :: ys, xs, nd, h => by
    obtain ⟨n1, n2⟩ := List.nodup_cons.mp nd
    have hy := h y List.mem_cons_self
    have ih := nodup_len ys (xs.erase y) n2 fun z hz => (List.mem_erase_of_ne (fun e => n1 (by rw [← e]; exact hz))).mpr (h z (List.mem_cons_of_mem _ hz))
    have l := List.length_erase_of_mem hy
    have p : 0 < xs.length := List.length_pos_of_mem hy
    rw [List.length_cons]; omega
/-- the rows that a list of rows has, ascending, each once -/
def Srt (R S : List Rw) : Prop := Up rkR S ∧ ∀ r, r ∈ S ↔ r ∈ R
theorem Srt.uniq {R S S' : List Rw} (a : Srt R S) (b : Srt R S') : S = S' := up_ext rkR_inj a.1 b.1 fun z => (a.2 z).trans (b.2 z).symm
theorem Srt.len {R S : List Rw} (a : Srt R S) : S.length ≤ R.length := nodup_len _ _ a.1.nodup fun y hy => (a.2 y).mp hy
theorem Srt.self {S : List Rw} (u : Up rkR S) : Srt S S := ⟨u, fun _ => Iff.rfl⟩
theorem row_lay {r : Rw} (h : goodR r) : (rowD r).canLay0 = true := by
  unfold rowD
  rw [PyData.canLay0]
  refine layAll_of fun d hd => ?_
  simp only [List.mem_cons, List.not_mem_nil, or_false] at hd
  rcases hd with rfl | rfl | rfl
  · exact gd_lay (name_gd h.1)
  · exact gd_lay (name_gd h.2.1)
  · exact gd_lay (name_gd h.2.2)
end Ag

set_option Elab.async false
set_option linter.all false
set_option maxRecDepth 100000
set_option maxHeartbeats 2000000
set_option pp.maxSteps 400
namespace Ag
open PySem PySem.Spec PyProof.Rows L2
/-! ### what stands at an address is no data -/
def NoDat (H : Hp) (a : Addr) : Prop := ∀ o, H a = some o → (∀ xs, o ≠ .lst xs) ∧ (∀ xs, o ≠ .tup xs) ∧ ∀ x u, o ≠ .frz x u
theorem nodat_ins {H : Hp} {b C dx : Addr} {fs : List (Str × V)} (h : H b = some (.ins C dx fs)) : NoDat H b := fun o e => by
  rw [h] at e; cases e; exact ⟨fun _ z => (nomatch z), fun _ z => (nomatch z), fun _ _ z => nomatch z⟩
theorem nodat_dT {H : Hp} {b : Addr} {kvs : List (List Key × V)} (h : H b = some (.dT kvs)) : NoDat H b := fun o e => by
  rw [h] at e; cases e; exact ⟨fun _ z => (nomatch z), fun _ z => (nomatch z), fun _ _ z => nomatch z⟩
theorem nodat_dK {H : Hp} {b : Addr} {kvs : List (Key × V)} (h : H b = some (.dK kvs)) : NoDat H b := fun o e => by
  rw [h] at e; cases e; exact ⟨fun _ z => (nomatch z), fun _ z => (nomatch z), fun _ _ z => nomatch z⟩
section
variable {K : PySem.W.Frag} {H H' : Hp} {b : Addr}
theorem NoDat.st {a : Addr} {xs : List V} (n : NoDat H b) (t : But b H H') (h : SqT K H a xs) : SqT K H' a xs := h.imp (fun z => by
  rcases z with z | ⟨o, z⟩
  · refine .inl (t _ _ (fun e => ?_) z)
    subst e; exact (n _ z).2.1 _ rfl
  · refine .inr ⟨o, t _ _ (fun e => ?_) z⟩
    subst e; exact (n _ z).2.2 _ _ rfl) id
theorem But.updb {o : HO} : But b H (L2.upd H b o) := fun a u n e => by rw [upd_ne n]; exact e
theorem st_free {a D : Addr} {xs : List V} (hD : H D = none) (t : But D H H') (h : SqT K H a xs) : SqT K H' a xs := h.imp (fun z => by
  rcases z with z | ⟨o, z⟩
  · exact .inl (t _ _ (ne_of_none z hD) z)
  · exact .inr ⟨o, t _ _ (ne_of_none z hD) z⟩) id
/-- what was kept under a lock is kept behind it -/
theorem unlock_but {d : Addr} {od : Obj} {u : HO} (e : H d = some u) (t : But b (L2.upd H d (.frz od u)) H') : But b H (L2.upd H' d u) := fun a o n h => by
  by_cases q : a = d
  · subst q; rw [e] at h; cases h; exact upd_same
  · rw [upd_ne q]; exact t a o n (by rw [upd_ne q]; exact h)
theorem unlock_st {d a : Addr} {od : Obj} {kvs : List (List Key × V)} {xs : List V} (e : H' d = some (.frz od (.dT kvs))) (h : SqT K H' a xs) : SqT K (L2.upd H' d (.dT kvs)) a xs := h.imp (fun z => by
  rcases z with z | ⟨o, z⟩
  · exact .inl (by rw [upd_ne (fun q => by rw [q, e] at z; cases z)]; exact z)
  · exact .inr ⟨o, by rw [upd_ne (fun q => by rw [q, e] at z; cases z)]; exact z⟩) id
theorem unlock_stK {d a : Addr} {od : Obj} {kvs : List (Key × V)} {xs : List V} (e : H' d = some (.frz od (.dK kvs))) (h : SqT K H' a xs) : SqT K (L2.upd H' d (.dK kvs)) a xs := h.imp (fun z => by
  rcases z with z | ⟨o, z⟩
  · exact .inl (by rw [upd_ne (fun q => by rw [q, e] at z; cases z)]; exact z)
  · exact .inr ⟨o, by rw [upd_ne (fun q => by rw [q, e] at z; cases z)]; exact z⟩) id
end
theorem But.trans' {b : Addr} {H1 H2 H3 : Hp} (x : But b H1 H2) (y : But b H2 H3) : But b H1 H3 := fun a o n e => y a o n (x a o n e)
theorem But.same {b : Addr} {H1 H2 : Hp} (x : Same H1 H2) : But b H1 H2 := fun a o _ e => x a o e
/-- the calls of a hall, of pairs -/
def callsOf (ps : List (Str × Str)) (h : Str) : List Str := (ps.filter fun p => decide (p.1 = h)).map (·.2)
theorem callsOf_snoc (ps : List (Str × Str)) (h c h' : Str) : callsOf (ps ++ [(h, c)]) h' = if h' = h then callsOf ps h' ++ [c] else callsOf ps h' := by
  unfold callsOf
  rw [List.filter_append, List.map_append]
  by_cases e : h' = h
  · rw [if_pos e, e]; simp
  · rw [if_neg e]
    have : decide (h = h') = false := decide_eq_false fun z => e z.symm
    simp [this]
theorem mem_callsOf {ps : List (Str × Str)} {h c : Str} : c ∈ callsOf ps h ↔ (h, c) ∈ ps := by
  unfold callsOf
  rw [List.mem_map]
  constructor
  · rintro ⟨r, hr, rfl⟩
    obtain ⟨h1, h2⟩ := List.mem_filter.mp hr
    rw [← of_decide_eq_true h2]; exact h1
  · intro hm
    exact ⟨(h, c), List.mem_filter.mpr ⟨hm, decide_eq_true rfl⟩, rfl⟩
theorem callsOf_len (ps : List (Str × Str)) (h : Str) : (callsOf ps h).length ≤ ps.length := by
  unfold callsOf
  rw [List.length_map]; exact List.length_filter_le _ _
theorem callsOf_once {ps : List (Str × Str)} (nd : ps.Nodup) (h : Str) : (callsOf ps h).Nodup := by
  unfold callsOf
  have := List.Pairwise.filter (fun p : Str × Str => decide (p.1 = h)) (List.nodup_iff_pairwise_ne.mp nd)
  refine List.nodup_iff_pairwise_ne.mpr (List.pairwise_map.mpr (List.Pairwise.imp_of_mem ?_ this))
  rintro ⟨a, b⟩ ⟨c, d⟩ h1 h2 ne e
  have e1 := of_decide_eq_true (List.mem_filter.mp h1).2
  have e2 := of_decide_eq_true (List.mem_filter.mp h2).2
  exact ne (Prod.ext (e1.trans e2.symm) e)
/-- calls by hall, as they are told one behind the other -/
structure KnA (K : PySem.W.Frag) (H : Hp) (kn : List (Key × V)) (ps : List (Str × Str)) : Prop where
  len : kn.length ≤ ps.length
  at_ : ∀ h, (callsOf ps h = [] ∧ valV kn (.inr h) = none) ∨ (callsOf ps h ≠ [] ∧ ∃ a : Addr, valV kn (.inr h) = some (.ref a) ∧ SqT K H a ((callsOf ps h).map V.str))
  key : ∀ k ∈ kn.map (·.1), ∃ h, k = .inr h ∧ callsOf ps h ≠ []
  once : (kn.map (·.1)).Nodup
theorem KnA.nil {K : PySem.W.Frag} {H : Hp} : KnA K H [] [] := ⟨Nat.le_refl _, fun _ => .inl ⟨rfl, rfl⟩, fun _ h => (nomatch h), List.nodup_nil⟩
theorem KnA.kept {K : PySem.W.Frag} {H H' : Hp} {kn : List (Key × V)} {ps : List (Str × Str)} (h : KnA K H kn ps) (k : ∀ a xs, SqT K H a xs → SqT K H' a xs) : KnA K H' kn ps := ⟨h.len, fun x => (h.at_ x).imp id fun ⟨n, a, e1, e2⟩ => ⟨n, a, e1, k _ _ e2⟩, h.key, h.once⟩
theorem KnA.put {K : PySem.W.Frag} {H H' : Hp} {kn : List (Key × V)} {ps : List (Str × Str)} (hK : KnA K H kn ps) (kp : ∀ a xs, SqT K H a xs → SqT K H' a xs) {h c : Str} {a : Addr} (ha : SqT K H' a ((callsOf ps h ++ [c]).map V.str)) : KnA K H' (putK kn (.inr h) (.ref a)) (ps ++ [(h, c)]) where
  len := by
    have := put_le kn (.inr h) (V.ref a)
    have := hK.len
    rw [List.length_append]; show _ ≤ ps.length + 1; omega
  at_ := fun h' => by
    rw [callsOf_snoc, valV_put]
    by_cases e : h' = h
    · rw [if_pos e, e, if_pos rfl]
      exact .inr ⟨by simp, a, rfl, ha⟩
    · rw [if_neg e, if_neg fun z => e (Sum.inr.inj z)]
      exact (hK.at_ h').imp id fun ⟨n, b, e1, e2⟩ => ⟨n, b, e1, kp _ _ e2⟩
  key := fun k hk => by
    rcases mem_put.mp hk with rfl | hk
    · exact ⟨h, rfl, by rw [callsOf_snoc, if_pos rfl]; simp⟩
    · obtain ⟨h', e, n⟩ := hK.key k hk
      refine ⟨h', e, ?_⟩
      rw [callsOf_snoc]
      split
      · simp
      · exact n
  once := once_put hK.once _ _
/-- the calls that are known at a hall, ascending -/
def KnF (K : PySem.W.Frag) (H : Hp) (kd : List (Key × V)) (S : List Rw) : Prop := ∀ h, ∃ cs : List Str, Up rkS cs ∧ (∀ c, c ∈ cs ↔ ansOf S h c ≠ []) ∧ ((cs = [] ∧ valV kd (.inr h) = none) ∨ (cs ≠ [] ∧ ∃ a : Addr, valV kd (.inr h) = some (.ref a) ∧ SqT K H a (cs.map V.str)))
theorem KnF.kept {K : PySem.W.Frag} {H H' : Hp} {kd : List (Key × V)} {S : List Rw} (h : KnF K H kd S) (k : ∀ a xs, SqT K H a xs → SqT K H' a xs) : KnF K H' kd S := fun x => let ⟨cs, e1, e2, e3⟩ := h x; ⟨cs, e1, e2, e3.imp id fun ⟨n, a, z1, z2⟩ => ⟨n, a, z1, k _ _ z2⟩⟩
theorem kvs_at {kvs : List (List Key × V)} {i : Nat} {k : List Key} {v : V} (h : kvs[i]? = some (k, v)) : k ∈ kvs.map (·.1) := List.mem_map.mpr ⟨(k, v), List.mem_of_getElem? h, rfl⟩
theorem alike_rows (r s : Rw) : PySem.W.alike (rowD r) (rowD s) = true := by simp [rowD, PySem.W.alike, PySem.W.alikeAll]
/-- rows as keys, sorted -/
theorem rows_sorted {zs : List (Addr × Rw)} {L ws : List (Addr × List Key)} (g : Has (zs.map fun z => (z.1, rowK z.2)) (zs.map fun z => (z.1, rowK z.2)).length L) (nd : (L.map Prod.snd).Nodup) (pm : ws.Perm L) (ez : (ws.map fun z => keyD z.2) = (L.map fun z => keyD z.2).mergeSort leD) :
    ∃ ys : List (Addr × Rw), ws = ys.map (fun z => (z.1, rowK z.2)) ∧ (∀ y ∈ ys, y ∈ zs) ∧ Srt (zs.map Prod.snd) (ys.map Prod.snd) := by
  have memL : ∀ y ∈ L, ∃ z ∈ zs, y = (z.1, rowK z.2) := fun y hy => by
    obtain ⟨z, hz, e⟩ := List.mem_map.mp (List.mem_of_mem_take (g.of y hy))
    exact ⟨z, hz, e.symm⟩
  have all : ∀ l : List (Addr × List Key), (∀ y ∈ l, ∃ z ∈ zs, y = (z.1, rowK z.2)) → ∃ ys : List (Addr × Rw), l = ys.map (fun z => (z.1, rowK z.2)) ∧ ∀ y ∈ ys, y ∈ zs := by
    intro l
    induction l with
    | nil => exact fun _ => ⟨[], rfl, fun y hy => nomatch hy⟩
    | cons a l ih =>
      intro h
      obtain ⟨ys, e, m⟩ := ih fun y hy => h y (List.mem_cons_of_mem _ hy)
      obtain ⟨z, hz, ez⟩ := h a List.mem_cons_self
      exact ⟨z :: ys, by rw [List.map_cons, ← e, ez], fun y hy => (List.mem_cons.mp hy).elim (fun q => q ▸ hz) (m y)⟩
  obtain ⟨ls, el, _⟩ := all L memL
  obtain ⟨ys, e, m⟩ := all ws fun y hy => memL y (pm.mem_iff.mp hy)
  have kd : ∀ l : List (Addr × Rw), ((l.map fun z => ((z.1, rowK z.2) : Addr × List Key)).map fun z => keyD z.2) = (l.map Prod.snd).map rowD := fun l => by rw [List.map_map, List.map_map]; rfl
  rw [e, el, kd, kd, sort_rows] at ez
  have ez : ys.map Prod.snd = (ls.map Prod.snd).mergeSort (leF rkR) := by
    have inj : ∀ a b : List Rw, a.map rowD = b.map rowD → a = b := by
      intro a
      induction a with
      | nil => intro b h; cases b with | nil => rfl | cons x b => cases h
      | cons x a ih =>
        intro b h
        cases b with
        | nil => cases h
        | cons y b =>
          rw [List.map_cons, List.map_cons] at h
          injection h with h1 h2
          rw [rowD_inj h1, ih b h2]
    exact inj _ _ ez
  have ndl : (ls.map Prod.snd).Nodup := by
    rw [el, List.map_map] at nd
    rw [show (Prod.snd ∘ fun z : Addr × Rw => ((z.1, rowK z.2) : Addr × List Key)) = rowK ∘ Prod.snd from rfl, ← List.map_map] at nd
    exact (List.pairwise_map.mp nd).imp fun h e => h (by rw [e])
  refine ⟨ys, e, m, by rw [ez]; exact up_sort rkR_inj ndl, fun r => ⟨fun hr => ?_, fun hr => ?_⟩⟩
  · obtain ⟨y, hy, rfl⟩ := List.mem_map.mp hr
    exact List.mem_map.mpr ⟨y, m y hy, rfl⟩
  · obtain ⟨z, hz, rfl⟩ := List.mem_map.mp hr
    have h1 : ((z.1, rowK z.2) : Addr × List Key) ∈ (zs.map fun z => (z.1, rowK z.2)).take (zs.map fun z => (z.1, rowK z.2)).length := by
      rw [List.take_length]; exact List.mem_map.mpr ⟨z, hz, rfl⟩
    have h2 := g.all _ h1
    have h3 : rowK z.2 ∈ ws.map Prod.snd := (pm.map Prod.snd).mem_iff.mpr h2
    rw [e, List.map_map] at h3
    obtain ⟨y, hy, ey⟩ := List.mem_map.mp h3
    exact List.mem_map.mpr ⟨y, hy, rowK_inj ey⟩
theorem run_sortset {P : Program} {w : World} {K : PySem.W.Frag} {σ : L2.St} {H : Hp} {i : Nat} {ra : Addr} {zs : List (Addr × Rw)} {Q : VK} (h : σ[i]? = some (some (.ref ra))) (hra : SqL K H ra (zs.map fun z => V.ref z.1) ∨ SqT K H ra (zs.map fun z => V.ref z.1)) (hz : RowsAt K H zs) (zl : zs.length < 301)
    (k : ∀ q ys H', Same H H' → H' q = some (.lst (ys.map fun z : Addr × Rw => V.ref z.1)) → RowsAt K H' ys → Srt (zs.map Prod.snd) (ys.map Prod.snd) → ys.length ≤ zs.length → Q (.ref q) H') :
    tCB (rSortQ K P w) (tCons (tCB (rSetQ K P w) (tCons (tVar i) tNil)) tNil) σ H Q := by
  have em : (zs.map fun z => V.ref z.1) = (zs.map fun z => ((z.1, rowK z.2) : Addr × List Key)).map fun z => V.ref z.1 := by rw [List.map_map]; rfl
  have rd : ∀ d ∈ (zs.map fun z => ((z.1, rowK z.2) : Addr × List Key)).map fun z => keyD z.2, ∃ r, d = rowD r := fun d hd => by
    rw [List.map_map] at hd
    obtain ⟨z, _, rfl⟩ := List.mem_map.mp hd
    exact ⟨z.2, rfl⟩
  refine ⟨_, h, ra, zs.map fun z => (z.1, rowK z.2), rfl, by rw [← em]; exact hra, fun z hz' => ?_, by rw [List.length_map]; exact zl, fun p hp => ?_⟩
  · obtain ⟨y, hy, rfl⟩ := List.mem_map.mp hz'
    exact (hz y hy).1
  have s2 := Same.newA (o := KeySet P w p (zs.map fun z => (z.1, rowK z.2))) hp
  refine ⟨p, zs.map fun z => (z.1, rowK z.2), rfl, upd_same, fun z hz' => ?_, fun d hd e he => ?_, .inl fun d hd => ?_, fun L ws q hL nd pm ez hq => ?_⟩
  · obtain ⟨y, hy, rfl⟩ := List.mem_map.mp hz'
    exact s2.stA (hz y hy).1
  · obtain ⟨r, rfl⟩ := rd d hd
    obtain ⟨r2, rfl⟩ := rd e he
    exact alike_rows r r2
  · obtain ⟨r, rfl⟩ := rd d hd
    exact ⟨_, _, rfl⟩
  obtain ⟨ys, rfl, my, srt⟩ := rows_sorted hL nd pm ez
  have s3 := Same.newA (o := .lst ((ys.map fun z => ((z.1, rowK z.2) : Addr × List Key)).map fun z => V.ref z.1)) hq
  have yl := srt.len
  rw [List.length_map, List.length_map] at yl
  exact k q ys _ (s2.trans s3) (by rw [upd_same, List.map_map]; rfl) (fun y hy => ⟨(s2.trans s3).stA (hz y (my y hy)).1, (hz y (my y hy)).2⟩) srt yl
/-! ### d[h, c] = d.get((h, c), ..) + .. -/
theorem cat_one {K : PySem.W.Frag} {H : Hp} {a u : Addr} {os : List Str} {x : Str} {Q : VK} (ha : SqT K H a (os.map V.str)) (hu : H u = some (.tup [.str x])) (l : os.length ≤ 10000) (k : ∀ z H1, Same H H1 → SqT K H1 z ((os ++ [x]).map V.str) → Q (.ref z) H1) : rCatA K (.ref a) (.ref u) H Q :=
  run_catT (F := nn H) (xs := os.map .str) (ys := [.str x]) (.tup ha (dfs_strs os)) (.tup (SqT.of hu) (.cons (.str _) .nil)) (by rw [List.length_map]; show os.length + 1 ≤ 100000; omega) fun z H1 s1 hz => by
    rw [show (os.map PyData.str ++ [.str x]) = (os ++ [x]).map PyData.str by rw [List.map_append]; rfl] at hz
    cases hz with
    | tup h r =>
      have e := strs_dps (dfs_dps r)
      subst e
      exact k _ _ s1 h
section
variable {K : PySem.W.Frag} {σ : L2.St} {H : Hp} {D : Ends} {i j l m : Nat} {td : Addr} {h c x : Str} {R : List Rw}
theorem put_ans {kvs : List (List Key × V)} (h2 : σ[i]? = some (some (.ref td))) (h3 : σ[j]? = some (some (.str h))) (h4 : σ[l]? = some (some (.str c))) (h5 : σ[m]? = some (some (.str x))) (e : H td = some (.dT kvs)) (hA : Ans (SqT K) H kvs R) (sz : R.length < 10000)
    (k : ∀ kvs' H', But td H H' → H' td = some (.dT kvs') → Ans (SqT K) H' kvs' (R ++ [(h, c, x)]) → D.nx σ H') :
    sDPut (tVar i) (tTup (tCons (tVar j) (tCons (tVar l) tNil))) (tOp (rCatA K) (tDGet2 (tVar i) (tTup (tCons (tVar j) (tCons (tVar l) tNil))) (tTup tNil)) (tTup (tCons (tVar m) tNil))) D σ H := by
  refine ⟨_, h2, td, rfl, .inr ⟨kvs, .inl e⟩, _, h3, _, h4, (by show 2 ≤ sizeLine; decide), fun t ht => ⟨(by show 0 ≤ sizeLine; decide), fun n hn => ?_⟩⟩
  have s1 := Same.newA (o := .tup [.str h, .str c]) ht
  have s2 := Same.newA (o := .tup []) hn
  have gt := s2 _ _ (upd_same (H := H) (a := t) (o := .tup [.str h, .str c]))
  have gn := upd_same (H := upd H t (.tup [.str h, .str c])) (a := n) (o := .tup [])
  have s12 := s1.trans s2
  have al := ansOf_len R h c
  revert gt gn s12
  generalize upd (upd H t (.tup [.str h, .str c])) n (.tup []) = G
  intro gt gn s12
  have eG := s12 _ _ e
  have fin : ∀ (a : Addr), SqT K G a ((ansOf R h c).map V.str) → tTup (tCons (tVar m) tNil) σ G fun y H1 => rCatA K (.ref a) y H1 fun z H2 => tVar i σ H2 fun d H3 => tTup (tCons (tVar j) (tCons (tVar l) tNil)) σ H3 fun y H4 => ∃ a H5, d = .ref a ∧ DPut H4 a y z H5 ∧ D.nx σ H5 := fun a ha => by
    refine ⟨_, h5, (by show 1 ≤ sizeLine; decide), fun u hu => ?_⟩
    have s3 := Same.newA (o := .tup [.str x]) hu
    refine cat_one (s3.stA ha) upd_same (by omega) fun z H1 s4 hz => ⟨_, h2, _, h3, _, h4, (by show 2 ≤ sizeLine; decide), fun t2 ht2 => ?_⟩
    have s5 := Same.newA (o := .tup [.str h, .str c]) ht2
    have sA := s3.trans (s4.trans s5)
    have e6 := sA _ _ eG
    refine ⟨td, _, rfl, DPut.t (k := hcK h c) e6 upd_same (lt5 (by have := hA.len; omega)), ?_⟩
    have sK : ∀ a xs, SqT K H a xs → SqT K (upd (upd H1 t2 (.tup [.str h, .str c])) td (.dT (putK kvs (hcK h c) (.ref z)))) a xs := fun a xs ha => (nodat_dT e6).st .updb ((s12.trans sA).stA ha)
    exact k _ _ ((But.same (s12.trans sA)).trans' .updb) upd_same (hA.put sK ((nodat_dT e6).st .updb (s5.stA hz)))
  rcases hA.at_ h c with ⟨e2, e1⟩ | ⟨_, a, e1, e2⟩
  · refine ⟨none, by rw [← e1]; exact DGet.t eG gt, ?_⟩
    exact fin n (by rw [e2]; exact SqT.of gn)
  · refine ⟨some (.ref a), by rw [← e1]; exact DGet.t eG gt, ?_⟩
    exact fin a (s12.stA e2)
abbrev lstA : Hp → Addr → List V → Prop := fun H a xs => H a = some (.lst xs)
theorem put_lst {kvs : List (List Key × V)} (h2 : σ[i]? = some (some (.ref td))) (h3 : σ[j]? = some (some (.str h))) (h4 : σ[l]? = some (some (.str c))) (h5 : σ[m]? = some (some (.str x))) (e : H td = some (.dT kvs)) (hA : Ans lstA H kvs R) (sz : R.length < 10000)
    (k : ∀ kvs' H', But td H H' → H' td = some (.dT kvs') → Ans lstA H' kvs' (R ++ [(h, c, x)]) → D.nx σ H') :
    sDPut (tVar i) (tTup (tCons (tVar j) (tCons (tVar l) tNil))) (tOp rCat (tDGet2 (tVar i) (tTup (tCons (tVar j) (tCons (tVar l) tNil))) (tLst tNil)) (tLst (tCons (tVar m) tNil))) D σ H := by
  refine ⟨_, h2, td, rfl, .inr ⟨kvs, .inl e⟩, _, h3, _, h4, (by show 2 ≤ sizeLine; decide), fun t ht => ⟨(by show 0 ≤ sizeLine; decide), fun n hn => ?_⟩⟩
  have s1 := Same.newA (o := .tup [.str h, .str c]) ht
  have s2 := Same.newA (o := .lst []) hn
  have gt := s2 _ _ (upd_same (H := H) (a := t) (o := .tup [.str h, .str c]))
  have gn := upd_same (H := upd H t (.tup [.str h, .str c])) (a := n) (o := .lst [])
  have s12 := s1.trans s2
  have al := ansOf_len R h c
  revert gt gn s12
  generalize upd (upd H t (.tup [.str h, .str c])) n (.lst []) = G
  intro gt gn s12
  have eG := s12 _ _ e
  have fin : ∀ (a : Addr), G a = some (.lst ((ansOf R h c).map V.str)) → tLst (tCons (tVar m) tNil) σ G fun y H1 => rCat (.ref a) y H1 fun z H2 => tVar i σ H2 fun d H3 => tTup (tCons (tVar j) (tCons (tVar l) tNil)) σ H3 fun y H4 => ∃ a H5, d = .ref a ∧ DPut H4 a y z H5 ∧ D.nx σ H5 := fun a ha => by
    refine ⟨_, h5, (by show 1 ≤ sizeLine; decide), fun u hu => ?_⟩
    have s3 := Same.newA (o := .lst [.str x]) hu
    refine ⟨a, u, _, _, rfl, rfl, s3 _ _ ha, upd_same, small5 (by rw [List.length_map]; show _ + 1 ≤ 100000; omega), fun z hz => ⟨_, h2, _, h3, _, h4, (by show 2 ≤ sizeLine; decide), fun t2 ht2 => ?_⟩⟩
    have s4 := Same.newA (o := .lst ((ansOf R h c).map V.str ++ [V.str x])) hz
    have s5 := Same.newA (o := .tup [.str h, .str c]) ht2
    have sA := s3.trans (s4.trans s5)
    have e6 := sA _ _ eG
    refine ⟨td, _, rfl, DPut.t (k := hcK h c) e6 upd_same (lt5 (by have := hA.len; omega)), ?_⟩
    have gz := s5 _ _ (upd_same (H := upd G u (.lst [.str x])) (a := z) (o := .lst ((ansOf R h c).map V.str ++ [V.str x])))
    have sK : ∀ a xs, lstA H a xs → lstA (upd (upd (upd (upd G u (.lst [.str x])) z (.lst ((ansOf R h c).map V.str ++ [V.str x]))) t2 (.tup [.str h, .str c])) td (.dT (putK kvs (hcK h c) (.ref z)))) a xs := fun a xs ha => by
      show _ = _
      rw [upd_ne (ne_of ha e (fun q => nomatch q))]
      exact (s12.trans sA) _ _ ha
    refine k _ _ ((But.same (s12.trans sA)).trans' .updb) upd_same (hA.put sK ?_)
    show _ = _
    rw [upd_ne (ne_of gz e6 (fun q => nomatch q)), List.map_append]; exact gz
  rcases hA.at_ h c with ⟨e2, e1⟩ | ⟨_, a, e1, e2⟩
  · refine ⟨none, by rw [← e1]; exact DGet.t eG gt, ?_⟩
    exact fin n (by rw [e2]; exact gn)
  · refine ⟨some (.ref a), by rw [← e1]; exact DGet.t eG gt, ?_⟩
    exact fin a (s12 _ _ e2)
theorem put_kn {kn : List (Key × V)} {ps : List (Str × Str)} (h2 : σ[i]? = some (some (.ref td))) (h3 : σ[j]? = some (some (.str h))) (h5 : σ[m]? = some (some (.str c))) (e : H td = some (.dK kn)) (hK : KnA K H kn ps) (sz : ps.length < 10000)
    (k : ∀ kn' H', But td H H' → H' td = some (.dK kn') → KnA K H' kn' (ps ++ [(h, c)]) → D.nx σ H') :
    sDPut (tVar i) (tVar j) (tOp (rCatA K) (tDGet2 (tVar i) (tVar j) (tTup tNil)) (tTup (tCons (tVar m) tNil))) D σ H := by
  refine ⟨_, h2, td, rfl, .inl ⟨kn, .inl e⟩, _, h3, (by show 0 ≤ sizeLine; decide), fun t ht => ?_⟩
  have s1 := Same.newA (o := .tup []) ht
  have eG := s1 _ _ e
  have al := callsOf_len ps h
  have fin : ∀ (a : Addr), SqT K (upd H t (.tup [])) a ((callsOf ps h).map V.str) → tTup (tCons (tVar m) tNil) σ (upd H t (.tup [])) fun y H1 => rCatA K (.ref a) y H1 fun z H2 => tVar i σ H2 fun d H3 => tVar j σ H3 fun y H4 => ∃ a H5, d = .ref a ∧ DPut H4 a y z H5 ∧ D.nx σ H5 := fun a ha => by
    refine ⟨_, h5, (by show 1 ≤ sizeLine; decide), fun u hu => ?_⟩
    have s3 := Same.newA (o := .tup [.str c]) hu
    refine cat_one (s3.stA ha) upd_same (by omega) fun z H1 s4 hz => ⟨_, h2, _, h3, td, _, rfl, DPut.k (k := .inr h) (s4 _ _ (s3 _ _ eG)) (lt5 (by have := hK.len; omega)), ?_⟩
    have e6 := s4 _ _ (s3 _ _ eG)
    exact k _ _ ((But.same (s1.trans (s3.trans s4))).trans' .updb) upd_same (hK.put (fun a xs ha => (nodat_dK e6).st .updb ((s1.trans (s3.trans s4)).stA ha)) ((nodat_dK e6).st .updb hz))
  refine ⟨_, DGet.k (k := .inr h) eG, ?_⟩
  rcases hK.at_ h with ⟨e2, e1⟩ | ⟨_, a, e1, e2⟩
  · rw [e1]; exact fin t (by rw [e2]; exact SqT.of upd_same)
  · rw [e1]; exact fin a (s1.stA e2)
end
def srvFs (rt td kd : Addr) : List (Str × V) := [("rows", .ref rt), ("_answers", .ref td), ("_known", .ref kd)]
/-- a Server of the rows S -/
structure SvParts (K : PySem.W.Frag) (C b dx rt td kd : Addr) (kvs : List (List Key × V)) (kn : List (Key × V)) (S : List Rw) (H : Hp) : Prop where
  obj : H b = some (.ins C dx (srvFs rt td kd))
  rows : Dp K H (.ref rt) (.tuple (S.map rowD))
  ansd : H td = some (.dT kvs)
  ans : Ans (SqT K) H kvs S
  knd : H kd = some (.dK kn)
  knw : KnF K H kn S
  knk : ∀ k ∈ kn.map (·.1), ∃ h, k = Sum.inr h
  up : Up rkR S
  good : ∀ r ∈ S, goodR r
  len : S.length < 301
def ServerAt (K : PySem.W.Frag) (C b : Addr) (S : List Rw) (H : Hp) : Prop := ∃ dx rt td kd kvs kn, SvParts K C b dx rt td kd kvs kn S H
theorem ServerAt.same {K : PySem.W.Frag} {C b : Addr} {S : List Rw} {H H' : Hp} (s : Same H H') (h : ServerAt K C b S H) : ServerAt K C b S H' := by
  obtain ⟨dx, rt, td, kd, kvs, kn, h⟩ := h
  exact ⟨dx, rt, td, kd, kvs, kn, s _ _ h.obj, dp_mono s h.rows, s _ _ h.ansd, h.ans.kept fun a xs e => s.stA e, s _ _ h.knd, h.knw.kept fun a xs e => s.stA e, h.knk, h.up, h.good, h.len⟩
end Ag

set_option Elab.async false
set_option linter.all false
set_option maxRecDepth 100000
set_option maxHeartbeats 4000000
set_option pp.maxSteps 400
namespace Ag
open PySem PySem.Spec PyProof.Rows L2
/-! ### _law_some, _law_mixed -/
def spSome (K : PySem.W.Frag) : Sp := fun vs H Q _ => ∃ (p c a : Addr) (xs : List V) (n mo : Nat), vs = [.ref p, .ref a, .int (mo : Nat)] ∧ Pen p c n H ∧ (SqL K H a xs ∨ SqT K H a xs) ∧ xs.length < 1000 ∧ mo < 1000 ∧ n + 200000 < 1000000000000 ∧
  ∀ (l : Addr) (ys : List V) H', (∀ y ∈ ys, y ∈ xs) → ys.length ≤ mo → ys.length ≤ xs.length → (xs.Nodup → ys.Nodup) → H l = none → H' l = some (.lst ys) → But p H H' → Pen p c (n + xs.length + 1) H' → Q (.ref l) H'
theorem cutV_to {xs : List V} {k : Nat} : cutV xs none (some (k : Int)) = xs.take (min k xs.length) := by
  unfold cutV
  rw [HT.sIx_none, HT.sIx_nat, List.drop_zero, Nat.sub_zero]
section
variable {P : Program} {w : World} {K : PySem.W.Frag} {mg : Str → Option Value} {base : Heap} (T : Txt w K mg)
theorem ok_some : FnOk P w K mg base CX0 3 T.a_law_some T.d_law_some ["pen", "some", "most"] (spSome K) := by
  have G_law_draw := ok_draw (P := P) (base := base) T
  have G_law_shuffled := ok_shuf (P := P) (base := base) T
  refine T.D_law_some.fn.ok sc_law_some (fun vs H Q E h => ?_) (fun cdv A outer s H vs Q E hr h => ?_)
  · obtain ⟨p, c, a, xs, n, mo, rfl, _⟩ := h; rfl
  · obtain ⟨p, c, a, xs, n, mo, rfl, P0, hs, hx, hmo, hn, k⟩ := h
    refine ⟨_, (pss_one (ps_ret (pe_slice sl_list (pe_call (G_law_shuffled) (hr.mono (by omega)) (by rfl) T.D_law_shuffled.mg T.D_law_shuffled.fn.kp T.D_law_shuffled.bd .nil pass0 (pa_cons (pv 0) (pa_cons (pv 1) pa_nil))) po_none (po_some (pe_call (G_law_draw) (hr.mono (by omega)) (by rfl) T.D_law_draw.mg T.D_law_draw.fn.kp T.D_law_draw.bd .nil pass0 (pa_cons (pv 0) (pa_cons (pe_op op_add (pe_callB (call_min2 rfl) (by rfl) T.b_min bt_min (pa_cons (pv 2) (pa_cons (pe_callB call_len (by rfl) T.b_len bt_len (pa_cons (pv 1) pa_nil)) pa_nil))) pe_int) pa_nil))))))), ?_⟩
    refine ⟨_, rfl, _, rfl, p, c, a, xs, n, rfl, P0, hs, by omega, by omega, fun l ys H1 pm hl e1 b1 P1 => ?_⟩
    have hs1 := hs.imp (P0.sl b1) (P0.st b1)
    refine ⟨_, rfl, _, rfl, _, rfl, _, _, rfl, hs1.elim (fun z => .inl ⟨_, z, rfl⟩) (fun z => .inr ⟨_, z, rfl⟩), mo, xs.length, rfl, _, _, rfl, rfl, p, c, _, _, rfl, P1, by omega, by omega, by omega, fun d H2 d0 d1 b2 P2 => ⟨_, rfl, ?_⟩⟩
    obtain ⟨m, rfl⟩ : ∃ m : Nat, d = m := ⟨d.toNat, by omega⟩
    refine ⟨l, ys, rfl, SqL.of (b2 _ _ (P1.ne e1 (fun _ z => nomatch z)) e1), fun q hq => ?_⟩
    rw [cutV_to]
    have s3 := Same.newA (o := .lst (ys.take (min m ys.length))) hq
    exact k q _ _ (fun y hy => pm.mem_iff.mp (List.mem_of_mem_take hy)) (by rw [List.length_take]; omega) (by rw [List.length_take]; omega) (fun nd => List.Nodup.sublist (List.take_sublist _ _) (pm.nodup_iff.mpr nd)) ((b1.trans b2).free hq (P2.ne_p hq)) upd_same (b1.trans (b2.trans (But.of s3))) (P2.same s3)
end
/-! ### the law's server -/
def lsKV (rl ad pl : Addr) : List (Key × V) := [(ck "rows", .ref rl), (ck "answers", .ref ad), (ck "places", .ref pl)]
theorem lk1 : ¬ ck "rows" = ck "answers" := by decide +kernel
theorem lk2 : ¬ ck "rows" = ck "places" := by decide +kernel
theorem lk3 : ¬ ck "answers" = ck "places" := by decide +kernel
theorem lt1 : ¬ Str.ofString "rows" = Str.ofString "answers" := by decide +kernel
theorem lt2 : ¬ Str.ofString "rows" = Str.ofString "places" := by decide +kernel
theorem lt3 : ¬ Str.ofString "answers" = Str.ofString "places" := by decide +kernel
theorem merge_ls {rl ad pl : Addr} : mergeK [] [(ck "rows", V.ref rl), (ck "answers", .ref ad), (ck "places", .ref pl)] = lsKV rl ad pl := by
  unfold mergeK
  simp [putK, lsKV, ck, lt1, lt2, lt3]
section
variable {rl ad pl : Addr} {H : Hp} {m : Addr}
theorem ls_rows (h : H m = some (.dK (lsKV rl ad pl))) : DGet H m (.str "rows") (some (.ref rl)) := by
  have q := DGet.k (k := ck "rows") h
  rw [show valV (lsKV rl ad pl) (ck "rows") = some (.ref rl) from valV_pos rfl] at q; exact q
theorem ls_answers (h : H m = some (.dK (lsKV rl ad pl))) : DGet H m (.str "answers") (some (.ref ad)) := by
  have q := DGet.k (k := ck "answers") h
  rw [show valV (lsKV rl ad pl) (ck "answers") = some (.ref ad) by unfold lsKV; rw [valV_neg lk1]; exact valV_pos rfl] at q; exact q
theorem ls_places (h : H m = some (.dK (lsKV rl ad pl))) : DGet H m (.str "places") (some (.ref pl)) := by
  have q := DGet.k (k := ck "places") h
  rw [show valV (lsKV rl ad pl) (ck "places") = some (.ref pl) by unfold lsKV; rw [valV_neg lk2, valV_neg lk3]; exact valV_pos rfl] at q; exact q
end
structure LsParts (K : PySem.W.Frag) (m rl ad pl : Addr) (ys : List (Addr × Rw)) (kvs : List (List Key × V)) (ps : List Str) (S : List Rw) (H : Hp) : Prop where
  dict : H m = some (.dK (lsKV rl ad pl))
  rows : H rl = some (.lst (ys.map fun z => V.ref z.1))
  good : RowsAt K H ys
  snd : ys.map Prod.snd = S
  up : Up rkR S
  ansd : H ad = some (.dT kvs)
  ans : Ans lstA H kvs S
  plc : H pl = some (.lst (ps.map V.str))
  pup : Up rkS ps
  pmem : ∀ x, x ∈ ps ↔ ∃ r ∈ S, x = r.1 ∨ x = r.2.2
  len : S.length < 301
def LsAt (K : PySem.W.Frag) (m : Addr) (S : List Rw) (H : Hp) : Prop := ∃ rl ad pl ys kvs ps, LsParts K m rl ad pl ys kvs ps S H
theorem LsAt.same {K : PySem.W.Frag} {m : Addr} {S : List Rw} {H H' : Hp} (s : Same H H') (h : LsAt K m S H) : LsAt K m S H' := by
  obtain ⟨rl, ad, pl, ys, kvs, ps, h⟩ := h
  exact ⟨rl, ad, pl, ys, kvs, ps, ⟨s _ _ h.dict, s _ _ h.rows, h.good.same s, h.snd, h.up, s _ _ h.ansd, h.ans.kept fun a xs e => s _ _ e, s _ _ h.plc, h.pup, h.pmem, h.len⟩⟩
theorem LsAt.but {K : PySem.W.Frag} {m p c : Addr} {n : Nat} {S : List Rw} {H H' : Hp} (P : Pen p c n H) (b : But p H H') (h : LsAt K m S H) : LsAt K m S H' := by
  obtain ⟨rl, ad, pl, ys, kvs, ps, h⟩ := h
  have nm : m ≠ p := fun z => by
    subst z
    obtain ⟨ce, a', dd, k, f, hp, _⟩ := P
    have z := HO.dK.inj (Option.some.inj (h.dict.symm.trans hp))
    have := congrArg List.length z
    unfold lsKV penKV at this
    cases this
  exact ⟨rl, ad, pl, ys, kvs, ps, ⟨b _ _ nm h.dict, b _ _ (P.ne h.rows (fun _ z => nomatch z)) h.rows, fun y hy => ⟨P.st b (h.good y hy).1, (h.good y hy).2⟩, h.snd, h.up, b _ _ (P.ne h.ansd (fun _ z => nomatch z)) h.ansd, h.ans.kept fun a xs e => b _ _ (P.ne e (fun _ z => nomatch z)) e, b _ _ (P.ne h.plc (fun _ z => nomatch z)) h.plc, h.pup, h.pmem, h.len⟩⟩
theorem LsAt.goodR {K : PySem.W.Frag} {m : Addr} {S : List Rw} {H : Hp} (h : LsAt K m S H) : ∀ r ∈ S, goodR r := fun r hr => by
  obtain ⟨rl, ad, pl, ys, kvs, ps, h⟩ := h
  rw [← h.snd] at hr
  obtain ⟨y, hy, rfl⟩ := List.mem_map.mp hr
  exact (h.good y hy).2
end Ag

set_option Elab.async false
set_option linter.all false
set_option maxRecDepth 100000
set_option maxHeartbeats 4000000
set_option pp.maxSteps 400
namespace Ag
open PySem PySem.Spec PyProof.Rows L2
def spServerOf (K : PySem.W.Frag) : Sp := fun vs H Q _ => ∃ (ra : Addr) (zs : List (Addr × Rw)), vs = [.ref ra] ∧ SqL K H ra (zs.map fun z => V.ref z.1) ∧ RowsAt K H zs ∧ zs.length < 301 ∧
  ∀ m S H', Same H H' → Srt (zs.map Prod.snd) S → LsAt K m S H' → Q (.ref m) H'
section
variable {P : Program} {w : World} {K : PySem.W.Frag} {mg : Str → Option Value} {base : Heap} (T : Txt w K mg)
theorem ok_server_of : FnOk P w K mg base CX0 1 T.a_law_server_of T.d_law_server_of ["rows"] (spServerOf K) := by
  refine T.D_law_server_of.fn.ok sc_law_server_of (fun vs H Q E h => ?_) (fun cdv A outer s H vs Q E hr h => ?_)
  · obtain ⟨ra, zs, rfl, _⟩ := h; rfl
  · obtain ⟨ra, zs, rfl, hra, hz, zl, k⟩ := h
    refine ⟨_, (pss_cons (ps_asg (pe_tup (pa_cons pe_dnewT (pa_cons (pe_lst pa_nil) pa_nil))) (pg_tup rfl (pgs_cons (pg_name (i := 1) sc_law_server_of.nd rfl (by first | exact Or.inl rfl | exact Or.inr rfl)) (pgs_cons (pg_name (i := 2) sc_law_server_of.nd rfl (by first | exact Or.inl rfl | exact Or.inr rfl)) pgs_nil))))
      (pss_cons (ps_for PassesOwn.never rfl (pi_list (pe_callB (cr_sortQ rfl hr.units) (by rfl) T.b_sorted bt_sorted (pa_cons (pe_callTy (cr_setQ rfl (Nat.lt_of_le_of_lt (Nat.add_le_add_left (show 3 ≤ 64 by decide) _) hr.units)) (by rfl) T.b_set bt_set (pa_cons (pv 0) pa_nil)) pa_nil))) (pg_tup rfl (pgs_cons (pg_name (i := 3) sc_law_server_of.nd rfl (by first | exact Or.inl rfl | exact Or.inr rfl)) (pgs_cons (pg_name (i := 4) sc_law_server_of.nd rfl (by first | exact Or.inl rfl | exact Or.inr rfl)) (pgs_cons (pg_name (i := 5) sc_law_server_of.nd rfl (by first | exact Or.inl rfl | exact Or.inr rfl)) pgs_nil)))) (pss_cons (ps_dput (hu_of hr) (pv 1) (pe_tup (pa_cons (pv 3) (pa_cons (pv 4) pa_nil))) (pe_op op_cat (pe_dget2 (hu_of hr) (pv 1) (pe_tup (pa_cons (pv 3) (pa_cons (pv 4) pa_nil))) (pe_lst pa_nil) ⟨rfl, rfl, rfl, rfl⟩) (pe_lst (pa_cons (pv 5) pa_nil))) rfl)
      (pss_one (ps_set (i := 2) sc_law_server_of.nd rfl (by first | exact Or.inl rfl | exact Or.inr rfl) (pe_op op_cat (pv 2) (pe_lc (own := [("one", 6)]) rfl sc_law_server_of.nd (pi_list (pe_lst (pa_cons (pv 3) (pa_cons (pv 5) pa_nil)))) (blkOk_by (own := [("one", 6)]) (N := ["rows", "answers", "places", "place", "call", "other", "one"]) (sc := defScope s_law_server_of) (by decide +kernel)) (fun _ _ _ _ _ => (pg_name (i := 6) sc_law_server_of.nd rfl (by first | exact Or.inl rfl | exact Or.inr rfl))) (fun _ _ _ _ _ => (pts_one (pt_cmpR (r := rIn K true) op_notIn_seq (pv 6) (pv 2) (by rfl)))) (fun _ _ _ _ _ => (pv 6))))))))
      (pss_one (ps_ret (pe_disp (pps_cons pe_str (pe_callB (cr_sortQ rfl hr.units) (by rfl) T.b_sorted bt_sorted (pa_cons (pe_callTy (cr_setQ rfl (Nat.lt_of_le_of_lt (Nat.add_le_add_left (show 3 ≤ 64 by decide) _) hr.units)) (by rfl) T.b_set bt_set (pa_cons (pv 0) pa_nil)) pa_nil)) (pps_cons pe_str (pv 1) (pps_cons pe_str (pe_callB (cr_sortSetS rfl) (by rfl) T.b_sorted bt_sorted (pa_cons (pe_callTy (cr_setS rfl) (by rfl) T.b_set bt_set (pa_cons (pv 2) pa_nil)) pa_nil)) pps_nil))) (by rfl) (by rfl) (fun z => by cases z) (by decide)))))), ?_⟩
    intro td htd
    refine ⟨(by show 0 ≤ sizeLine; decide), fun pl hpl => ⟨(by show 2 ≤ sizeLine; decide), fun t0 ht0 => ⟨t0, _, rfl, .of upd_same, rfl, _, _, rfl, _, _, rfl, rfl, ?_⟩⟩⟩
    have s1 := Same.newA (o := .dT []) htd
    have s2 := Same.newA (o := .lst []) hpl
    have s3 := Same.newA (o := .tup [.ref td, .ref pl]) ht0
    have etd := (s2.trans s3) _ _ (upd_same (H := H) (a := td) (o := .dT []))
    have epl := s3 _ _ (upd_same (H := upd H td (.dT [])) (a := pl) (o := .lst []))
    have s12 := s1.trans (s2.trans s3)
    revert etd epl s12
    generalize upd (upd (upd H td (.dT [])) pl (.lst [])) t0 (.tup [.ref td, .ref pl]) = H1
    intro etd epl s12
    clear s1 s2 s3 hpl ht0
    have hz1 := hz.same s12
    refine run_sortset (K := K) (P := P) (w := w) (i := 0) rfl (.inl (s12.slA hra)) hz1 zl fun q ys G sG eq hy srt yl => ⟨q, rfl, ⟨_, SqL.of eq⟩, for_list (K := K) (a := q) (xs := ys.map fun z => V.ref z.1) (fun i σ' H' => ∃ (o3 o4 o5 : Option V) (pl' : Addr) (kvs : List (List Key × V)) (ps : List Str), σ' = [some (.ref ra), some (.ref td), some (.ref pl'), o3, o4, o5, none] ∧ But td G H' ∧ H' td = some (.dT kvs) ∧ Ans lstA H' kvs ((ys.map Prod.snd).take i) ∧ H' pl' = some (.lst (ps.map V.str)) ∧ (∀ x, x ∈ ps ↔ ∃ r ∈ (ys.map Prod.snd).take i, x = r.1 ∨ x = r.2.2) ∧ ps.length ≤ 2 * i)
      ⟨none, none, none, pl, [], [], rfl, But.of (Same.refl _), sG _ _ etd, Ans.nil, sG _ _ epl, (fun x => ⟨fun h => (nomatch h), fun ⟨r, hr, _⟩ => nomatch hr⟩), Nat.le_refl _⟩ (fun i σ' H' _ ⟨_, _, _, _, _, _, _, t, _⟩ => SqL.of (t _ _ (ne_of eq (sG _ _ etd) (fun z => nomatch z)) eq)) ?_ ?_⟩
    · rintro i v σ' H2 hv ⟨o3, o4, o5, pl', kvs, ps, rfl, t2, e2, a2, ep, al, pn⟩
      rw [List.getElem?_map] at hv
      cases e : ys[i]? with
      | none => rw [e] at hv; cases hv
      | some y =>
        rw [e] at hv
        cases hv
        have li : i < ys.length := (List.getElem?_eq_some_iff.mp e).1
        obtain ⟨hy1, gy⟩ := hy y (List.mem_of_getElem? e)
        have hy2 := (nodat_dT (sG _ _ etd)).st t2 hy1
        obtain ⟨u, h, c, x⟩ := y
        refine ⟨u, _, rfl, hy2, rfl, _, _, rfl, _, _, rfl, _, _, rfl, rfl, ?_⟩
        refine put_lst (i := 1) (j := 3) (l := 4) (m := 5) rfl rfl rfl rfl e2 a2 (by rw [List.length_take, List.length_map]; omega) fun kvs' H3 t3 e3 a3 => ?_
        have ep3 : H3 pl' = some (.lst (ps.map V.str)) := t3 _ _ (ne_of ep e2 (fun z => nomatch z)) ep
        dsimp only [tNext]
        refine ⟨_, rfl, _, rfl, _, rfl, (by show 2 ≤ sizeLine; decide), fun l hl => ⟨l, rfl, ⟨_, SqL.of upd_same⟩, fun D hD => lc_list (K := K) (a := l) (xs := [V.str h, V.str x]) (fun j H' => ∃ acc : List Str, H' D = some (.lst (acc.map V.str)) ∧ acc = ([h, x].take j).filter (fun z => !decide (z ∈ ps)) ∧ But D (upd H3 l (.lst [V.str h, V.str x])) H') ⟨[], upd_same, rfl, But.same (Same.newA hD)⟩ (fun j H' _ ⟨_, _, _, t⟩ => SqL.of (t _ _ (fun z => by rw [← z, upd_same] at hD; cases hD) upd_same)) ?_ ?_⟩⟩
        · rintro j v H4 hj ⟨acc, g1, g2, t4⟩
          obtain ⟨z, hz2, rfl⟩ : ∃ z, [h, x][j]? = some z ∧ v = V.str z := by
            match j, hj with
            | 0, hj => cases hj; exact ⟨h, rfl, rfl⟩
            | 1, hj => cases hj; exact ⟨x, rfl, rfl⟩
          have tk : [h, x].take (j + 1) = [h, x].take j ++ [z] := by rw [List.take_succ, hz2]; rfl
          have npl : pl' ≠ D := fun q => by rw [← q, upd_ne (fun q2 => by rw [q2] at ep3; rw [hl] at ep3; cases ep3), ep3] at hD; cases hD
          have ep4 : H4 pl' = some (.lst (ps.map V.str)) := t4 _ _ npl (by rw [upd_ne (fun q2 => by rw [q2] at ep3; rw [hl] at ep3; cases ep3)]; exact ep3)
          refine ⟨rfl, ?_⟩
          refine (et_test (ed_notInSeq (F := nn H4) (x := z) (xs := ps) (ed_var (i := 6) rfl (.str _)) (ed_var (i := 2) rfl (dp_df (.lst (SqL.of ep4) (dps_strs ps)))) (.inr rfl))) H4 (Same.refl _) _ fun H5 s5 => ?_
          have g5 := s5 _ _ g1
          have t5 := t4.trans' (But.same s5)
          refine ite2 (fun hb => ?_) fun hb => ?_
          · refine ⟨_, rfl, _, g5, lt5 (by rw [List.length_map, g2]; exact Nat.lt_of_le_of_lt (List.length_filter_le _ _) (by rw [List.length_take]; exact Nat.lt_of_le_of_lt (Nat.min_le_right _ _) (by show 2 < 100000; decide))), acc ++ [z], by rw [upd_same, List.map_append]; rfl, ?_, t5.trans' .updb⟩
            rw [tk, List.filter_append, ← g2, show List.filter (fun z => !decide (z ∈ ps)) [z] = [z] from (List.filter_cons).trans (if_pos hb)]
          · refine ⟨acc, g5, ?_, t5⟩
            rw [tk, List.filter_append, ← g2, show List.filter (fun z => !decide (z ∈ ps)) [z] = [] from (List.filter_cons).trans (if_neg hb), List.append_nil]
        · rintro H4 ⟨acc, g1, g2, t4⟩
          have npl0 : pl' ≠ l := fun q2 => by rw [q2, hl] at ep3; cases ep3
          have npl : pl' ≠ D := fun q => by rw [← q, upd_ne npl0, ep3] at hD; cases hD
          have ep4 : H4 pl' = some (.lst (ps.map V.str)) := t4 _ _ npl (by rw [upd_ne npl0]; exact ep3)
          have sl := Same.newA (o := .lst [V.str h, V.str x]) hl
          have sK : ∀ a o, H3 a = some o → H4 a = some o := fun a o z => t4 a o (ne_of_none (sl _ _ z) hD) (sl _ _ z)
          have al2 : acc.length ≤ 2 := by rw [g2]; exact Nat.le_trans (List.length_filter_le _ _) (by rw [List.length_take]; exact Nat.min_le_right _ _)
          refine ⟨pl', D, _, _, rfl, rfl, ep4, g1, small5 (by rw [List.length_map, List.length_map]; omega), fun q2 hq2 => ?_⟩
          have s5 := Same.newA (o := .lst (ps.map V.str ++ acc.map V.str)) hq2
          have ek : (ys.map Prod.snd).take (i + 1) = (ys.map Prod.snd).take i ++ [(h, c, x)] := by rw [List.take_succ, List.getElem?_map, e]; rfl
          have mem : ∀ z, z ∈ acc ↔ (z = h ∨ z = x) ∧ z ∉ ps := fun z => by
            rw [g2, List.mem_filter]
            show z ∈ [h, x] ∧ _ ↔ _
            rw [List.mem_cons, List.mem_singleton, Bool.not_eq_true', decide_eq_false_iff_not]
          have cov2 : ∀ z, z = h ∨ z = x → z ∈ ps ++ acc := fun z hz => by
            by_cases q : z ∈ ps
            · exact List.mem_append_left _ q
            · exact List.mem_append_right _ ((mem z).mpr ⟨hz, q⟩)
          refine ⟨_, _, _, q2, kvs', ps ++ acc, rfl, (t2.trans' t3).trans' (fun a o n z => s5 _ _ (sK a o z)), s5 _ _ (sK _ _ e3), by rw [ek]; exact a3.kept fun a xs z => s5 _ _ (sK _ _ z), by rw [upd_same, List.map_append], fun z => ?_, by rw [List.length_append]; omega⟩
          rw [ek, List.mem_append, mem]
          constructor
          · rintro (hz | ⟨hz, _⟩)
            · obtain ⟨r, h1, h2⟩ := (al z).mp hz
              exact ⟨r, List.mem_append_left _ h1, h2⟩
            · exact ⟨(h, c, x), List.mem_append_right _ List.mem_cons_self, hz⟩
          · rintro ⟨r, h1, h2⟩
            rcases List.mem_append.mp h1 with h1 | h1
            · exact .inl ((al z).mpr ⟨r, h1, h2⟩)
            · rw [List.mem_singleton.mp h1] at h2
              exact List.mem_append.mp (cov2 z h2) |>.imp id fun q => (mem z).mp q
    · rintro σ' H2 ⟨o3, o4, o5, pl', kvs, ps, rfl, t2, e2, a2, ep, al, pn⟩
      rw [List.length_map] at a2 al pn
      rw [← List.length_map (f := Prod.snd), List.take_length] at a2
      rw [← List.length_map (f := Prod.snd), List.take_length] at al
      have fH : H td = none := htd
      have s02 : Same H H2 := fun a o z => t2 a o (ne_of_none z fH) (sG _ _ (s12 _ _ z))
      -- what is given
      intro m hm
      have sm := Same.newA (o := .dK []) hm
      have em : (upd H2 m (.dK [])) m = some (.dK []) := upd_same
      have s03 := s02.trans sm
      refine run_sortset (K := K) (P := P) (w := w) (i := 0) rfl (.inl (s03.slA hra)) (hz.same s03) zl fun q2 ws G2 sG2 eq2 hw srt2 wl => ?_
      have ep3 := sG2 _ _ (sm _ _ ep)
      refine ⟨_, rfl, _, rfl, pl', ps, rfl, SqL.of ep3, by omega, fun st hst => ?_⟩
      have s4 := Same.newA (o := StrSet P w st ps) hst
      refine ⟨st, ps, rfl, upd_same, fun us ul usrt und umem hul => ?_⟩
      have s5 := Same.newA (o := .lst (us.map V.str)) hul
      have sA := s4.trans s5
      have sB := sG2.trans sA
      have ulen : us.length ≤ ps.length := nodup_len us ps und fun z hz => (umem z).mp hz
      have gul := upd_same (H := upd G2 st (StrSet P w st ps)) (a := ul) (o := .lst (us.map V.str))
      refine ⟨sB _ _ em, [(ck "rows", V.ref q2), (ck "answers", .ref td), (ck "places", .ref ul)], rfl, (by decide : 3 ≤ 15), ?_⟩
      rw [merge_ls]
      have keep : ∀ a o, a ≠ m → (upd H2 m (.dK [])) a = some o → (upd (upd (upd G2 st (StrSet P w st ps)) ul (.lst (us.map V.str))) m (.dK (lsKV q2 td ul))) a = some o := fun a o n z => by rw [upd_ne n]; exact sB _ _ z
      have keep2 : ∀ a o, H2 a = some o → (upd (upd (upd G2 st (StrSet P w st ps)) ul (.lst (us.map V.str))) m (.dK (lsKV q2 td ul))) a = some o := fun a o z => keep a o (ne_of_none z hm) (sm _ _ z)
      have nm : ∀ a xs, (upd (upd G2 st (StrSet P w st ps)) ul (.lst (us.map V.str))) a = some (.lst xs) → a ≠ m := fun a xs z => ne_of z (sB _ _ em) (fun q => nomatch q)
      have gq2 : (upd (upd G2 st (StrSet P w st ps)) ul (.lst (us.map V.str))) q2 = some (.lst (ws.map fun z => V.ref z.1)) := sA _ _ eq2
      refine k m _ _ (fun a o z => keep2 _ _ (s02 _ _ z)) srt ⟨q2, td, ul, ws, kvs, us, ⟨upd_same, by rw [upd_ne (nm _ _ gq2)]; exact gq2, fun y hy => ⟨(nodat_dK (sB _ _ em)).st .updb (sA.stA (hw y hy).1), (hw y hy).2⟩, srt2.uniq srt, srt.1, keep2 _ _ e2, (a2.kept fun a xs z => keep2 _ _ z), by rw [upd_ne (nm _ _ gul)]; exact gul, up_sortedS usrt und, fun x => (umem x).trans (al x), by rw [List.length_map]; omega⟩⟩
end
end Ag

set_option Elab.async false
set_option linter.all false
set_option maxRecDepth 100000
set_option maxHeartbeats 1000000
/-! What is a list or a tuple: asked for its kind, walked, sliced. -/
namespace Ag
open PySem PySem.Spec PyProof.Rows L2
def iVE (K : PySem.W.Frag) (i : Nat) : TI := fun σ H R => ∃ a, σ[i]? = some (some (.ref a)) ∧ (((∃ xs, SqL K H a xs) ∧ R (Itl K a) H) ∨ ((∃ xs, SqT K H a xs) ∧ R (Itt K a) H))
theorem pi_ve {X : Cx} {tg e : Expr} {i : Nat} (h : PE X e (tVar i)) : PI X tg e (iVE X.K i) := ⟨fun pins s σ H R I ⟨a, h1, h2⟩ => by
  rcases h2 with ⟨l, r⟩ | ⟨l, r⟩
  · exact (pi_list h).run pins s σ H R I ⟨_, h1, a, rfl, l, r⟩
  · exact (pi_tup h).run pins s σ H R I ⟨_, h1, a, rfl, l, r⟩⟩
section
variable {K : PySem.W.Frag} {σ : L2.St} {F : Addr → Prop} {H : Hp} {te ta : TE} {d : PyData} {ds : List PyData}
theorem ei_ve {i : Nat} {v : V} (h : σ[i]? = some (some v)) (hd : Df K F H v d) (he : d = .list ds ∨ d = .tuple ds) : EI K (iVE K i) σ F H ds := fun H1 s R q => by
  have hd1 := df_mono (G := Fr F H1) s (fun _ z => .inl z) hd
  rcases he with rfl | rfl
  · cases hd1 with
    | lst hs r => exact ⟨_, h, .inl ⟨⟨_, hs.imp (fun z => z.1) id⟩, q _ H1 (Same.refl _) (wk_list hs r)⟩⟩
  · cases hd1 with
    | tup hs r => exact ⟨_, h, .inr ⟨⟨_, hs⟩, q _ H1 (Same.refl _) (wk_tup hs r)⟩⟩
/-- isinstance(x, (tuple, list)) -/
theorem ed_isiTL (ha : ED K ta σ F H d) : ED K (tCB (rIsiT K) (tCons ta (tCons (tTup (tCons (tC (.ty "tuple")) (tCons (tC (.ty "list")) tNil))) tNil))) σ F H (.bool (isiB "tuple" d || isiB "list" d)) := fun H1 s Q q =>
  ha H1 s _ fun x H2 s2 hx => ⟨(by show 2 ≤ sizeLine; decide), fun p hp => by
    have hx3 := df_mono (G := Fr F H1) (Same.newA (o := .tup [.ty "tuple", .ty "list"]) hp) (fun _ z => z) hx
    refine ⟨x, p, _, .type (tyName d), [.type "tuple", .type "list"], _, rfl, upd_same, .cons (.ty _) (.cons (.ty _) .nil), tyx_of (df_dp hx3), ?_, q _ _ (s2.trans (Same.newA hp)) (.bl _)⟩
    have h1 := kit_all (T := "tuple") (.inr (.inl rfl)) (df_dp hx3)
    have h2 := kit_all (T := "list") (.inr (.inr (.inl rfl))) (df_dp hx3)
    unfold PySem.W.kitAny
    rw [h1]
    cases isiB "tuple" d with
    | true => rfl
    | false =>
      unfold PySem.W.kitAny
      rw [h2]
      cases isiB "list" d <;> rfl⟩
end
end Ag

set_option Elab.async false
set_option linter.all false
set_option maxRecDepth 100000
set_option maxHeartbeats 1000000
set_option pp.maxSteps 300
/-! A bool, a number handed back. -/
namespace Ag
open PySem PySem.Spec PyProof.Rows L2
section
variable {K : PySem.W.Frag} {σ : L2.St} {F : Addr → Prop} {H : Hp} {te : TE} {D : Ends} {ds : List PyData}
theorem s_retB {b c : Bool} (h : ED K te σ F H (.bool b)) (e : b = c) (k : ∀ H1, Same H H1 → D.rt (.bl c) H1) : tRet te D σ H := s_ret h fun v H1 s1 hv => by
  cases hv; subst e; exact k H1 s1
theorem s_retI {b c : Int} (h : ED K te σ F H (.int b)) (e : b = c) (k : ∀ H1, Same H H1 → D.rt (.int c) H1) : tRet te D σ H := s_ret h fun v H1 s1 hv => by
  cases hv; subst e; exact k H1 s1
theorem s_for {wi : TI} {g : TG} {tb : TS} (I : Nat → L2.St → Hp → Prop) (hi : EI K wi σ F H ds) (h0 : ∀ H1, Same H H1 → I 0 σ H1)
    (step : ∀ i σ1 H1, Same H H1 → I i σ1 H1 → ∀ d v H2, ds[i]? = some d → Same H1 H2 → Df K (Fr F H) H2 v d → g v σ1 H2 fun σ2 H3 => tb { D with nx := fun σ3 H4 => Same H1 H4 ∧ I (i + 1) σ3 H4, ct := fun σ3 H4 => Same H1 H4 ∧ I (i + 1) σ3 H4, bk := D.nx } σ2 H3)
    (fin : ∀ σ1 H1, Same H H1 → I ds.length σ1 H1 → D.nx σ1 H1) : tFor wi g tb D σ H := hi H (Same.refl _) _ fun J H2 s2 W => by
  refine ⟨fun i m σ1 H1 => m = ds.length - i ∧ i ≤ ds.length ∧ Same H2 H1 ∧ I i σ1 H1, ⟨_, rfl, Nat.zero_le _, Same.refl _, h0 _ s2⟩, ?_⟩
  rintro i m σ1 H1 ⟨rfl, hl, s3, hI⟩
  by_cases lt : i < ds.length
  · refine .inr ⟨W.go i H1 s3.F lt, _, fun σ3 H4 (z : Same H1 H4 ∧ I (i + 1) σ3 H4) => ⟨ds.length - (i + 1), by omega, rfl, lt, s3.trans z.1, z.2⟩, fun x H3 y => ?_⟩
    obtain ⟨d, hd, s4, hx⟩ := W.yld i H1 x H3 lt s3.F y
    exact step i σ1 H1 (s2.trans s3) hI d x H3 hd s4 (df_mono (Same.refl _) (fun a z => z.1) hx)
  · have : i = ds.length := by omega
    subst this
    exact .inl ⟨W.stop H1 s3.F, fin _ _ (s2.trans s3) hI⟩
end
end Ag

set_option Elab.async false
set_option linter.all false
set_option maxRecDepth 100000
set_option maxHeartbeats 2000000
set_option pp.maxSteps 300
/-! enumerate of a tuple. -/
namespace Ag
open PySem PySem.Spec PyProof.Rows L2
set_option maxHeartbeats 4000000 in
theorem enum_newB {v : Value} {o : Obj} {Ok : Heap → Prop} (B : Begins v o Ok) :
    Meets (Builtin.«enumerate.__new__» ⟨[.type "enumerate", v], []⟩) (fun _ R z => Ok z.heap ∧
      R (.ok (.ret (.ref (z.heap.push o).objs.size))) { z with heap := (z.heap.push o).push { cls := .type "enumerate", data := .fields #[.none, .bool false, .ref z.heap.objs.size, rawInt 0, .none, .none] } }) :=
  .of_wp fun prog w A R z hz => by
    obtain ⟨hp, gn, dr, tk, sy⟩ := z; obtain ⟨hok, hz⟩ := hz; have hsub := sub_enumerate
    have itr : ∀ {A' : Around} {E : Value → Shared → Prop} {Q : Value → Shared → Prop}, Q (.ref hp.objs.size) ⟨hp.push o, gn, dr, tk, sy⟩ → wpAny (model prog w) A' (pyIter v) Q E ⟨hp, gn, dr, tk, sy⟩ := fun q => B.iter prog w _ _ ⟨hp, gn, dr, tk, sy⟩ _ hok q
    wp_walk using itr
    refine wpAny_stack_any fun stk => wpAny_pure ?_
    split
    · rename_i c _ _ _ _ _; cases (c == Value.type "enumerate") <;> (wp_walk using itr; exact ⟨_, rfl, hz⟩)
    · wp_walk using itr; exact ⟨_, rfl, hz⟩
section
variable {prog : Program} {w : World} {A : Around} {E : Value → Shared → Prop} {z : Shared}
/-- enumerate(t) -/
theorem enum_tup {t : Addr} {its : Array Value} {Q : Value → Shared → Prop} (ht : z.heap.IsTuple t its)
    (k : ∀ h', IsEnum h' (z.heap.objs.size + 1) z.heap.objs.size 0 .none → h'.IsTupleIter z.heap.objs.size t 0 → (∀ b o, z.heap.get? b = some o → h'.get? b = some o) → Q (.ref (z.heap.objs.size + 1)) { z with heap := h' }) :
    wpAny (model prog w) A (call (.type "enumerate") [.ref t]) Q E z := by
  have hn : (z.heap.push { cls := .type "tuple_iterator", data := .fields #[.ref t, .int 0 0] }).objs.size = z.heap.objs.size + 1 := Heap.size_push ..
  refine callType_new F.called_enumerate (by decide) (F.typeCall_enumerate_1 _) (F.newCall_enumerate_1 _) (fun o => F.args_object_init_2 o _) F.entry_enumerate_new (enum_newB (begins_tuple t its)) ⟨ht, ?_⟩
  show _ ∧ _; rw [hn]
  have en : IsEnum ((z.heap.push { cls := .type "tuple_iterator", data := .fields #[.ref t, .int 0 0] }).push { cls := .type "enumerate", data := .fields #[.none, .bool false, .ref z.heap.objs.size, rawInt 0, .none, .none] }) (z.heap.objs.size + 1) z.heap.objs.size 0 .none := by
    have q := Heap.get?_push_size (z.heap.push { cls := .type "tuple_iterator", data := .fields #[.ref t, .int 0 0] }) (o := { cls := .type "enumerate", data := .fields #[.none, .bool false, .ref z.heap.objs.size, rawInt 0, .none, .none] }) rfl
    rw [hn] at q; exact q
  exact ⟨⟨_, en, rfl⟩, k _ en ⟨_, Heap.get?_push_of_some _ (Heap.get?_push_size _ rfl), rfl, rfl⟩ fun b o q => Heap.get?_push_of_some _ (Heap.get?_push_of_some _ q)⟩
end
/-- the tuple at a, each item in a new pair with its place -/
def IteT (K : PySem.W.Frag) (a : Addr) : It :=
  ⟨fun i H => ∃ (xs : List V) (x : V), SqT K H a xs ∧ xs[i]? = some x, fun i H v H' => ∃ T x, v = .ref T ∧ H T = none ∧ H' = upd H T (.tup [.int (i : Nat), x]) ∧ ∀ xs, SqT K H a xs → xs[i]? = some x, fun i H => ∃ xs : List V, SqT K H a xs ∧ xs.length = i⟩
theorem turn_enumT {P : Program} {w : World} {K : PySem.W.Frag} {es : List Expr} {kk : Nat} {tpos : Pos} (a e it : Addr) :
    Turn P w K (.Tuple es kk tpos) (IteT K a) [e, it] e (fun i h => (∃ old, IsEnum h e it ((i : Nat) : Int) old) ∧ h.IsTupleIter it a i ∧ e ≠ it ∧ a ≠ it ∧ e ≠ a) where
  mem := List.mem_cons_self
  obj := fun i h st b hb => by
    obtain ⟨⟨old, he⟩, ⟨o, ho, hc, hd⟩, _⟩ := st
    rcases List.mem_cons.mp hb with q | q
    · subst q; exact ⟨_, he, fun v z => nomatch z⟩
    · rw [List.mem_singleton.mp q]; exact ⟨o, ho, fun v z => by rw [hd] at z; exact nomatch z⟩
  keep := fun i h h' st k => let ⟨⟨old, he⟩, hi, ne⟩ := st; ⟨⟨old, k e (by simp) _ he⟩, hi.at fun o z => k it (by simp) o z, ne⟩
  item := by
    intro X hP hw hK hc i pins s σ H E I fr st hg
    subst hP hw hK
    obtain ⟨⟨old, he⟩, hit, n1, n2, n3⟩ := st
    obtain ⟨xs, x, hq, hx⟩ := hg
    obtain ⟨its, rv, p, _⟩ := I.tuple hq
    obtain ⟨u, hu, ru⟩ := rv.get hx
    have le : e < s.heap.objs.size := Heap.lt_size he
    have li : it < s.heap.objs.size := by obtain ⟨_, q, _⟩ := hit; exact Heap.lt_size q
    have lt : i < its.toArray.size := by rw [List.size_toArray]; exact (List.getElem?_eq_some_iff.mp hu).1
    refine wpAny_pyNext_enum_itemD (Draws.tuple (A := X.A.in1) (show X.A.in1.handled = none from I.ok.hd hc) it a n2 its.toArray) he ⟨hit, p⟩ lt n1 (by simp [n1, n3]) fun y h1 tk hy ho hs hT hz hk => ?_
    have ey : y = u := by
      have hy : its.toArray[i]? = some y := hy
      rw [List.getElem?_toArray, hu] at hy; exact (Option.some.inj hy).symm
    subst ey
    refine ⟨_, rfl, wpAny_letOwnedTupleGo_enum (s := { s with heap := h1, toks := tk + 1 }) ho fun h2 he2 sb => ?_⟩
    have hT2 : h2.get? s.heap.objs.size = some { cls := .type "tuple", data := .seq #[.int i tk, y] } := (sb.2 _ (Nat.ne_of_gt le)).trans hT
    have new : ObjOk X.prog X.w (upd H s.heap.objs.size (.tup [.int (i : Nat), x])) h2 s.heap.objs.size (.tup [.int (i : Nat), x]) := ⟨(by show 2 ≤ sizeLine; decide), [.int i tk, y], .cons ⟨_, rfl⟩ (.cons ru .nil), ⟨_, hT2, rfl, _, rfl⟩⟩
    have I1 : Inv X pins σ (upd H s.heap.objs.size (.tup [.int (i : Nat), x])) { s with heap := h2, toks := tk + 1 } :=
      I.turnedNew (ch := [e, it]) (fun b ob hb q => (sb.2 b (fun z => hb (by rw [z]; exact List.mem_cons_self))).trans (hk b ob (fun z => hb (by rw [z]; exact List.mem_cons_self)) (fun z => hb (by rw [z]; exact List.mem_cons_of_mem _ List.mem_cons_self)) q)) fr (Nat.le_refl _) new
    refine ⟨.ref s.heap.objs.size, _, I1, rfl, ⟨_, x, rfl, I.hok.fresh (Nat.le_refl _), rfl, fun ys h => by rw [I.tuple_inj h hq]; exact hx⟩, ⟨⟨y, ?_⟩, hs.1.at fun o q => (sb.2 it (Ne.symm n1)).trans q, n1, n2, n3⟩, fun b hb => ?_⟩
    · rw [show ((i + 1 : Nat) : Int) = (i : Int) + 1 by omega]; exact he2
    · have hb' : b < s.heap.objs.size := by
        rcases List.mem_cons.mp hb with z | z
        · rw [z]; exact le
        · rw [List.mem_singleton.mp z]; exact li
      rw [upd_ne (Nat.ne_of_lt hb')]; exact (fr b hb).1
  done := by
    intro X hP hw hK hc i pins s σ H E I fr st hg
    subst hP hw hK
    obtain ⟨⟨old, he⟩, hit, n1, n2, n3⟩ := st
    obtain ⟨xs, hq, hx⟩ := hg
    obtain ⟨its, rv, p, _⟩ := I.tuple hq
    obtain ⟨f0, f1, _, f3, f4, f5⟩ := fr it (List.mem_cons_of_mem _ List.mem_cons_self)
    have hi : its.toArray.size = i := by rw [List.size_toArray, ← rv.length]; exact hx
    subst hi
    exact wpAny_pyNext_enum_endD (Draws.tuple (A := X.A.in1) (show X.A.in1.handled = none from I.ok.hd hc) it a n2 its.toArray) he ⟨hit, p⟩ fun h1 eb => ⟨rfl, I.turned (t' := s.toks) (fun b o hb q => eb b o hb q) f0 f1 f3 f4 f5⟩
  self := fun A i z Q E st q => by obtain ⟨⟨_, he⟩, _⟩ := st; exact wpAny_pyIter_enum he q
/-- enumerate(tuple) -/
def iEnT (K : PySem.W.Frag) (ta : TA) : TI := fun σ H R => ta σ H fun vs H1 => ∃ a xs, vs = [.ref a] ∧ SqT K H1 a xs ∧ R (IteT K a) H1
theorem pi_enumT {X : Cx} {e : Expr} {ta : TA} {p pos tpos : Pos} {es : List Expr} {kk : Nat} (hg : Gl X "enumerate") (hm : X.mg "enumerate" = none) (ha : PA X [e] ta) (hs : starEach [e] X.env = [(false, eval e X.env)] := by rfl) :
    PI X (.Tuple es kk tpos) (.Call (.Name "enumerate" p) [e] [] pos) (iEnT X.K ta) := by
  refine ⟨fun pins s σ H R I h => Call_ (ld_blt I hg hm boot_enumerate (PyProof.Rows.callWith_type1 (thn (ha.run pos pins s σ H _ I h) fun us z ⟨vs, H1, I1, r1, q1⟩ => ?_) hs rfl))⟩
  obtain ⟨a, xs, rfl, hq, q⟩ := q1
  obtain ⟨u, rfl, r⟩ := r1.one
  cases r
  obtain ⟨its, rv, p, hz⟩ := I1.tuple hq
  have hlt : a < z.heap.objs.size := by obtain ⟨o, ho, _⟩ := id p; exact Heap.lt_size ho
  refine enum_tup p fun h' he hit hk => wpAny_pyIter_enum he ?_
  have I2 : Inv X pins σ H1 { z with heap := h' } := I1.kept (t' := z.toks) hk
  refine ⟨z.heap.objs.size + 1, [z.heap.objs.size + 1, z.heap.objs.size], _, _, H1, rfl, I2, turn_enumT a (z.heap.objs.size + 1) z.heap.objs.size, ⟨⟨.none, he⟩, hit, Nat.succ_ne_self _, Nat.ne_of_lt hlt, Nat.ne_of_gt (Nat.lt_succ_of_lt hlt)⟩, fun b hb => ?_, q⟩
  have le : z.heap.objs.size ≤ b := by
    rcases List.mem_cons.mp hb with q | q
    · rw [q]; exact Nat.le_succ _
    · rw [List.mem_singleton.mp q]; exact Nat.le_refl _
  exact I1.fpOk le (I1.hok.fresh le)
end Ag

set_option Elab.async false
set_option linter.all false
set_option maxRecDepth 100000
set_option maxHeartbeats 1000000
set_option pp.maxSteps 300
namespace Ag
open PySem PySem.Spec PyProof.Rows L2
section
variable {K : PySem.W.Frag} {H H' : Hp} {b : Addr}
theorem NoDat.rd {a : Addr} {u : HO} (n : NoDat H b) (t : But b H H') (hu : (∃ xs, u = .lst xs) ∨ ∃ xs, u = .tup xs) (h : Rd H a u) : Rd H' a u := by
  rcases h with h | ⟨o, h⟩
  · refine .inl (t _ _ (fun e => ?_) h)
    subst e
    obtain ⟨h1, h2, _⟩ := n _ h
    rcases hu with ⟨xs, e⟩ | ⟨xs, e⟩
    · exact h1 _ e
    · exact h2 _ e
  · refine .inr ⟨o, t _ _ (fun e => ?_) h⟩
    subst e
    exact (n _ h).2.2 _ _ rfl
theorem NoDat.sl {a : Addr} {xs : List V} (n : NoDat H b) (t : But b H H') (h : SqL K H a xs) : SqL K H' a xs := h.imp (n.rd t (.inl ⟨_, rfl⟩)) id
mutual
theorem NoDat.dp (n : NoDat H b) (t : But b H H') : ∀ {v : V} {d : PyData}, Dp K H v d → Dp K H' v d
  | _, _, .non => .non
  | _, _, .bl c => .bl c
  | _, _, .int i => .int i
  | _, _, .str x => .str x
  | _, _, .lst q r => .lst (n.sl t q) (NoDat.dps n t r)
  | _, _, .tup q r => .tup (n.st t q) (NoDat.dps n t r)
theorem NoDat.dps (n : NoDat H b) (t : But b H H') : ∀ {vs : List V} {ds : List PyData}, DpAll K H vs ds → DpAll K H' vs ds
  | _, _, .nil => .nil
  | _, _, .cons q r => .cons (NoDat.dp n t q) (NoDat.dps n t r)
end
end
/-! ### errors of two fields -/
def spEx2 (C : Addr) (f g : Str) : Sp := fun vs H Q _ => ∃ (a : Addr) (x y : V), vs = [.ref a, x, y] ∧ H a = some (exo a C none) ∧ ∀ (d : Addr) H', H d = none → d ≠ a → (∀ b o, b ≠ a → H b = some o → H' b = some o) → H' a = some (exo a C (some d)) → H' d = some (exd d [(g, y), (f, x)]) → Q .non H'
/-- what is let out -/
def Out2 (C : Addr) (f g : Str) (x y : V) (H : Hp) (E : XK) : Prop := ∀ d H', Same H H' → H d = none → H' d = some (.xd [(g, y), (f, x)]) → E (.ref C) (some d) H'
theorem Out2.same {C : Addr} {f g : Str} {x y : V} {H H1 : Hp} {E : XK} (s : Same H H1) (k : Out2 C f g x y H E) : Out2 C f g x y H1 E := fun d H' s2 hd e => k d H' (s.trans s2) (s.freshA hd) e
theorem raise2 {C : Addr} {f g w : Str} {σ : L2.St} {i : Nat} {y : V} {H : Hp} {E : XK} (hy : σ[i]? = some (some y)) (k : Out2 C f g (.str w) y H E) : tMkO C (spEx2 C f g) [] (tCons (tC (.str w)) (tCons (tVar i) tNil)) σ H E := by
  refine ⟨y, hy, (by decide : 2 ≤ 1000), fun a ha => ?_⟩
  refine ⟨a, .str w, y, rfl, upd_same, fun d H' hd nda keep ea ed => ⟨rfl, d, _, ea, ed, ?_, k d _ (fun b o e => ?_) ?_ upd_same⟩⟩
  · rw [upd_ne nda] at hd; exact hd
  · have nba : b ≠ a := ne_of_none e ha
    rw [upd_ne nda] at hd
    rw [upd_ne (ne_of_none e hd), del_ne nba]
    exact keep b o nba (by rw [upd_ne nba]; exact e)
  · rw [upd_ne nda] at hd; exact hd
/-- a field of an instance, as data -/
theorem ed_fldI {K : PySem.W.Frag} {σ : L2.St} {F : Addr → Prop} {H : Hp} {i : Nat} {b C dx : Addr} {fs : List (Str × V)} {f : Str} {v : V} {d : PyData} (h : σ[i]? = some (some (.ref b))) (hb : H b = some (.ins C dx fs)) (c : Cls K C) (n : NoAttr K C f) (l : fs.lookup f = some v) (hd : Df K F H v d) : ED K (tFld K (tVar i) f) σ F H d :=
  fun H1 s Q q => ⟨_, h, b, C, dx, fs, v, rfl, s _ _ hb, c, n, l, q v H1 (Same.refl _) (df_mono s Fr.base hd)⟩

def isRow : PyData → Bool
  | .tuple ds => decide (ds.length = 3) && ds.all isName
  | _ => false
theorem isRow_row {r : Rw} (g : goodR r) : isRow (rowD r) = true := by
  have h1 : isName (.str r.1) = true := g.1
  have h2 : isName (.str r.2.1) = true := g.2.1
  have h3 : isName (.str r.2.2) = true := g.2.2
  simp [isRow, rowD, h1, h2, h3]
theorem row_of {d : PyData} (h : isRow d = true) : ∃ r, d = rowD r ∧ goodR r := by
  cases d with
  | tuple ds =>
    simp only [isRow, Bool.and_eq_true, decide_eq_true_eq] at h
    obtain ⟨h1, h2⟩ := h
    match ds, h1 with
    | [a, b, c], _ =>
      simp only [List.all_cons, List.all_nil, Bool.and_true, Bool.and_eq_true] at h2
      obtain ⟨ha, hb, hc⟩ := h2
      cases a <;> first | cases ha | skip
      cases b <;> first | cases hb | skip
      cases c <;> first | cases hc | skip
      exact ⟨(_, _, _), rfl, ha, hb, hc⟩
  | _ => cases h
section
variable {P : Program} {w : World} {K : PySem.W.Frag} {mg : Str → Option Value} {base : Heap} (T : Txt w K mg)
theorem ok_BadRow_init : FnOk P w K mg base CX0 1 T.a_BadRow___init__ T.d_BadRow___init__ ["self", "what", "row"] (spEx2 T.C_BadRow "what" "row") := by
  refine T.D_BadRow___init__.fn.ok sc_BadRow___init__ (fun vs H Q E h => ?_) (fun cdv A outer s H vs Q E hr h => ?_)
  · obtain ⟨a, x, y, rfl, _⟩ := h; rfl
  · obtain ⟨a, x, y, rfl, ha, k⟩ := h
    refine ⟨_, (pss_cons (ps_ost (pv 0) (pv 1))
      (pss_one (ps_ost (pv 0) (pv 2)))), ?_⟩
    refine ⟨_, rfl, _, rfl, a, T.C_BadRow, rfl, T.ox_BadRow, T.na_BadRow_what, .inl ⟨ha, fun d hd nda => ?_⟩⟩
    refine ⟨_, rfl, _, rfl, a, T.C_BadRow, rfl, T.ox_BadRow, T.na_BadRow_row, .inr ⟨d, [("what", x)], upd_same, by rw [upd_ne nda]; exact upd_same, Nat.le_of_ble_eq_true rfl, ?_⟩⟩
    refine k d _ hd nda (fun b o nb e => ?_) (by rw [upd_ne (Ne.symm nda)]; exact upd_same) upd_same
    have nbd : b ≠ d := ne_of_none e hd
    rw [upd_ne nbd, upd_ne nb, upd_ne nbd]; exact e

theorem gd_tupI {ds : List PyData} (h : gd (.tuple ds) = true) : (∀ x ∈ ds, gd x = true) ∧ ds.length ≤ 1000 := by
  simp only [gd, Bool.and_eq_true, decide_eq_true_eq] at h
  exact ⟨gds_all h.1, h.2⟩
theorem ok_is_row : FnOk P w K mg base CX0 3 T.a_is_row T.d_is_row ["value"] (spB K (fun d => gd d = true) isRow) := by
  have G_is_name := ok_is_name (P := P) (base := base) T
  refine T.D_is_row.fn.ok sc_is_row (fun vs H Q E h => ?_) (fun cdv A outer s H vs Q E hr h => ?_)
  · obtain ⟨v, d, rfl, _⟩ := h; rfl
  · obtain ⟨v, d, rfl, hv, g, k⟩ := h
    refine ⟨_, (pss_one (ps_ret (pe_and (pe_callB call_isi (by rfl) T.b_isinstance bt_isinstance (pa_cons (pv 0) (pa_cons (pe_bltn (v := .ty "tuple") (by rfl) T.b_tuple bt_tuple rfl) pa_nil))) (pe_and (pe_cmpR op_eq (pe_callB call_len (by rfl) T.b_len bt_len (pa_cons (pv 0) pa_nil)) pe_int (nomark _)) (pe_one (pe_callB (cr_all rfl) (by rfl) T.b_all bt_all (pa_cons (pe_lc (own := [("part", 1)]) rfl sc_is_row.nd (pi_tup (pv 0)) (blkOk_by (own := [("part", 1)]) (N := ["value", "part"]) (sc := defScope s_is_row) (by decide +kernel)) (fun _ _ _ _ _ => (pg_name (i := 1) sc_is_row.nd rfl (by first | exact Or.inl rfl | exact Or.inr rfl))) (fun _ _ _ _ _ => pts_nil) (fun _ _ _ _ _ => (pe_call (G_is_name) (hr.mono (by omega)) (by rfl) T.D_is_name.mg T.D_is_name.fn.kp T.D_is_name.bd .nil pass0 (pa_cons (pv 1) pa_nil)))) pa_nil))))))), ?_⟩
    have hvar : ED K (tVar 0) (start ["value", "part"] [v]) (nn H) H d := ed_var rfl (dp_df hv)
    have isi := ed_isi (T := "tuple") hvar (.inr (.inl rfl))
    cases d with
    | tuple ds =>
      obtain ⟨g1, g2⟩ := gd_tupI g
      refine s_retB (F := nn H) (ed_andV isi fun _ => ed_andV (ed_eqI (ed_len hvar rfl) (ed_int (i := 3))) fun h3 => ed_all (bs := ds.map isName) (ed_is (ed_lc (f := fun _ => true) (m := fun s => .bool (isName s)) (ei_tup hvar) (by omega) fun F2 H2 e2 v2 d2 hm hd2 => ⟨_, fun Q q => q, rfl, et_yes, fun _ => ed_call (ea_cons (ed_var (i := 1) rfl hd2) ea_nil) (rdc_spB (g1 d2 hm))⟩) ?_)) ?_ k
      · rw [List.filter_eq_self.mpr fun _ _ => rfl, List.map_map]; rfl
      · show (true && (decide (((ds.length : Nat) : Int) = 3) && (ds.map isName).all id)) = (decide (ds.length = 3) && ds.all isName)
        rw [Bool.true_and, List.all_map, show decide (((ds.length : Nat) : Int) = 3) = decide (ds.length = 3) from decide_eq_decide.mpr (by omega)]; rfl
    | _ => exact s_retB (F := nn H) (ed_andV (b := true) isi fun h => nomatch h) rfl k
/-- the first item that is no row -/
def FBad (ds : List PyData) (x : PyData) : Prop := ∃ i : Nat, ds[i]? = some x ∧ (∀ (j : Nat) z, j < i → ds[j]? = some z → isRow z = true) ∧ isRow x = false
/-- raises BadRow for the first item that is no row -/
def spNeedR (K : PySem.W.Frag) (B : Addr) : Sp := fun vs H Q E => ∃ v d ds, vs = [v] ∧ Dp K H v d ∧ (d = .list ds ∨ d = .tuple ds) ∧ (∀ x ∈ ds, gd x = true) ∧ ds.length ≤ 50000 ∧
  (∀ x y H', Same H H' → FBad ds x → Dp K H' y x → Out2 B "what" "row" (.str "server") y H' E) ∧ ((∀ x ∈ ds, isRow x = true) → ∀ H', Same H H' → Q .non H')
theorem ok_need_rows : FnOk P w K mg base (L2.CX P w) 5 T.a_need_rows T.d_need_rows ["rows"] (spNeedR K T.C_BadRow) := by
  have G_is_row := ok_is_row (P := P) (base := base) T
  have G_BadRow___init__ := ok_BadRow_init (P := P) (base := base) (w := w) T
  refine T.D_need_rows.fn.okX sc_need_rows (fun vs H Q E h => ?_) (fun cdv A outer s H vs Q E hr h => ?_)
  · obtain ⟨v, d, ds, rfl, _⟩ := h; rfl
  · obtain ⟨v, d, ds, rfl, hv, hd, g, dl, k1, k2⟩ := h
    refine ⟨_, (pss_one (ps_for (passes_of rfl) rfl (pi_ve (pv 0)) (pg_name (i := 1) sc_need_rows.nd rfl (by first | exact Or.inl rfl | exact Or.inr rfl)) (pss_one (ps_if (pt_not (pt_val (pe_call (G_is_row) (hr.mono (by omega)) (by rfl) T.D_is_row.mg T.D_is_row.fn.kp T.D_is_row.bd .nil pass0 (pa_cons (pv 1) pa_nil)))) (pss_one (ps_raise rfl (takes_of rfl rfl rfl rfl) (pmk_oex T.ox_BadRow T.ic_BadRow T.ti_BadRow (G_BadRow___init__) (hr.mono (by omega)) T.D_BadRow___init__.bd .nil pass0 (by rfl) T.g_BadRow (pa_cons pe_str (pa_cons (pv 1) pa_nil))))) pss_nil)))), ?_⟩
    refine s_for (K := K) (F := nn H) (fun i σ H' => (∃ o, σ = [some v, o]) ∧ ∀ j z, j < i → ds[j]? = some z → isRow z = true) (ei_ve (ds := ds) rfl (dp_df hv) hd) (fun H1 s1 => ⟨⟨none, rfl⟩, fun j z h => absurd h (Nat.not_lt_zero _)⟩) ?_ ?_
    · rintro i σ1 H1 s1 ⟨⟨o, rfl⟩, all⟩ x y H2 hx s2 hy
      dsimp only [gName]
      refine s_if (b := !isRow x) (et_not (et_B (ed_call (ea_cons (ed_var (i := 1) (v := y) rfl hy) ea_nil) (rdc_spB (pre := fun d => gd d = true) (g x (List.mem_of_getElem? hx)))))) (fun hb H3 s3 => ?_) (fun hb H3 s3 => ?_)
      · exact raise2 rfl (k1 x y H3 (s1.trans (s2.trans s3)) ⟨i, hx, all, by simpa using hb⟩ (dp_mono s3 (df_dp hy)))
      · refine ⟨s2.trans s3, ⟨_, rfl⟩, fun j z hj hz => ?_⟩
        rcases Nat.lt_succ_iff_lt_or_eq.mp hj with hj | rfl
        · exact all j z hj hz
        · rw [hx] at hz; cases hz
          simpa using hb
    · rintro σ1 H1 s1 ⟨_, all⟩
      refine k2 (fun x hx => ?_) H1 s1
      obtain ⟨j, hj, e⟩ := List.getElem_of_mem hx
      exact all j x hj (by rw [List.getElem?_eq_getElem hj, e])
end
end Ag

set_option Elab.async false
set_option linter.all false
set_option maxRecDepth 100000
set_option maxHeartbeats 2000000
set_option pp.maxSteps 400
namespace Ag
open PySem PySem.Spec PyProof.Rows L2
theorem rows_all : ∀ {ds : List PyData}, (∀ x ∈ ds, isRow x = true) → ∃ R : List Rw, ds = R.map rowD ∧ ∀ r ∈ R, goodR r
  | [], _ => ⟨[], rfl, fun r h => nomatch h⟩
  | d :: ds, h => by
    obtain ⟨R, e, g⟩ := rows_all fun x hx => h x (List.mem_cons_of_mem _ hx)
    obtain ⟨r, rfl, gr⟩ := row_of (h d List.mem_cons_self)
    exact ⟨r :: R, by rw [e]; rfl, fun x hx => (List.mem_cons.mp hx).elim (fun z => z ▸ gr) (g x)⟩
theorem keys_pairs {A : Hp → Addr → List V → Prop} {H : Hp} {kvs : List (List Key × V)} {S : List Rw} (a : Ans A H kvs S) : ∃ ps : List (Str × Str), kvs.map (·.1) = ps.map (fun p => hcK p.1 p.2) ∧ ps.Nodup := by
  have all : ∀ l : List (List Key), (∀ k ∈ l, ∃ h c, k = hcK h c ∧ ansOf S h c ≠ []) → ∃ ps : List (Str × Str), l = ps.map fun p => hcK p.1 p.2 := by
    intro l
    induction l with
    | nil => exact fun _ => ⟨[], rfl⟩
    | cons k l ih =>
      intro h
      obtain ⟨ps, e⟩ := ih fun y hy => h y (List.mem_cons_of_mem _ hy)
      obtain ⟨x, c, ek, _⟩ := h k List.mem_cons_self
      exact ⟨(x, c) :: ps, by rw [List.map_cons, ← e, ek]⟩
  obtain ⟨ps, e⟩ := all _ a.key
  refine ⟨ps, e, ?_⟩
  have nd := a.once
  rw [e] at nd
  exact (List.pairwise_map.mp nd).imp fun h z => h (by rw [z])
theorem nodat_none {H : Hp} {D : Addr} (h : H D = none) : NoDat H D := fun o e => by rw [h] at e; cases e
/-- calls by hall, each list sorted, of the halls in ks -/
structure KsD (K : PySem.W.Frag) (H : Hp) (kd : List (Key × V)) (ps : List (Str × Str)) (ks : List Key) : Prop where
  keys : ∀ k ∈ kd.map (·.1), ∃ h, k = Sum.inr h
  at_ : ∀ h, (Sum.inr h ∉ ks ∧ valV kd (.inr h) = none) ∨ (Sum.inr h ∈ ks ∧ ∃ (a : Addr) (cs : List Str), valV kd (.inr h) = some (.ref a) ∧ Up rkS cs ∧ cs.Perm (callsOf ps h) ∧ SqT K H a (cs.map V.str))
theorem KsD.nil {K : PySem.W.Frag} {H : Hp} {ps : List (Str × Str)} : KsD K H [] ps [] := ⟨fun _ h => (nomatch h), fun _ => .inl ⟨fun h => (nomatch h), rfl⟩⟩
theorem KsD.kept {K : PySem.W.Frag} {H H' : Hp} {kd : List (Key × V)} {ps : List (Str × Str)} {ks : List Key} (a : KsD K H kd ps ks) (k : ∀ a xs, SqT K H a xs → SqT K H' a xs) : KsD K H' kd ps ks := ⟨a.keys, fun h => (a.at_ h).imp id fun ⟨n, x, cs, e1, e2, e3, e4⟩ => ⟨n, x, cs, e1, e2, e3, k _ _ e4⟩⟩
theorem KsD.put {K : PySem.W.Frag} {H H' : Hp} {kd : List (Key × V)} {ps : List (Str × Str)} {ks : List Key} (a : KsD K H kd ps ks) (k : ∀ a xs, SqT K H a xs → SqT K H' a xs) {h : Str} {x : Addr} {cs : List Str} (u : Up rkS cs) (p : cs.Perm (callsOf ps h)) (hx : SqT K H' x (cs.map V.str)) : KsD K H' (putK kd (.inr h) (.ref x)) ps (ks ++ [.inr h]) where
  keys := fun k hk => (mem_put.mp hk).elim (fun e => ⟨h, e⟩) (a.keys k)
  at_ := fun h' => by
    rw [valV_put]
    by_cases e : h' = h
    · rw [if_pos (by rw [e]), e]
      exact .inr ⟨List.mem_append_right _ List.mem_cons_self, x, cs, rfl, u, p, hx⟩
    · rw [if_neg fun z => e (Sum.inr.inj z)]
      refine (a.at_ h').imp (fun ⟨n, q⟩ => ⟨fun m => (List.mem_append.mp m).elim n fun m => e (Sum.inr.inj (List.mem_singleton.mp m)), q⟩) fun ⟨n, y, ds, e1, e2, e3, e4⟩ => ⟨List.mem_append_left _ n, y, ds, e1, e2, e3, k _ _ e4⟩
theorem KsD.done {K : PySem.W.Frag} {H : Hp} {kn kd : List (Key × V)} {ps : List (Str × Str)} {S : List Rw} (a : KsD K H kd ps (kn.map (·.1))) (k : ∀ h c, (h, c) ∈ ps ↔ ansOf S h c ≠ []) (hk : KnA K H kn ps) : KnF K H kd S := fun h => by
  have e : Sum.inr h ∈ kn.map (·.1) ↔ callsOf ps h ≠ [] := by
    rw [valV_mem]
    rcases hk.at_ h with ⟨e1, e2⟩ | ⟨e1, x, e2, _⟩
    · exact ⟨fun ⟨v, z⟩ => (nomatch (e2.symm.trans z)), fun z => absurd e1 z⟩
    · exact ⟨fun _ => e1, fun _ => ⟨_, e2⟩⟩
  rcases a.at_ h with ⟨n, q⟩ | ⟨n, x, cs, q, u, p, hx⟩
  · refine ⟨[], .nil, fun c => ⟨fun z => (nomatch z), fun z => ?_⟩, .inl ⟨rfl, q⟩⟩
    have := mem_callsOf.mpr ((k h c).mpr z)
    exact absurd (e.mpr fun w => by rw [w] at this; cases this) n
  · exact ⟨cs, u, fun c => (p.mem_iff.trans mem_callsOf).trans (k h c), .inr ⟨fun w => e.mp n (by rw [w] at p; exact List.nil_perm.mp p), x, q, hx⟩⟩
def spServer (K : PySem.W.Frag) (C B : Addr) : Sp := fun vs H Q E => ∃ b dx v d ds, vs = [.ref b, v] ∧ H b = some (.ins C dx []) ∧ Dp K H v d ∧ (d = .list ds ∨ d = .tuple ds) ∧ (∀ x ∈ ds, gd x = true) ∧ ds.length ≤ 300 ∧
  (∀ x y H', Same H H' → FBad ds x → Dp K H' y x → Out2 B "what" "row" (.str "server") y H' E) ∧
  (∀ R S H', ds = R.map rowD → (∀ r ∈ R, goodR r) → Srt R S → But b H H' → ServerAt K C b S H' → Q .non H')
section
variable {P : Program} {w : World} {K : PySem.W.Frag} {mg : Str → Option Value} {base : Heap} (T : Txt w K mg)
theorem ok_Server_init : FnOk P w K mg base (L2.CX P w) 6 T.a_Server___init__ T.d_Server___init__ ["self", "rows"] (spServer K T.C_Server T.C_BadRow) := by
  have G_need_rows := ok_need_rows (P := P) (base := base) T
  refine T.D_Server___init__.fn.okX sc_Server___init__ (fun vs H Q E h => ?_) (fun cdv A outer s H vs Q E hr h => ?_)
  · obtain ⟨b, dx, v, d, ds, rfl, _⟩ := h; rfl
  · obtain ⟨b, dx, v, d, ds, rfl, hb, hv, hd, g, dl, k1, k⟩ := h
    refine ⟨_, (pss_cons (ps_expr (pe_call (G_need_rows) (hr.mono (by omega)) (by rfl) T.D_need_rows.mg T.D_need_rows.fn.kp T.D_need_rows.bd .nil (passes_call (takes_of rfl rfl rfl rfl) fun _ _ _ _ z => z) (pa_cons (pv 1) pa_nil)))
      (pss_cons (ps_fld (pv 0) (pe_callTy call_tuple_of (by rfl) T.b_tuple bt_tuple (pa_cons (pe_callB (cr_sortQ rfl hr.units) (by rfl) T.b_sorted bt_sorted (pa_cons (pe_callTy (cr_setQ rfl (Nat.lt_of_le_of_lt (Nat.add_le_add_left (show 3 ≤ 64 by decide) _) hr.units)) (by rfl) T.b_set bt_set (pa_cons (pv 1) pa_nil)) pa_nil)) pa_nil)) rfl)
      (pss_cons (ps_set (i := 2) sc_Server___init__.nd rfl (by first | exact Or.inl rfl | exact Or.inr rfl) pe_dnewT)
      (pss_cons (ps_for (passes_of rfl) rfl (pi_tup (pe_fld (pv 0) rfl)) (pg_tup rfl (pgs_cons (pg_name (i := 3) sc_Server___init__.nd rfl (by first | exact Or.inl rfl | exact Or.inr rfl)) (pgs_cons (pg_name (i := 4) sc_Server___init__.nd rfl (by first | exact Or.inl rfl | exact Or.inr rfl)) (pgs_cons (pg_name (i := 5) sc_Server___init__.nd rfl (by first | exact Or.inl rfl | exact Or.inr rfl)) pgs_nil)))) (pss_one (ps_dput (hu_of hr) (pv 2) (pe_tup (pa_cons (pv 3) (pa_cons (pv 4) pa_nil))) (pe_op op_catA (pe_dget2 (hu_of hr) (pv 2) (pe_tup (pa_cons (pv 3) (pa_cons (pv 4) pa_nil))) (pe_tup pa_nil) ⟨rfl, rfl, rfl, rfl⟩) (pe_tup (pa_cons (pv 5) pa_nil))) rfl)))
      (pss_cons (ps_fld (pv 0) (pv 2) rfl)
      (pss_cons (ps_set (i := 6) sc_Server___init__.nd rfl (by first | exact Or.inl rfl | exact Or.inr rfl) pe_dnewK)
      (pss_cons (ps_lock (ps_for (passes_of rfl) rfl (pi_keys (pv 2)) (pg_tup rfl (pgs_cons (pg_name (i := 3) sc_Server___init__.nd rfl (by first | exact Or.inl rfl | exact Or.inr rfl)) (pgs_cons (pg_name (i := 4) sc_Server___init__.nd rfl (by first | exact Or.inl rfl | exact Or.inr rfl)) pgs_nil))) (pss_one (ps_dput (hu_of hr) (pv 6) (pv 3) (pe_op op_catA (pe_dget2 (hu_of hr) (pv 6) (pv 3) (pe_tup pa_nil) ⟨rfl, rfl, rfl, rfl⟩) (pe_tup (pa_cons (pv 4) pa_nil))) rfl))))
      (pss_one (ps_fld (pv 0) (pe_lock (pe_dc (own := [("hall", 3)]) rfl sc_Server___init__.nd (pi_keys (pv 6)) (blkOk_by (own := [("hall", 3)]) (N := ["self", "rows", "told", "hall", "call", "other", "known"]) (sc := defScope s_Server___init__) (by decide +kernel)) (fun _ _ _ _ _ => (pg_name (i := 3) sc_Server___init__.nd rfl (by first | exact Or.inl rfl | exact Or.inr rfl))) (fun _ _ _ _ _ => pts_nil) (fun _ _ _ _ _ => (pv 3)) (fun _ _ _ _ _ => (pe_callTy (r := tupR K) call_tuple_of (by rfl) T.b_tuple bt_tuple (pa_cons (pe_callB (r := rSortTS K) cr_sortTS (by rfl) T.b_sorted bt_sorted (pa_cons (pe_dget (hu_of hr) (pv 6) (pv 3) (fun _ _ => rfl)) pa_nil)) pa_nil))))) rfl))))))))), ?_⟩
    refine ⟨_, rfl, v, d, ds, rfl, hv, hd, g, by omega, k1, fun all H1 s1 => ?_⟩
    obtain ⟨R, rfl, gR⟩ := rows_all all
    obtain ⟨ra, zs, rfl, hra, ez, hz⟩ : ∃ ra zs, v = .ref ra ∧ (SqL K H ra (zs.map fun z : Addr × Rw => V.ref z.1) ∨ SqT K H ra (zs.map fun z : Addr × Rw => V.ref z.1)) ∧ zs.map Prod.snd = R ∧ RowsAt K H zs := by
      rcases hd with rfl | rfl
      · cases hv with
        | lst hs r =>
          obtain ⟨zs, rfl, e, hz⟩ := rows_at r gR
          exact ⟨_, zs, rfl, .inl hs, e, hz⟩
      · cases hv with
        | tup hs r =>
          obtain ⟨zs, rfl, e, hz⟩ := rows_at r gR
          exact ⟨_, zs, rfl, .inr hs, e, hz⟩
    have zl : zs.length < 301 := by
      rw [← ez, List.length_map, List.length_map] at dl; omega
    have hb1 := s1 _ _ hb
    have hra1 := hra.imp s1.slA s1.stA
    have hz1 := hz.same s1
    -- self.rows
    refine run_sortset (K := K) (P := P) (w := w) (i := 1) rfl hra1 hz1 zl fun q ys G sG eq hyG srt yl => ⟨q, _, rfl, .inl ⟨SqL.of eq, fun rt hrt => ?_⟩⟩
    have s4 := Same.newA (o := .tup (ys.map fun z => V.ref z.1)) hrt
    have grt := upd_same (H := G) (a := rt) (o := .tup (ys.map fun z => V.ref z.1))
    have s02 := s1.trans (sG.trans s4)
    have hb2 := s4 _ _ (sG _ _ hb1)
    have hy2 := hyG.same s4
    revert grt s02 hb2 hy2
    generalize upd G rt (.tup (ys.map fun z => V.ref z.1)) = H2
    intro grt s02 hb2 hy2
    clear s4 hrt eq hyG sG hb1 hra1 hz1 s1 hra
    refine ⟨_, rfl, b, _, dx, _, rfl, hb2, T.cl_Server, T.na_Server_rows, (by show 0 < 1000; decide), ?_⟩
    have ef1 : putF ("rows" : Str) (V.ref rt) [] = [(("rows" : Str), V.ref rt)] := rfl
    rw [ef1]
    have nrt : rt ≠ b := fun e => by rw [e, hb2] at grt; cases grt
    have b3 : But b H (upd H2 b (.ins T.C_Server dx [("rows", .ref rt)])) := (But.same s02).trans' .updb
    have hb3 : (upd H2 b (.ins T.C_Server dx [("rows", .ref rt)])) b = some (.ins T.C_Server dx [("rows", .ref rt)]) := upd_same
    have grt3 : (upd H2 b (.ins T.C_Server dx [("rows", .ref rt)])) rt = some (.tup (ys.map fun z => V.ref z.1)) := by
      rw [upd_ne nrt]; exact grt
    have hy3 : RowsAt K (upd H2 b (.ins T.C_Server dx [("rows", .ref rt)])) ys := fun y hy => ⟨(nodat_ins hb2).st .updb (hy2 y hy).1, (hy2 y hy).2⟩
    revert b3 hb3 grt3 hy3
    generalize upd H2 b (.ins T.C_Server dx [("rows", .ref rt)]) = H3
    intro b3 hb3 grt3 hy3
    clear hb2 hy2 s02 grt nrt ef1
    -- told
    intro td htd
    have ntd : td ≠ b := fun e => by rw [e, hb3] at htd; cases htd
    have fH : H td = none := by
      cases e : H td with
      | none => rfl
      | some o => have := b3 _ _ ntd e; rw [htd] at this; cases this
    have s4 := Same.newA (o := .dT []) htd
    have b4 := b3.trans' (But.same s4)
    have hb4 := s4 _ _ hb3
    have grt4 := s4 _ _ grt3
    have hy4 := hy3.same s4
    have e4 : (upd H3 td (.dT [])) td = some (.dT []) := upd_same
    revert b4 hb4 grt4 hy4 e4
    generalize upd H3 td (.dT []) = H4
    intro b4 hb4 grt4 hy4 e4
    clear s4 b3 hb3 grt3 hy3
    have N4 := nodat_dT e4
    dsimp only [gName]
    have hrt4 : SqT K H4 rt (ys.map fun z => V.ref z.1) := SqT.of grt4
    have dr4 : Dp K H4 (.ref rt) (.tuple ((ys.map Prod.snd).map rowD)) := .tup hrt4 (by rw [List.map_map]; exact rows_dps hy4)
    have gS : ∀ r ∈ ys.map Prod.snd, goodR r := fun r hr => by
      obtain ⟨y, hy, rfl⟩ := List.mem_map.mp hr
      exact (hy4 y hy).2
    refine ⟨_, rfl, b, _, dx, _, _, rfl, hb4, T.cl_Server, T.na_Server_rows, rfl, rt, rfl, ⟨_, hrt4⟩, for_tup (K := K) (a := rt) (xs := ys.map fun z => V.ref z.1) (fun i σ' H' => ∃ o3 o4 o5 kvs, σ' = [some (.ref b), some (.ref ra), some (.ref td), o3, o4, o5, none] ∧ But td H4 H' ∧ H' td = some (.dT kvs) ∧ Ans (SqT K) H' kvs ((ys.map Prod.snd).take i)) ⟨none, none, none, [], rfl, But.of (Same.refl _), e4, Ans.nil⟩ (fun i σ' H' _ ⟨_, _, _, _, _, t, _⟩ => N4.st t hrt4) ?_ ?_⟩
    · rintro i v σ' H5 hv ⟨o3, o4, o5, kvs, rfl, t5, e5, a5⟩
      rw [List.getElem?_map] at hv
      cases e : ys[i]? with
      | none => rw [e] at hv; cases hv
      | some y =>
        rw [e] at hv
        cases hv
        have hy5 := N4.st t5 (hy4 y (List.mem_of_getElem? e)).1
        obtain ⟨q, h, c, x⟩ := y
        refine ⟨q, _, rfl, hy5, rfl, _, _, rfl, _, _, rfl, _, _, rfl, rfl, ?_⟩
        refine put_ans (K := K) (i := 2) (j := 3) (l := 4) (m := 5) rfl rfl rfl rfl e5 a5 (by rw [List.length_take, List.length_map]; omega) fun kvs' H6 t6 e6 a6 => ?_
        have ek : (ys.map Prod.snd).take (i + 1) = (ys.map Prod.snd).take i ++ [(h, c, x)] := by rw [List.take_succ, List.getElem?_map, e]; rfl
        exact ⟨_, _, _, kvs', rfl, t5.trans' t6, e6, by rw [ek]; exact a6⟩
    · rintro σ' H5 ⟨o3, o4, o5, kvs, rfl, t5, e5, a5⟩
      rw [List.length_map, ← List.length_map (f := Prod.snd), List.take_length] at a5
      have hb5 := t5 _ _ (Ne.symm ntd) hb4
      have b5 : But b H H5 := fun a o n e => t5 a o (ne_of_none e fH) (b4 a o n e)
      have dr5 := N4.dp t5 dr4
      clear hrt4 b4 hb4 grt4 e4 N4 t5 hy4 dr4
      refine ⟨_, rfl, _, rfl, b, _, dx, _, rfl, hb5, T.cl_Server, T.na_Server__answers, (by show 1 < 1000; decide), ?_⟩
      have ef2 : putF ("_answers" : Str) (V.ref td) [(("rows" : Str), V.ref rt)] = [(("rows" : Str), V.ref rt), ("_answers", .ref td)] := rfl
      rw [ef2]
      have b6 := b5.trans' (But.updb (H := H5) (b := b) (o := .ins T.C_Server dx [(("rows" : Str), V.ref rt), ("_answers", .ref td)]))
      have hb6 : (upd H5 b (.ins T.C_Server dx [(("rows" : Str), V.ref rt), ("_answers", .ref td)])) b = some (.ins T.C_Server dx [(("rows" : Str), V.ref rt), ("_answers", .ref td)]) := upd_same
      have e6 : (upd H5 b (.ins T.C_Server dx [(("rows" : Str), V.ref rt), ("_answers", .ref td)])) td = some (.dT kvs) := by rw [upd_ne ntd]; exact e5
      have a6 := a5.kept fun a xs ha => (nodat_ins hb5).st (.updb (o := .ins T.C_Server dx [(("rows" : Str), V.ref rt), ("_answers", .ref td)])) ha
      have dr6 := (nodat_ins hb5).dp (.updb (o := .ins T.C_Server dx [(("rows" : Str), V.ref rt), ("_answers", .ref td)])) dr5
      revert b6 hb6 e6 a6 dr6
      generalize upd H5 b (.ins T.C_Server dx [(("rows" : Str), V.ref rt), ("_answers", .ref td)]) = H6
      intro b6 hb6 e6 a6 dr6
      clear b5 hb5 e5 a5 ef2 dr5
      -- known
      intro kd hkd
      dsimp only [gName]
      have nkb : kd ≠ b := fun e => by rw [e, hb6] at hkd; cases hkd
      have nkt : kd ≠ td := fun e => by rw [e, e6] at hkd; cases hkd
      have s7 := Same.newA (o := .dK []) hkd
      have gH : H kd = none := by
        cases e : H kd with
        | none => rfl
        | some o => have := b6 _ _ nkb e; rw [hkd] at this; cases this
      have b7 := b6.trans' (But.same s7)
      have hb7 := s7 _ _ hb6
      have e7 := s7 _ _ e6
      have a7 := a6.kept fun a xs ha => s7.stA ha
      have f7 : (upd H6 kd (.dK [])) kd = some (.dK []) := upd_same
      have dr7 := dp_mono s7 dr6
      revert b7 hb7 e7 a7 f7 dr7
      generalize upd H6 kd (.dK []) = H7
      intro b7 hb7 e7 a7 f7 dr7
      clear b6 hb6 e6 a6 s7 hkd dr6
      obtain ⟨ps, eps, psn⟩ := keys_pairs a7
      have psl : ps.length = kvs.length := by
        have := congrArg List.length eps
        rw [List.length_map, List.length_map] at this; exact this.symm
      refine ⟨td, .dT kvs, e7, trivial, fun od => ⟨_, rfl, td, od, rfl, .inr ⟨kvs, upd_same, for_it walk_keysT (fun i σ' H' => ∃ o3 o4 o5 kn, σ' = [some (.ref b), some (.ref ra), some (.ref td), o3, o4, o5, some (.ref kd)] ∧ But kd (upd H7 td (.frz od (.dT kvs))) H' ∧ H' kd = some (.dK kn) ∧ KnA K H' kn (ps.take i))
        ⟨o3, o4, o5, [], rfl, But.of (Same.refl _), by rw [upd_ne nkt]; exact f7, KnA.nil⟩ (fun i σ' H' _ ⟨_, _, _, _, _, t, _⟩ => t _ _ (Ne.symm nkt) upd_same) ?_ ?_⟩⟩⟩
      · rintro i x σ' H8 H8' hi ⟨o3, o4, o5, kn, rfl, t8, f8, k8⟩ ⟨rfl, ky, v, q, hk, rfl, hq⟩
        obtain ⟨pr, hpr, ek⟩ : ∃ pr, ps[i]? = some pr ∧ ky = hcK pr.1 pr.2 := by
          have := congrArg (fun l => l[i]?) eps
          simp only [List.getElem?_map, hk, Option.map_some] at this
          cases e : ps[i]? with
          | none => rw [e] at this; cases this
          | some pr => rw [e] at this; exact ⟨pr, rfl, Option.some.inj this⟩
        subst ek
        obtain ⟨h, c⟩ := pr
        refine ⟨q, _, rfl, .of hq, rfl, _, _, rfl, _, _, rfl, rfl, ?_⟩
        have kl := a7.len
        rw [List.length_map] at kl
        refine put_kn (K := K) (i := 6) (j := 3) (m := 4) rfl rfl rfl f8 k8 (by rw [List.length_take]; omega) fun kn' H9 t9 f9 k9 => ?_
        exact ⟨_, _, _, kn', rfl, t8.trans' t9, f9, by rw [take_snoc hpr]; exact k9⟩
      · rintro σ' H8 ⟨o3, o4, o5, kn, rfl, t8, f8, k8⟩
        have et8 := t8 _ _ (Ne.symm nkt) upd_same
        refine ⟨et8, ?_⟩
        have t9 := unlock_but e7 t8
        have a9 := a7.kept fun a xs ha => (nodat_dK f7).st t9 ha
        have hb9 := t9 _ _ (Ne.symm nkb) hb7
        have e9 := t9 _ _ (Ne.symm nkt) e7
        have f9 : (upd H8 td (.dT kvs)) kd = some (.dK kn) := by rw [upd_ne nkt]; exact f8
        have k9 := k8.kept fun a xs ha => unlock_st et8 ha
        have b9 : But b H (upd H8 td (.dT kvs)) := fun a o n e => t9 a o (ne_of_none e gH) (b7 a o n e)
        have dr9 := (nodat_dK f7).dp t9 dr7
        rw [← psl, List.take_length] at k9
        revert a9 hb9 e9 f9 k9 b9 dr9
        generalize upd H8 td (.dT kvs) = H9
        intro a9 hb9 e9 f9 k9 b9 dr9
        clear t8 f8 k8 et8 t9 b7 hb7 e7 a7 f7 dr7
        -- known, each sorted
        have kl := k9.len
        have kz := a9.len
        rw [List.length_map] at kz
        refine ⟨kd, .dK kn, f9, trivial, fun od2 => ⟨_, rfl, kd, od2, rfl, .inl ⟨kn, upd_same, fun D hD => ?_⟩⟩⟩
        have nDk : D ≠ kd := fun e => by rw [e, upd_same] at hD; cases hD
        have k10 : KnA K (upd H9 kd (.frz od2 (.dK kn))) kn ps := k9.kept fun a xs ha => (nodat_dK f9).st .updb ha
        have s10 := Same.newA (o := .dK []) hD
        refine dc_it walk_keys (fun i H' => ∃ kd2, H' D = some (.dK kd2) ∧ kd2.length ≤ i ∧ KsD K H' kd2 ps ((kn.take i).map (·.1)) ∧ But D (upd H9 kd (.frz od2 (.dK kn))) H') ⟨[], upd_same, Nat.le_refl _, KsD.nil, But.same s10⟩ (fun i H' _ ⟨_, _, _, _, t⟩ => t _ _ (Ne.symm nDk) upd_same) ?_ ?_
        · rintro i x H10 H10' hi ⟨kd2, g1, g2, g3, t⟩ ⟨rfl, ky, v, hk, rfl⟩
          refine ⟨rfl, ?_⟩
          obtain ⟨h, rfl, hc⟩ := k10.key ky (List.mem_map.mpr ⟨(ky, v), List.mem_of_getElem? hk, rfl⟩)
          rcases k10.at_ h with ⟨z, _⟩ | ⟨_, a, q, h1⟩
          · exact absurd z hc
          · have ek : H10' kd = some (.frz od2 (.dK kn)) := t _ _ (Ne.symm nDk) upd_same
            refine ⟨_, rfl, _, rfl, _, rfl, kd, _, rfl, .inl ⟨kn, .inr h, .inr ⟨od2, ek⟩, rfl, q.symm⟩, a, callsOf ps h, rfl, st_free hD t h1, fun ws p pm srt2 hp => ⟨p, _, rfl, .inl ⟨SqL.of upd_same, fun l hl => ?_⟩⟩⟩
            have s11 := Same.newA (o := .lst (ws.map V.str)) hp
            have s12 := Same.newA (o := .tup (ws.map V.str)) hl
            have sA := s11.trans s12
            have fD := sA _ _ g1
            refine ⟨kd2, .inr h, rfl, fD, lt5 (by omega), _, upd_same, Nat.le_trans (put_le _ _ _) (by omega), ?_, (t.trans' (But.same sA)).trans' .updb⟩
            rw [take_snoc hk, List.map_append]
            exact (g3.kept fun a xs ha => sA.stA ha).put (fun a xs ha => (nodat_dK fD).st .updb ha) (up_sortedS srt2 (pm.nodup_iff.mpr (callsOf_once psn h))) pm ((nodat_dK fD).st .updb (SqT.of upd_same))
        · rintro H10 ⟨kd2, g1, g2, g3, t⟩
          have ek : H10 kd = some (.frz od2 (.dK kn)) := t _ _ (Ne.symm nDk) upd_same
          refine ⟨ek, ?_⟩
          have nDb : D ≠ b := fun e => by rw [e, upd_ne (Ne.symm nkb), hb9] at hD; cases hD
          have nDt : D ≠ td := fun e => by rw [e, upd_ne (Ne.symm nkt), e9] at hD; cases hD
          have fD : H9 D = none := by rw [upd_ne nDk] at hD; exact hD
          have t11 := unlock_but f9 t
          have hb11 := t11 _ _ (Ne.symm nDb) hb9
          have e11 := t11 _ _ (Ne.symm nDt) e9
          have a11 := a9.kept fun a xs ha => st_free fD t11 ha
          have b11 : But b H (upd H10 kd (.dK kn)) := fun a o n e => t11 a o (ne_of_none (b9 a o n e) fD) (b9 a o n e)
          have dr11 := (nodat_none fD).dp t11 dr9
          have g11 : (upd H10 kd (.dK kn)) D = some (.dK kd2) := by rw [upd_ne nDk]; exact g1
          have h11 := g3.kept fun a xs ha => unlock_stK ek ha
          have k11 := k9.kept fun a xs ha => st_free fD t11 ha
          rw [List.take_length] at h11
          revert hb11 e11 a11 b11 dr11 g11 h11 k11
          generalize upd H10 kd (.dK kn) = H11
          intro hb11 e11 a11 b11 dr11 g11 h11 k11
          refine ⟨_, rfl, b, _, dx, _, rfl, hb11, T.cl_Server, T.na_Server__known, (by show 2 < 1000; decide), ?_⟩
          have ef3 : putF ("_known" : Str) (V.ref D) [(("rows" : Str), V.ref rt), ("_answers", .ref td)] = srvFs rt td D := rfl
          rw [ef3]
          have N := nodat_ins hb11
          refine k R _ _ rfl gR (ez ▸ srt) (b11.trans' .updb) ⟨dx, rt, td, D, kvs, kd2, upd_same, N.dp .updb dr11, by rw [upd_ne ntd]; exact e11, (a11.kept fun a xs ha => N.st .updb ha), by rw [upd_ne nDb]; exact g11, ?_, fun k hk => h11.keys k hk, srt.1, gS, by rw [List.length_map]; omega⟩
          refine KnF.kept (H := H11) (h11.done (fun h c => ?_) k11) fun a xs ha => N.st .updb ha
          rw [← a11.mem, eps, List.mem_map]
          constructor
          · intro hm
            exact ⟨(h, c), hm, rfl⟩
          · rintro ⟨p, hp, e⟩
            obtain ⟨e1, e2⟩ := hcK_inj e
            rw [← e1, ← e2]; exact hp
end
end Ag

set_option Elab.async false
set_option linter.all false
set_option maxRecDepth 100000
set_option maxHeartbeats 2000000
set_option pp.maxSteps 400
namespace Ag
open PySem PySem.Spec PyProof.Rows L2
section
variable {rt td kd : Addr}
theorem sf_rows : List.lookup ("rows" : Str) (srvFs rt td kd) = some (V.ref rt) := by simp only [srvFs, List.lookup_cons]; rfl
theorem sf_ans : List.lookup ("_answers" : Str) (srvFs rt td kd) = some (V.ref td) := by
  simp only [srvFs, List.lookup_cons, show (("_answers" : Str) == "rows") = false by decide +kernel]; rfl
theorem sf_known : List.lookup ("_known" : Str) (srvFs rt td kd) = some (V.ref kd) := by
  simp only [srvFs, List.lookup_cons, show (("_known" : Str) == "rows") = false by decide +kernel, show (("_known" : Str) == "_answers") = false by decide +kernel]; rfl
theorem sf_no {m : Str} (h : (m == "rows") = false ∧ (m == "_answers") = false ∧ (m == "_known") = false) : (srvFs rt td kd).lookup m = none := by
  simp only [srvFs, List.lookup_cons, h.1, h.2.1, h.2.2]; rfl
end
theorem eqv_map {α : Type} [DecidableEq α] (f : α → PyData) (h : ∀ a b, PyData.eqv (f a) (f b) = decide (a = b)) : ∀ xs ys : List α, PyData.eqvAll (xs.map f) (ys.map f) = decide (xs = ys)
  | [], [] => by simp [PyData.eqvAll]
  | [], y :: ys => by simp [PyData.eqvAll]
  | x :: xs, [] => by simp [PyData.eqvAll]
  | x :: xs, y :: ys => by
    rw [List.map_cons, List.map_cons, PyData.eqvAll, h, eqv_map f h xs ys]
    by_cases e : x = y
    · subst e; simp
    · rw [decide_eq_false e, Bool.false_and, decide_eq_false (fun z => e (List.cons.inj z).1)]
def rowsD (S : List Rw) : PyData := .tuple (S.map rowD)
theorem eqv_rows (S S2 : List Rw) : PyData.eqv (rowsD S) (rowsD S2) = decide (S = S2) := by
  unfold rowsD
  rw [PyData.eqv]; exact eqv_map rowD eqv_row S S2
theorem depth_rows : ∀ S : List Rw, PyData.depthAll (S.map rowD) ≤ 1
  | [] => by simp [PyData.depthAll]
  | r :: S => by
    have := depth_rows S
    rw [List.map_cons, PyData.depthAll]
    have : (rowD r).depth = 1 := by simp [rowD, PyData.depth, PyData.depthAll]
    omega
theorem rows_lay {S : List Rw} (g : ∀ r ∈ S, goodR r) : (rowsD S).canLay0 = true := by
  unfold rowsD
  rw [PyData.canLay0]
  refine layAll_of fun d hd => ?_
  obtain ⟨r, hr, rfl⟩ := List.mem_map.mp hd
  exact row_lay (g r hr)
theorem rows_shaped {S : List Rw} (g : ∀ r ∈ S, goodR r) : SeqAt.shaped (rowsD S) = true := by
  unfold SeqAt.shaped
  rw [rows_lay g, Bool.true_and]
  refine decide_eq_true ?_
  have := depth_rows S
  unfold rowsD
  rw [PyData.depth]; omega
theorem row_shaped {r : Rw} (g : goodR r) : SeqAt.shaped (rowD r) = true := by
  unfold SeqAt.shaped
  rw [row_lay g, Bool.true_and]
  exact decide_eq_true (by simp [rowD, PyData.depth, PyData.depthAll])
theorem row_gd {r : Rw} (h : goodR r) : gd (rowD r) = true := by
  show (gds [.str r.1, .str r.2.1, .str r.2.2] && decide (3 ≤ 1000)) = true
  rw [gds_of fun y hy => ?_]
  · rfl
  · simp only [List.mem_cons, List.not_mem_nil, or_false] at hy
    rcases hy with rfl | rfl | rfl
    · exact name_gd h.1
    · exact name_gd h.2.1
    · exact name_gd h.2.2
section
variable {K : PySem.W.Frag} {σ : L2.St} {F : Addr → Prop} {H : Hp} {i : Nat} {C b : Addr} {S : List Rw}
theorem dfs_rows : ∀ {S : List Rw} {vs : List V}, DpAll K H vs (S.map rowD) → DfAll K F H vs (S.map rowD)
  | [], _, .nil => .nil
  | r :: S, _, .cons a t => .cons (by
      cases a with
      | tup hs q =>
        cases q with
        | cons q1 q =>
          cases q with
          | cons q2 q =>
            cases q with
            | cons q3 q =>
              cases q; cases q1; cases q2; cases q3
              exact .tup hs (.cons (.str _) (.cons (.str _) (.cons (.str _) .nil)))) (dfs_rows t)
theorem df_row {v : V} {r : Rw} (h : Dp K H v (rowD r)) : Df K F H v (rowD r) := by
  have := dfs_rows (F := F) (S := [r]) (.cons h .nil)
  cases this with
  | cons a _ => exact a
theorem df_rows {v : V} (h : Dp K H v (rowsD S)) : Df K F H v (rowsD S) := by
  cases h with
  | tup hs r => exact .tup hs (dfs_rows r)
/-- self.rows -/
theorem ed_rows (h : σ[i]? = some (some (.ref b))) (cl : Cls K C) (na : NoAttr K C "rows") (s : ServerAt K C b S H) : ED K (tFld K (tVar i) "rows") σ F H (rowsD S) := by
  obtain ⟨dx, rt, td, kd, kvs, kn, p⟩ := s
  exact ed_fldI h p.obj cl na sf_rows (df_rows p.rows)
theorem ServerAt.up (s : ServerAt K C b S H) : Up rkR S := by
  obtain ⟨dx, rt, td, kd, kvs, kn, p⟩ := s; exact p.up
theorem ServerAt.gd_ (s : ServerAt K C b S H) : ∀ r ∈ S, goodR r := by
  obtain ⟨dx, rt, td, kd, kvs, kn, p⟩ := s; exact p.good
theorem ServerAt.len_ (s : ServerAt K C b S H) : S.length < 301 := by
  obtain ⟨dx, rt, td, kd, kvs, kn, p⟩ := s; exact p.len
theorem ServerAt.obj_ (s : ServerAt K C b S H) : ∃ dx fs, H b = some (.ins C dx fs) := by
  obtain ⟨dx, rt, td, kd, kvs, kn, p⟩ := s; exact ⟨_, _, p.obj⟩
/-- self._answers.get(x, ()), x a pair of texts -/
theorem ed_ans {ty : TE} {x c : Str} (h : σ[i]? = some (some (.ref b))) (cl : Cls K C) (na : NoAttr K C "_answers") (s : ServerAt K C b S H)
    (hy : ∀ H1, Same H H1 → ∀ Q : VK, (∀ a H2, Same H1 H2 → H2 a = some (.tup [.str x, .str c]) → Q (.ref a) H2) → ty σ H1 Q) : ED K (tDGet2 (tFld K (tVar i) "_answers") ty (tTup tNil)) σ F H (txD (ansOf S x c)) := by
  obtain ⟨dx, rt, td, kd, kvs, kn, p⟩ := s
  intro H1 s1 Q q
  refine ⟨_, h, b, _, dx, _, _, rfl, s1 _ _ p.obj, cl, na, sf_ans, td, rfl, .inr ⟨kvs, .inl (s1 _ _ p.ansd)⟩, hy H1 s1 _ fun a H2 s2 ha => ⟨(by show 0 ≤ sizeLine; decide), fun n hn => ?_⟩⟩
  have s3 := Same.newA (o := .tup []) hn
  have s12 := s1.trans s2
  have s13 := s12.trans s3
  rcases p.ans.at_ x c with ⟨e1, e2⟩ | ⟨_, y, e1, e2⟩
  · refine ⟨none, by rw [← e2]; exact DGet.t (k := hcK x c) (s13 _ _ p.ansd) (s3 _ _ ha), q _ _ (s2.trans s3) ?_⟩
    rw [e1]
    exact .tup (SqT.of upd_same) .nil
  · refine ⟨some (.ref y), by rw [← e1]; exact DGet.t (k := hcK x c) (s13 _ _ p.ansd) (s3 _ _ ha), q _ _ (s2.trans s3) ?_⟩
    exact .tup (s13.stA e2) (dfs_strs _)
end
theorem cutD_to (ys : List PyData) (k : Nat) : cutD ys none (some (k : Int)) = ys.take k := by
  unfold cutD
  rw [HT.sIx_none, HT.sIx_nat, List.drop_zero, Nat.sub_zero]
  rcases Nat.le_total k ys.length with h | h
  · rw [Nat.min_eq_left h]
  · rw [Nat.min_eq_right h, List.take_length, List.take_of_length_le h]
theorem srt_ex (R : List Rw) : ∃ S, Srt R S := by
  have dd : ∀ l : List Rw, ∃ m : List Rw, m.Nodup ∧ ∀ r, r ∈ m ↔ r ∈ l := by
    intro l
    induction l with
    | nil => exact ⟨[], List.nodup_nil, fun _ => Iff.rfl⟩
    | cons x l ih =>
      obtain ⟨m, n, h⟩ := ih
      by_cases e : x ∈ l
      · refine ⟨m, n, fun r => (h r).trans ⟨List.mem_cons_of_mem _, fun z => (List.mem_cons.mp z).elim (fun q => q ▸ e) id⟩⟩
      · exact ⟨x :: m, List.nodup_cons.mpr ⟨fun z => e ((h x).mp z), n⟩, fun r => by rw [List.mem_cons, List.mem_cons, h]⟩
  obtain ⟨m, n, h⟩ := dd R
  exact ⟨m.mergeSort (leF rkR), up_sort rkR_inj n, fun r => ((List.mergeSort_perm m _).mem_iff).trans (h r)⟩
theorem ret_make {C : Addr} {sp : Sp} {ds : List V} {E : XK} {ta : TA} {D : Ends} {σ : L2.St} {H : Hp} (h : ta σ H fun vs H1 => ∀ x dx, H1 x = none → H1 dx = none → dx ≠ x → sp (.ref x :: (vs ++ ds)) (upd (upd H1 dx (.own x)) x (.ins C dx [])) (fun v H2 => v = .non ∧ D.rt (.ref x) H2) E) : tRet (tMake C sp ds E ta) D σ H := h
/-- tuple([..]) -/
theorem run_tupl {K : PySem.W.Frag} {te : TE} {tr : TA} {σ : L2.St} {F : Addr → Prop} {H : Hp} {ds : List PyData} {Q : List V → Hp → Prop} (h : ED K te σ F H (.list ds)) (k : ∀ a H1, Same H H1 → Dp K H1 (.ref a) (.tuple ds) → tr σ H1 fun vs H2 => Q (.ref a :: vs) H2) : tCons (tCB (tupR K) (tCons te tNil)) tr σ H Q :=
  h H (Same.refl _) _ fun v H1 s1 hv => by
    cases hv with
    | lst hs r => exact ⟨_, _, rfl, .inl ⟨hs.imp (fun z => z.1) id, fun p hp => k p _ (s1.trans (Same.newA hp)) (.tup (SqT.of upd_same) (dps_mono (Same.newA hp) (dfs_dps r)))⟩⟩
section
variable {P : Program} {w : World} {K : PySem.W.Frag} {mg : Str → Option Value} {base : Heap} (T : Txt w K mg)
/-- what is made of rows -/
theorem made_of {H1 : Hp} {ra : Addr} {dv : PyData} {ds : List PyData} {Q : VK} {E : XK} {R : List Rw} (hv : Dp K H1 (.ref ra) dv) (hd : dv = .list ds ∨ dv = .tuple ds) (e : ds = R.map rowD) (gR : ∀ r ∈ R, goodR r) (len : R.length ≤ 300) {S : List Rw} (srt : Srt R S) (k : ∀ b H', Same H1 H' → ServerAt K T.C_Server b S H' → Q (.ref b) H') :
    ∀ b dx, H1 b = none → H1 dx = none → dx ≠ b → spServer K T.C_Server T.C_BadRow (.ref b :: ([.ref ra] ++ [])) (upd (upd H1 dx (.own b)) b (.ins T.C_Server dx [])) (fun v H2 => v = .non ∧ Q (.ref b) H2) E := by
  intro b dx hb hdx nb
  have s3 : Same H1 (upd (upd H1 dx (.own b)) b (.ins T.C_Server dx [])) := (Same.newA hdx).trans (Same.newA (by rw [upd_ne (Ne.symm nb)]; exact hb))
  refine ⟨b, dx, .ref ra, dv, ds, rfl, upd_same, dp_mono s3 hv, hd, fun x hx => ?_, by rw [e, List.length_map]; exact len, fun x y H' _ ⟨i, hx, _, hf⟩ _ => ?_, fun R' S' H' e2 g2 srt2 b4 sv => ⟨rfl, ?_⟩⟩
  · rw [e] at hx
    obtain ⟨r, hr, rfl⟩ := List.mem_map.mp hx
    exact row_gd (gR r hr)
  · rw [e] at hx
    obtain ⟨r, hr, rfl⟩ := List.mem_map.mp (List.mem_of_getElem? hx)
    rw [isRow_row (gR r hr)] at hf; cases hf
  · have e3 : R' = R := by
      have inj : ∀ a b : List Rw, a.map rowD = b.map rowD → a = b := by
        intro a
        induction a with
        | nil => intro b h; cases b with | nil => rfl | cons x b => cases h
        | cons x a ih =>
          intro b h
          cases b with
          | nil => cases h
          | cons y b =>
            rw [List.map_cons, List.map_cons] at h
            injection h with h1 h2
            rw [rowD_inj h1, ih b h2]
      exact inj _ _ (e2.symm.trans e)
    subst e3
    rw [srt2.uniq srt] at sv
    exact k b H' (fun a o z => b4 a o (ne_of_none z hb) (s3 _ _ z)) sv
end
end Ag

set_option Elab.async false
set_option linter.all false
set_option maxRecDepth 100000
set_option maxHeartbeats 4000000
set_option pp.maxSteps 400
namespace Ag
open PySem PySem.Spec PyProof.Rows L2
def spSomeS (K : PySem.W.Frag) : Sp := fun vs H Q _ => ∃ (p c cl hl n sh : Nat) (cs hs : List Str), vs = [.ref p, .ref cl, .ref hl, .int (sh : Nat)] ∧ Pen p c n H ∧ H cl = some (.lst (cs.map V.str)) ∧ H hl = some (.lst (hs.map V.str)) ∧ (∀ x ∈ cs, nameB x = true) ∧ (∀ x ∈ hs, nameB x = true) ∧ 1 ≤ cs.length ∧ cs.length ≤ 6 ∧ 1 ≤ hs.length ∧ hs.length ≤ 16 ∧ n + 1000000 < 1000000000000 ∧
  ∀ m R S H', But p H H' → Pen p c (n + 500) H' → Srt R S → LsAt K m S H' → R ≠ [] → (∀ r ∈ R, r.1 ∈ hs ∧ r.2.1 ∈ cs ∧ r.2.2 ∈ hs) → Q (.ref m) H'
section
variable {P : Program} {w : World} {K : PySem.W.Frag} {mg : Str → Option Value} {base : Heap} (T : Txt w K mg)
theorem ok_some_server : FnOk P w K mg base CX0 3 T.a_law_some_server T.d_law_some_server ["pen", "calls", "places", "share"] (spSomeS K) := by
  have G_law_draw := ok_draw (P := P) (base := base) T
  have G_law_pick := ok_pick (P := P) (base := base) T
  have G_law_server_of := ok_server_of (P := P) (base := base) T
  refine T.D_law_some_server.fn.ok sc_law_some_server (fun vs H Q E h => ?_) (fun cdv A outer s H vs Q E hr h => ?_)
  · obtain ⟨p, c, cl, hl, n, sh, cs, hs, rfl, _⟩ := h; rfl
  · obtain ⟨p, c, cl, hl, n, sh, cs, hs, rfl, P0, ecl, ehl, nc, nh, c1, c3, h1, h5, hn, k⟩ := h
    refine ⟨_, (pss_cons (ps_set (i := 4) sc_law_some_server.nd rfl (by first | exact Or.inl rfl | exact Or.inr rfl) (pe_lst pa_nil))
      (pss_cons (ps_for PassesOwn.never rfl (pi_list (pv 2)) (pg_name (i := 5) sc_law_some_server.nd rfl (by first | exact Or.inl rfl | exact Or.inr rfl)) (pss_one (ps_for PassesOwn.never rfl (pi_list (pv 1)) (pg_name (i := 6) sc_law_some_server.nd rfl (by first | exact Or.inl rfl | exact Or.inr rfl)) (pss_one (ps_if (pt_cmpR op_lt (pe_call (G_law_draw) (hr.mono (by omega)) (by rfl) T.D_law_draw.mg T.D_law_draw.fn.kp T.D_law_draw.bd .nil pass0 (pa_cons (pv 0) (pa_cons pe_int pa_nil))) (pv 3) (nomark _)) (pss_one (ps_for PassesOwn.never rfl (pi_range1 (by rfl) T.b_range (pa_cons (pe_call (G_law_pick) (hr.mono (by omega)) (by rfl) T.D_law_pick.mg T.D_law_pick.fn.kp T.D_law_pick.bd .nil pass0 (pa_cons (pv 0) (pa_cons (pe_lst (pa_cons pe_int (pa_cons pe_int (pa_cons pe_int (pa_cons pe_int (pa_cons pe_int (pa_cons pe_int pa_nil))))))) pa_nil))) pa_nil)) (pg_name (i := 7) sc_law_some_server.nd rfl (by first | exact Or.inl rfl | exact Or.inr rfl)) (pss_one (ps_expr (pe_bm PySem.F.plainAttrs_list PySem.F.slot_list_append PySem.F.type_list_append mt_append (pv 4) (pa_cons (pe_tup (pa_cons (pv 5) (pa_cons (pv 6) (pa_cons (pe_call (G_law_pick) (hr.mono (by omega)) (by rfl) T.D_law_pick.mg T.D_law_pick.fn.kp T.D_law_pick.bd .nil pass0 (pa_cons (pv 0) (pa_cons (pv 2) pa_nil))) pa_nil)))) pa_nil)))))) pss_nil)))))
      (C8.pss_cut (ps_if (pt_cmpR (op_eqE hr.units) (pv 4) (pe_lst pa_nil) (nomark _)) (pss_one (ps_set (i := 4) sc_law_some_server.nd rfl (by first | exact Or.inl rfl | exact Or.inr rfl) (pe_lst (pa_cons (pe_tup (pa_cons (pe_ix (r := rIx K) ix_seq (pv 2) pe_int (fun _ _ => rfl)) (pa_cons (pe_ix (r := rIx K) ix_seq (pv 1) pe_int (fun _ _ => rfl)) (pa_cons (pe_ix (r := rIx K) ix_seq (pv 2) (pe_un un_neg pe_int) (fun _ _ => rfl)) pa_nil)))) pa_nil)))) pss_nil)
      (pss_one (ps_ret (pe_call (G_law_server_of) (hr.mono (by omega)) (by rfl) T.D_law_server_of.mg T.D_law_server_of.fn.kp T.D_law_server_of.bd .nil pass0 (pa_cons (pv 4) pa_nil))))))), ?_⟩
    refine ⟨(by show 0 ≤ sizeLine; decide), fun rl hrl => ?_⟩
    dsimp only [gName]
    have np := P0.ne_p hrl
    have nq := P0.ne_c hrl
    have nrl : ∀ a o, H a = some o → a ≠ rl := fun a o e => ne_of_none e hrl
    have keepL : ∀ {H' : Hp} {a : Addr} {xs : List V}, But p H H' → H a = some (.lst xs) → H' a = some (.lst xs) := fun b e => b _ _ (P0.ne e (fun _ z => nomatch z)) e
    refine ⟨_, rfl, hl, rfl, ⟨_, SqL.of (by rw [upd_ne (nrl _ _ ehl)]; exact ehl)⟩, for_list (K := K) (a := hl) (xs := hs.map V.str) (fun i σ' H' => ∃ (o5 o6 o7 : Option V) (zs : List (Addr × Rw)), σ' = [some (.ref p), some (.ref cl), some (.ref hl), some (.int (sh : Nat)), some (.ref rl), o5, o6, o7] ∧ But p H H' ∧ Pen p c (n + 30 * i) H' ∧ H' rl = some (.lst (zs.map fun z : Addr × Rw => V.ref z.1)) ∧ RowsAt K H' zs ∧ zs.length ≤ 18 * i ∧ ∀ z ∈ zs, z.2.1 ∈ hs ∧ z.2.2.1 ∈ cs ∧ z.2.2.2 ∈ hs)
      ⟨none, none, none, [], rfl, fun a o _ e => by rw [upd_ne (nrl _ _ e)]; exact e, P0.upd np nq, upd_same, (fun z hz => nomatch hz), Nat.zero_le _, fun z hz => nomatch hz⟩ (fun i σ' H' _ ⟨_, _, _, _, _, b, _⟩ => SqL.of (keepL b ehl)) ?_ ?_⟩
    · rintro i v σ' H1 hv ⟨o5, o6, o7, zs, rfl, b1, P1, e1, r1, l1, m1⟩
      obtain ⟨hh, hx, rfl⟩ := str_at hv
      have ihs : i < hs.length := (List.getElem?_eq_some_iff.mp hx).1
      have mh := List.mem_of_getElem? hx
      dsimp only [gName]
      refine ⟨_, rfl, cl, rfl, ⟨_, SqL.of (keepL b1 ecl)⟩, for_list (K := K) (a := cl) (xs := cs.map V.str) (fun j σ' H' => ∃ (o6 o7 : Option V) (zs : List (Addr × Rw)), σ' = [some (.ref p), some (.ref cl), some (.ref hl), some (.int (sh : Nat)), some (.ref rl), some (.str hh), o6, o7] ∧ But p H H' ∧ Pen p c (n + 30 * i + 5 * j) H' ∧ H' rl = some (.lst (zs.map fun z : Addr × Rw => V.ref z.1)) ∧ RowsAt K H' zs ∧ zs.length ≤ 18 * i + 3 * j ∧ ∀ z ∈ zs, z.2.1 ∈ hs ∧ z.2.2.1 ∈ cs ∧ z.2.2.2 ∈ hs)
        ⟨o6, o7, zs, rfl, b1, P1, e1, r1, l1, m1⟩ (fun j σ' H' _ ⟨_, _, _, _, b, _⟩ => SqL.of (keepL b ecl)) ?_ ?_⟩
      · rintro j v σ' H2 hv ⟨o6, o7, zs, rfl, b2, P2, e2, r2, l2, m2⟩
        obtain ⟨cc, hx2, rfl⟩ := str_at hv
        have jcs : j < cs.length := (List.getElem?_eq_some_iff.mp hx2).1
        have mc := List.mem_of_getElem? hx2
        dsimp only [gName]
        refine ⟨_, rfl, p, c, 10, _, rfl, P2, by decide, by decide, by omega, fun d H3 _ _ b3 P3 => ⟨_, rfl, _, _, rfl, rfl, _, rfl, ite2 (fun _ => ?_) fun _ => ?_⟩⟩
        · have e3 := b3 _ _ (P2.ne e2 (fun _ z => nomatch z)) e2
          have r3 : RowsAt K H3 zs := fun z hz => ⟨P2.st b3 (r2 z hz).1, (r2 z hz).2⟩
          refine ⟨_, rfl, (by show 6 ≤ sizeLine; decide), fun l hl2 => ⟨p, c, l, [.int 1, .int 1, .int 1, .int 2, .int 2, .int 3], _, rfl, P3.upd (P3.ne_p hl2) (P3.ne_c hl2), .inl (.of upd_same), by show 0 < 6; decide, by show 6 < 100000; decide, by omega, fun y v H4 hv b4 P4 => ?_⟩⟩
          obtain ⟨t, rfl, t3⟩ : ∃ t : Nat, v = .int (t : Int) ∧ t ≤ 3 := by
            match y, hv with
            | 0, hv => cases hv; exact ⟨1, rfl, by decide⟩
            | 1, hv => cases hv; exact ⟨1, rfl, by decide⟩
            | 2, hv => cases hv; exact ⟨1, rfl, by decide⟩
            | 3, hv => cases hv; exact ⟨2, rfl, by decide⟩
            | 4, hv => cases hv; exact ⟨2, rfl, by decide⟩
            | 5, hv => cases hv; exact ⟨3, rfl, by decide⟩
          have sl := Same.newA (o := .lst [.int 1, .int 1, .int 1, .int 2, .int 2, .int 3]) hl2
          have PL := P3.same sl
          have e4 := b4 _ _ (PL.ne (sl _ _ e3) (fun _ z => nomatch z)) (sl _ _ e3)
          have r4 : RowsAt K H4 zs := fun z hz => ⟨PL.st b4 (sl.stA (r3 z hz).1), (r3 z hz).2⟩
          have bb := b2.trans (b3.trans ((But.of sl).trans b4))
          refine ⟨_, rfl, by omega, by omega, for_range (n := ((t : Nat) : Int).toNat) (fun u σ' H' => ∃ (o7 : Option V) (zs : List (Addr × Rw)), σ' = [some (.ref p), some (.ref cl), some (.ref hl), some (.int (sh : Nat)), some (.ref rl), some (.str hh), some (.str cc), o7] ∧ But p H H' ∧ Pen p c (n + 30 * i + 5 * j + 2 + u) H' ∧ H' rl = some (.lst (zs.map fun z : Addr × Rw => V.ref z.1)) ∧ RowsAt K H' zs ∧ zs.length ≤ 18 * i + 3 * j + u ∧ ∀ z ∈ zs, z.2.1 ∈ hs ∧ z.2.2.1 ∈ cs ∧ z.2.2.2 ∈ hs)
            ⟨o7, zs, rfl, bb, P4, e4, r4, l2, m2⟩ ?_ ?_⟩
          · rintro u σ' H5 hu ⟨o7, zs, rfl, b5, P5, e5, r5, l5, m5⟩
            dsimp only [gName]
            refine ⟨_, rfl, .inl ⟨rfl, _, SqL.of e5⟩, _, rfl, _, rfl, _, rfl, _, rfl, p, c, hl, _, _, rfl, P5, .inl (SqL.of (keepL b5 ehl)), by rw [List.length_map]; omega, by rw [List.length_map]; omega, by omega, fun y v H6 hv b6 P6 => ⟨(by show 3 ≤ sizeLine; decide), fun q hq => ?_⟩⟩
            obtain ⟨ox, hox, rfl⟩ := str_at hv
            have mo := List.mem_of_getElem? hox
            have sq := Same.newA (o := .tup [.str hh, .str cc, .str ox]) hq
            have e6 := sq _ _ (b6 _ _ (P5.ne e5 (fun _ z => nomatch z)) e5)
            have P7 := P6.same sq
            have r7 : RowsAt K (upd H6 q (.tup [.str hh, .str cc, .str ox])) (zs ++ [(q, (hh, cc, ox))]) := fun z hz => by
              rcases List.mem_append.mp hz with hz | hz
              · exact ⟨sq.stA (P5.st b6 (r5 z hz).1), (r5 z hz).2⟩
              · rw [List.mem_singleton.mp hz]; exact ⟨.of upd_same, nh _ mh, nc _ mc, nh _ mo⟩
            refine ⟨rl, _, _, rfl, rfl, e6, lt5 (by rw [List.length_map]; omega), ?_⟩
            have e8 : (upd (upd H6 q (.tup [.str hh, .str cc, .str ox])) rl (.lst (zs.map (fun z : Addr × Rw => V.ref z.1) ++ [V.ref q]))) rl = some (.lst ((zs ++ [(q, (hh, cc, ox))]).map fun z : Addr × Rw => V.ref z.1)) := by rw [upd_same, List.map_append]; rfl
            refine ⟨_, zs ++ [(q, (hh, cc, ox))], rfl, fun a o na e => ?_, P7.upd np nq, e8, fun z hz => ⟨st_upd e6 (r7 z hz).1, (r7 z hz).2⟩, by rw [List.length_append]; show zs.length + 1 ≤ _; omega, fun z hz => ?_⟩
            · rw [upd_ne (nrl _ _ e)]
              exact sq _ _ (b6 _ _ na (b5 _ _ na e))
            · rcases List.mem_append.mp hz with hz | hz
              · exact m5 z hz
              · rw [List.mem_singleton.mp hz]; exact ⟨mh, mc, mo⟩
          · rintro σ' H5 ⟨o7, zs, rfl, b5, P5, e5, r5, l5, m5⟩
            exact ⟨_, _, zs, rfl, b5, P5.more (by omega), e5, r5, by omega, m5⟩
        · refine ⟨_, _, zs, rfl, b2.trans b3, P3.more (by omega), b3 _ _ (P2.ne e2 (fun _ z => nomatch z)) e2, fun z hz => ⟨P2.st b3 (r2 z hz).1, (r2 z hz).2⟩, by omega, m2⟩
      · rintro σ' H2 ⟨o6, o7, zs, rfl, b2, P2, e2, r2, l2, m2⟩
        rw [List.length_map] at P2 l2
        exact ⟨_, _, _, zs, rfl, b2, P2.more (by omega), e2, r2, by omega, m2⟩
    · rintro σ' H1 ⟨o5, o6, o7, zs, rfl, b1, P1, e1, r1, l1, m1⟩
      rw [List.length_map] at P1 l1
      refine ⟨fun σ' H' => ∃ (o5 o6 o7 : Option V) (r2 : Addr) (zs : List (Addr × Rw)), σ' = [some (.ref p), some (.ref cl), some (.ref hl), some (.int (sh : Nat)), some (.ref r2), o5, o6, o7] ∧ But p H H' ∧ Pen p c (n + 480) H' ∧ H' r2 = some (.lst (zs.map fun z : Addr × Rw => V.ref z.1)) ∧ RowsAt K H' zs ∧ zs.length ≤ 288 ∧ zs ≠ [] ∧ ∀ z ∈ zs, z.2.1 ∈ hs ∧ z.2.2.1 ∈ cs ∧ z.2.2.2 ∈ hs, ?_, ?_⟩
      · refine s_if (b := (zs.map fun z : Addr × Rw => rowD z.2).isEmpty) (et_test (ed_eqE (K := K) (F := nn H1) (ds := zs.map fun z : Addr × Rw => rowD z.2) (ed_var (i := 4) rfl (dp_df (.lst (SqL.of e1) (rows_dps r1)))) (ed_lst ea_nil (by show 0 ≤ 100000; decide)) (gds_lay (gds_of fun y hy => ?_)))) (fun hb H2 s2 => ?_) (fun hb H2 s2 => ?_)
        · obtain ⟨z, hz, rfl⟩ := List.mem_map.mp hy
          exact row_gd (r1 z hz).2
        · obtain ⟨x0, hx0⟩ : ∃ x, hs[0]? = some x := ⟨_, List.getElem?_eq_getElem h1⟩
          obtain ⟨y0, hy0⟩ : ∃ x, cs[0]? = some x := ⟨_, List.getElem?_eq_getElem c1⟩
          obtain ⟨z0, hz0⟩ : ∃ x, hs[hs.length - 1]? = some x := ⟨_, List.getElem?_eq_getElem (by omega)⟩
          have b2 := b1.trans (But.of s2)
          have eh2 := keepL b2 ehl
          have ec2 := keepL b2 ecl
          refine ⟨_, rfl, .inl ⟨hl, _, 0, .str x0, rfl, rfl, SqL.of eh2, atI_nat (j := 0) (by rw [List.getElem?_map, hx0]; rfl), _, rfl, .inl ⟨cl, _, 0, .str y0, rfl, rfl, SqL.of ec2, atI_nat (j := 0) (by rw [List.getElem?_map, hy0]; rfl), _, rfl, 1, rfl, .inl ⟨hl, _, -1, .str z0, rfl, rfl, SqL.of eh2, atI_neg (k := 1) (by decide) (by rw [List.length_map]; exact h1) (by rw [List.length_map, List.getElem?_map, hz0]; rfl), (by show 3 ≤ sizeLine; decide), fun q hq => ⟨(by show 1 ≤ sizeLine; decide), fun r2 hr2 => ?_⟩⟩⟩⟩⟩
          have s3 := Same.newA (o := .tup [.str x0, .str y0, .str z0]) hq
          have s4 := Same.newA (o := .lst [.ref q]) hr2
          have m0 := List.mem_of_getElem? hx0
          have m1 := List.mem_of_getElem? hy0
          have m2 := List.mem_of_getElem? hz0
          refine ⟨_, _, _, r2, [(q, (x0, y0, z0))], rfl, b2.trans (But.of (s3.trans s4)), (P1.same (s2.trans (s3.trans s4))).more (by omega), upd_same, fun z hz => ?_, by show 1 ≤ 288; decide, (fun z => nomatch z), fun z hz => ?_⟩
          · rw [List.mem_singleton.mp hz]; exact ⟨s4.stA (.of upd_same), nh _ m0, nc _ m1, nh _ m2⟩
          · rw [List.mem_singleton.mp hz]; exact ⟨m0, m1, m2⟩
        · refine ⟨_, _, _, rl, zs, rfl, b1.trans (But.of s2), (P1.same s2).more (by omega), s2 _ _ e1, r1.same s2, by omega, fun z => ?_, m1⟩
          subst z; cases hb
      · rintro σ' H2 ⟨o5, o6, o7, r2, zs, rfl, b2, P2, e2, g2, l2, ne2, m2⟩
        refine ⟨_, rfl, r2, zs, rfl, SqL.of e2, g2, by omega, fun m S H3 s3 srt ls => ?_⟩
        refine k m _ S H3 (b2.trans (But.of s3)) ((P2.same s3).more (by omega)) srt ls (fun z => ne2 (List.map_eq_nil_iff.mp z)) fun r hr => ?_
        obtain ⟨z, hz, rfl⟩ := List.mem_map.mp hr
        exact m2 z hz
end
end Ag

set_option Elab.async false
set_option linter.all false
set_option maxRecDepth 100000
set_option maxHeartbeats 4000000
set_option pp.maxSteps 400
/-! xs[::-1] of any tuple that is not empty; a tuple once. -/
namespace Ag
open PySem PySem.Spec PyProof.Rows L2
theorem fm_congr {α β : Type} {f g : α → Option β} : ∀ {l : List α}, (∀ x ∈ l, f x = g x) → l.filterMap f = l.filterMap g
  | [], _ => rfl
  | x :: l, h => by rw [List.filterMap_cons, List.filterMap_cons, h x List.mem_cons_self, fm_congr fun y hy => h y (List.mem_cons_of_mem _ hy)]
theorem pick_back (its : Array Value) : ((List.range its.size).filterMap fun (m : Nat) => its[((((its.size : Nat) : Int) - 1) + (m : Int) * (-1)).toNat]?) = its.toList.reverse := by
  have e : (List.range its.size).filterMap (fun (m : Nat) => its[((((its.size : Nat) : Int) - 1) + (m : Int) * (-1)).toNat]?) = ((List.range its.size).map fun k => its.size - 1 - k).filterMap (its[·]?) := by
    rw [List.filterMap_map]
    refine fm_congr fun m hm => ?_
    have := List.mem_range.mp hm
    show its[_]? = its[its.size - 1 - m]?
    rw [show ((((its.size : Nat) : Int) - 1) + (m : Int) * (-1)).toNat = its.size - 1 - m by omega]
  rw [e, PySem.W.krv_range, List.filterMap_reverse, PySem.W.krv_all]
section
variable {prog : Program} {w : World} {A : Around} {E : Value → Shared → Prop} {s : Shared}
theorem rev_of_any {t sl : Addr} {its : Array Value} {vl vu vs : Value} {Q : Value → Shared → Prop} (ht : IsTup s.heap t its) (h1 : 1 ≤ its.size) (hz : its.size ≤ sizeLine) (hs : s.heap.IsSliceOf sl vl vu vs) (pl : IsPart vl none) (pu : IsPart vu none) (ps : IsPart vs (some (-1)))
    (h : Q (.ref s.heap.objs.size) { s with heap := s.heap.push { cls := .type "tuple", data := .seq its.toList.reverse.toArray } }) : wpAny (model prog w) A (getItem (.ref t) (.ref sl)) Q E s := by
  obtain ⟨o, ho, hc, hd⟩ := id hs
  have ty : s.TypeIs (.ref sl) "slice" := ⟨o, ho, hc⟩
  have ad : Builtin.Slice.sliceAdjust none none (-1) ((its.size : Nat) : Int) = (((its.size : Nat) : Int) - 1, -1) := rfl
  have pc : Builtin.Slice.slicePlaces (((its.size : Nat) : Int) - 1) (-1) (-1) = its.size := by
    unfold Builtin.Slice.slicePlaces
    rw [if_neg (by decide), if_pos (by omega), show ((((its.size : Nat) : Int) - 1 - -1 - 1) / (- -1) + 1).toNat = its.size by rw [show (- -1 : Int) = 1 by decide, Int.ediv_one]; omega]
  unfold getItem
  try with_reducible refine wpAny_holding ?_
  first | refine wpAny_bind (wpAny_pure ?_) | skip
  refine wpAny_bind (wpAny_sequenceKey ht.typeIs (by decide) (wpAny_bind (wpAny_callSpecial?_slot (name := Str.ofString "__getitem__") ht.typeIs PyProof.Rows.slot_tuple_getitem (wpAny_call_entry PyProof.Rows.slot_tuple_getitem ht.typeIs entry_tuple_getitem ?_ (args_tuple_getitem _ _)))))
  show wpAny _ _ (Builtin.Tuple.tupleItemsOf (.ref t) >>= _) _ _ s
  refine wpAny_bind (tupleItemsOf_ ht (wpAny_bind (wpAny_typeOf ty ?_))); rw [if_pos (by decide)]
  have ap : ∀ {Q' : Int × Int × Nat → Shared → Prop}, Q' (((its.size : Nat) : Int) - 1, -1, its.size) s → wpAny (model prog w) A.in1 (Builtin.Slice.sliceApplied (.ref sl) (pure ((its.size : Nat) : Int))) Q' E s := fun {Q'} q => by
    unfold Builtin.Slice.sliceApplied Builtin.Slice.sliceFields
    refine wpAny_bind (wpAny_bind (wpAny_field ho hd (x := vl) rfl (wpAny_bind (wpAny_field ho hd (x := vu) rfl (wpAny_bind (wpAny_field ho hd (x := vs) rfl (wpAny_pure ?_)))))))
    refine wpAny_bind (HT.slicePart_ ps ?_)
    show wpAny _ _ (if ((-1 : Int) == 0) = true then _ else _) _ _ s
    rw [if_neg (by decide)]
    refine wpAny_bind (HT.slicePart_ pl (wpAny_bind (HT.slicePart_ pu (wpAny_bind (wpAny_pure ?_)))))
    show wpAny _ _ (match Builtin.Slice.sliceAdjust none none (-1) ((its.size : Nat) : Int) with | (u, v) => pure (u, (-1 : Int), Builtin.Slice.slicePlaces u v (-1))) _ _ s
    rw [ad]
    show wpAny _ _ (pure (((its.size : Nat) : Int) - 1, (-1 : Int), Builtin.Slice.slicePlaces (((its.size : Nat) : Int) - 1) (-1) (-1))) _ _ s
    rw [pc]
    exact wpAny_pure q
  refine wpAny_bind (wpAny_mono (ap (Q' := fun z s' => z = (((its.size : Nat) : Int) - 1, -1, its.size) ∧ s' = s) ⟨rfl, rfl⟩) (fun z s' hz => ?_) fun _ _ e => e)
  obtain ⟨rfl, rfl⟩ := hz
  show wpAny _ _ (if (((its.size : Nat) : Int) - 1 == 0 && (-1 : Int) == 1 && its.size == its.size) = true then _ else _) _ _ s'
  rw [if_neg (by rw [show ((-1 : Int) == 1) = false from rfl, Bool.and_false, Bool.false_and]; exact Bool.false_ne_true)]
  have e : ((List.range its.size).filterMap fun (m : Nat) => its[((((its.size : Nat) : Int) - 1) + (m : Int) * (-1)).toNat]?).toArray = its.toList.reverse.toArray := by rw [pick_back]
  rw [e]
  have fit : its.toList.reverse.toArray.size ≤ sizeLine := by rw [List.size_toArray, List.length_reverse, Array.length_toList]; exact hz
  first
    | exact wpAny_bind (m := Builtin.Tuple.tupleExact _) (wpAny_newObj_type (wpAny_pure ⟨_, rfl, wpAny_pure h⟩) fit)
    | exact wpAny_bind (m := Builtin.Tuple.tupleExact _) (wpAny_newObj_type (wpAny_bind (wpAny_pure (wpAny_pure ⟨_, rfl, wpAny_pure h⟩))) fit)
    | exact wpAny_bind (wpAny_bind (m := Builtin.Tuple.tupleExact _) (wpAny_newObj_type (wpAny_pure (wpAny_pure ⟨_, rfl, wpAny_pure h⟩)) fit))
    | exact wpAny_bind (wpAny_bind (m := Builtin.Tuple.tupleExact _) (wpAny_newObj_type (wpAny_pure ⟨_, rfl, wpAny_pure h⟩) fit))
end
/-- t[::-1] -/
def tRevT (K : PySem.W.Frag) (te : TE) : TE := fun σ H Q => te σ H fun x H1 => ∃ a xs, x = .ref a ∧ SqT K H1 a xs ∧ 1 ≤ xs.length ∧ ∀ p, H1 p = none → Q (.ref p) (upd H1 p (.tup xs.reverse))
theorem vals_rev : ∀ {xs : List V} {us : List Value}, Vals xs us → Vals xs.reverse us.reverse
  | _, _, .nil => .nil
  | _, _, .cons r t => by rw [List.reverse_cons, List.reverse_cons]; exact (vals_rev t).append (.cons r .nil)
theorem pe_revT {X : Cx} {e : Expr} {te : TE} {k : Nat} {p1 p2 p3 pos : Pos} (he : PE X e te) : PE X (.Subscript e (.Slice none none (some (.UnaryOp .USub (.Constant (.int 1) k p1) p2)) p3) pos) (tRevT X.K te) := by
  refine ⟨fun pins s σ H Q I h => Subscript_ (thn (he.run pins s σ H _ I h) fun v s1 ⟨x, H1, I1, r1, a, xs, ex, hx, h1, q⟩ => ?_)⟩
  subst ex
  obtain rfl : v = Value.ref a := r1
  refine wpAny_Slice (thn (po_none.run pins s1 σ H1 (fun o G => o = none ∧ G = H1) I1 ⟨rfl, rfl⟩) fun vl s2 ⟨l, H2, I2, pl, el, e2⟩ => ?_)
  subst el e2
  refine thn (po_none.run pins s2 σ H2 (fun o G => o = none ∧ G = H2) I2 ⟨rfl, rfl⟩) fun vu s3 ⟨u, H3, I3, pu, eu, e3⟩ => ?_
  subst eu e3
  refine thn ((po_some (pe_un un_neg pe_int) : PO X (some (.UnaryOp .USub (.Constant (.int 1) k p1) p2)) (tPart (tUn (rU fun i => .int (-i)) (tC (.int 1))))).run pins s3 σ H3 (fun o G => o = some (-1) ∧ G = H3) I3 ⟨1, rfl, -1, rfl, rfl, rfl⟩) fun vs s4 ⟨o, H4, I4, ps, eo, e4⟩ => ?_
  subst eo e4
  have I5 : Inv X pins σ H4 { s4 with heap := s4.heap.push { cls := .type "slice", data := .fields #[vl, vu, vs] } } := I4.kept (t' := s4.toks) fun b ob z => Heap.get?_push_of_some _ z
  obtain ⟨its, r, ht, hz⟩ := I5.tuple hx
  have ln := r.length
  refine tail_any (ops := [.ref a, .ref s4.heap.objs.size]) ht.typeIs PyProof.Rows.slot_tuple_getitem.lookup (rev_of_any ht (by rw [List.size_toArray, ← ln]; exact h1) (by rw [List.size_toArray, ← ln]; exact hz) (Heap.IsSliceOf.new _ vl vu vs) pl pu ps ?_) (by with_unfolding_all rfl)
  exact ⟨.ref _, _, I5.laid (t' := s4.toks) (o := .tup xs.reverse) (fun b ob z => Heap.get?_push_of_some _ z) (Nat.le_refl _) ⟨by rw [List.length_reverse]; exact hz, its.reverse, vals_rev r, IsTup.new _ _⟩, rfl, q _ (I5.hok.fresh (Nat.le_refl _))⟩
theorem dfs_rev {K : PySem.W.Frag} {F : Addr → Prop} {H : Hp} : ∀ {vs : List V} {ds : List PyData}, DfAll K F H vs ds → DfAll K F H vs.reverse ds.reverse
  | _, _, .nil => .nil
  | _, _, .cons h r => by rw [List.reverse_cons, List.reverse_cons]; exact dfs_app (dfs_rev r) (.cons h .nil)
theorem ed_revT {K : PySem.W.Frag} {σ : L2.St} {F : Addr → Prop} {H : Hp} {te : TE} {xs : List PyData} (h : ED K te σ F H (.tuple xs)) (h1 : 1 ≤ xs.length) : ED K (tRevT K te) σ F H (.tuple xs.reverse) := fun H1 s Q q =>
  h H1 s _ fun v H2 s2 hv => by
    cases hv with
    | tup ht r => exact ⟨_, _, rfl, ht, by rw [dfs_len r]; exact h1, fun p hp => q _ _ (s2.trans (Same.newA hp)) (.tup (.of upd_same) (dfs_mono (Same.newA hp) (fun _ z => z) (dfs_rev r)))⟩
/-! ### t * n, n at least 1 -/
theorem tuple_mul1 (l : Addr) (items : Array Value) (n : Nat) (dd : Option Addr) (sl : Array (Option Value)) (u : Tok) :
    Meets (Builtin.«tuple.__mul__» ⟨[.ref l, .int 1 u], []⟩) (fun _ R s => s.heap.get? l = some { cls := .type "tuple", dict := dd, data := .seq items n, slots := sl } ∧ R (.ok (.ret (Value.ref l))) s) :=
  .of_wp fun prog w A R s h => by
    obtain ⟨hp, g, d, tk, os⟩ := s
    obtain ⟨hl, h⟩ := h
    have f1 := AutoSeq1.idx_int
    wp_walk using wpAny_loadPart' hl
    exact ⟨_, rfl, h⟩
def rRepN (K : PySem.W.Frag) : R2 := fun x y H Q => ∃ (l : Addr) (k : Nat) (xs : List V), x = .ref l ∧ y = .int (k : Int) ∧ SqT K H l xs ∧ xs ≠ [] ∧ 1 ≤ k ∧ k ≤ 1000 ∧ xs.length ≤ 1000 ∧ (k = 1 → Q (.ref l) H) ∧ (2 ≤ k → ∀ p, H p = none → Q (.ref p) (upd H p (.tup (List.replicate k xs).flatten)))
theorem op_repN {X : Cx} : OpR X (binaryOp .Mult) (rRepN X.K) := by
  intro pins s σ H x y v u Q I rx ry h
  obtain ⟨l, k, xs, rfl, rfl, hT, hne, h1, h2, hz, q1, q2⟩ := h
  by_cases hk : k = 1
  · subst hk
    cases rx; obtain ⟨t, rfl⟩ := ry
    obtain ⟨its, r, ⟨⟨cls, dd, data, sl⟩, ho, hc, n, hd⟩, hs⟩ := I.tuple hT
    simp only at hc hd; subst hc hd
    exact wpAny_binaryOp_repeat_ref (T := "tuple") (U := "int") (by decide) ⟨_, ho, rfl⟩ (fun s' => typeIs_int s' 1 t) noFill_tuple_mul F.fills_int_mul F.slot_int_rmul repeat_tuple F.slot_int_index.lookup
      (call_meets F.slot_int_rmul (typeIs_int s 1 t) F.entry_int_rmul (F.args_int_rmul_2 _ _) (int_rmul_tuple 1 t l its.toArray n dd sl)
        ⟨ho, rfl, ⟨_, ho, rfl⟩, call_meets F.slot_tuple_mul ⟨_, ho, rfl⟩ F.entry_tuple_mul (F.args_tuple_mul_2 _ _) (tuple_mul1 l its.toArray n dd sl t) ⟨ho, ⟨.ref l, H, I, rfl, q1 rfl⟩⟩⟩)
  · exact op_repT pins s σ H _ _ v u Q I rx ry ⟨l, (k : Int), xs, rfl, rfl, hT, hne, by omega, by omega, hz, fun p hp => q2 (by omega) p hp⟩
theorem dfs_rep {K : PySem.W.Frag} {F : Addr → Prop} {H : Hp} {vs : List V} {ds : List PyData} (h : DfAll K F H vs ds) : ∀ k : Nat, DfAll K F H (List.replicate k vs).flatten (List.replicate k ds).flatten
  | 0 => .nil
  | k + 1 => by rw [List.replicate_succ, List.replicate_succ, List.flatten_cons, List.flatten_cons]; exact dfs_app h (dfs_rep h k)
theorem ed_repN {K : PySem.W.Frag} {σ : L2.St} {F : Addr → Prop} {H : Hp} {ta tb : TE} {xs : List PyData} {k : Nat} (ha : ED K ta σ F H (.tuple xs)) (hb : ED K tb σ F H (.int (k : Int))) (h0 : 1 ≤ xs.length) (hl : xs.length ≤ 1000) (h1 : 1 ≤ k) (h2 : k ≤ 1000) : ED K (tOp (rRepN K) ta tb) σ F H (.tuple (List.replicate k xs).flatten) :=
  ed_op ha hb fun F a b H1 hx hy Q q => by
    cases hy
    cases hx with
    | tup h r =>
      have ln := dfs_len r
      refine ⟨_, k, _, rfl, rfl, h, (fun z => by rw [z] at ln; simp at ln; omega), h1, h2, by rw [ln]; exact hl, fun e => ?_, fun _ p hp => q _ _ (Same.newA hp) (.tup (.of upd_same) (dfs_mono (Same.newA hp) (fun _ z => .inl z) (dfs_rep r k)))⟩
      subst e
      have e1 : (List.replicate 1 xs).flatten = xs := by simp
      exact q _ _ (Same.refl _) (by rw [e1]; exact .tup h (dfs_mono (Same.refl _) (fun _ z => .inl z) r))
end Ag

set_option Elab.async false
set_option linter.all false
set_option maxRecDepth 100000
set_option maxHeartbeats 4000000
set_option pp.maxSteps 400
/-! t * n of any n from 0 on. -/
namespace Ag
open PySem PySem.Spec PyProof.Rows L2
theorem tuple_mul0 (l : Addr) (items : Array Value) (n : Nat) (dd : Option Addr) (sl : Array (Option Value)) (u : Tok) (c1 : (items.isEmpty || (0 : Int) == 1) = false) :
    Meets (Builtin.«tuple.__mul__» ⟨[.ref l, .int 0 u], []⟩) (fun _ R s => s.heap.get? l = some { cls := .type "tuple", dict := dd, data := .seq items n, slots := sl } ∧
      R (.ok (.ret (Value.ref s.heap.objs.size))) { s with heap := s.heap.push { cls := Value.type "tuple", data := Data.seq #[] }, toks := s.toks }) :=
  .of_wp fun prog w A R s h => by
    obtain ⟨hp, g, d, tk, os⟩ := s
    obtain ⟨hl, h⟩ := h
    have f1 := AutoSeq1.idx_int
    wp_walk using wpAny_loadPart' hl
    repeat (first
      | (refine wpAny_ite_false (decide_eq_false (by rw [c1]; exact Bool.false_ne_true)) ?_; wp_walk using wpAny_loadPart' hl))
    exact ⟨_, rfl, h⟩
/-- t * n -/
def rRep0 (K : PySem.W.Frag) : R2 := fun x y H Q => ∃ (l : Addr) (k : Nat) (xs : List V), x = .ref l ∧ y = .int (k : Int) ∧ SqT K H l xs ∧ xs ≠ [] ∧ k ≤ 1000 ∧ xs.length ≤ 1000 ∧ (k = 1 → Q (.ref l) H) ∧ (k ≠ 1 → ∀ p, H p = none → Q (.ref p) (upd H p (.tup (List.replicate k xs).flatten)))
theorem op_rep0 {X : Cx} : OpR X (binaryOp .Mult) (rRep0 X.K) := by
  intro pins s σ H x y v u Q I rx ry h
  obtain ⟨l, k, xs, rfl, rfl, hT, hne, h2, hz, q1, q2⟩ := h
  by_cases hk : k = 0
  · subst hk
    cases rx; obtain ⟨t, rfl⟩ := ry
    obtain ⟨its, r, ⟨⟨cls, dd, data, sl⟩, ho, hc, n, hd⟩, hs⟩ := I.tuple hT
    simp only at hc hd; subst hc hd
    have ln := r.length
    have c1 : (its.toArray.isEmpty || (0 : Int) == 1) = false := by
      cases its with
      | nil => rw [List.length_nil] at ln; exact absurd (List.length_eq_zero_iff.mp ln) hne
      | cons a b => rfl
    exact wpAny_binaryOp_repeat_ref (T := "tuple") (U := "int") (by decide) ⟨_, ho, rfl⟩ (fun s' => typeIs_int s' 0 t) noFill_tuple_mul F.fills_int_mul F.slot_int_rmul repeat_tuple F.slot_int_index.lookup
      (call_meets F.slot_int_rmul (typeIs_int s 0 t) F.entry_int_rmul (F.args_int_rmul_2 _ _) (int_rmul_tuple 0 t l its.toArray n dd sl)
        ⟨ho, rfl, ⟨_, ho, rfl⟩, call_meets F.slot_tuple_mul ⟨_, ho, rfl⟩ F.entry_tuple_mul (F.args_tuple_mul_2 _ _) (tuple_mul0 l its.toArray n dd sl t c1) ⟨ho,
          ⟨.ref s.heap.objs.size, _, I.laid (t' := s.toks) (o := .tup []) (fun b ob z => Heap.get?_push_of_some _ z) (Nat.le_refl _) ⟨Nat.zero_le _, [], .nil, IsTup.new _ _⟩, rfl, q2 (by decide) _ (I.hok.fresh (Nat.le_refl _))⟩⟩⟩)
  · exact op_repN pins s σ H _ _ v u Q I rx ry ⟨l, k, xs, rfl, rfl, hT, hne, by omega, h2, hz, q1, fun z p hp => q2 (by omega) p hp⟩
theorem ed_rep0 {K : PySem.W.Frag} {σ : L2.St} {F : Addr → Prop} {H : Hp} {ta tb : TE} {xs : List PyData} {k : Nat} (ha : ED K ta σ F H (.tuple xs)) (hb : ED K tb σ F H (.int (k : Int))) (h0 : 1 ≤ xs.length) (hl : xs.length ≤ 1000) (h2 : k ≤ 1000) : ED K (tOp (rRep0 K) ta tb) σ F H (.tuple (List.replicate k xs).flatten) :=
  ed_op ha hb fun F a b H1 hx hy Q q => by
    cases hy
    cases hx with
    | tup h r =>
      have ln := dfs_len r
      refine ⟨_, k, _, rfl, rfl, h, (fun z => by rw [z] at ln; simp at ln; omega), h2, by rw [ln]; exact hl, fun e => ?_, fun _ p hp => q _ _ (Same.newA hp) (.tup (.of upd_same) (dfs_mono (Same.newA hp) (fun _ z => .inl z) (dfs_rep r k)))⟩
      subst e
      have e1 : (List.replicate 1 xs).flatten = xs := by simp
      exact q _ _ (Same.refl _) (by rw [e1]; exact .tup h (dfs_mono (Same.refl _) (fun _ z => .inl z) r))
end Ag

set_option Elab.async false
set_option linter.all false
set_option maxRecDepth 100000
set_option maxHeartbeats 2000000
set_option pp.maxSteps 300
/-! <= of two tuples of texts. -/
namespace Ag
open PySem PySem.Spec PyProof.Rows L2
theorem lex_shift {e r : Nat → Bool} {z : Bool} : ∀ (k i : Nat), Ob.lexAt e r z (i + 1) k = Ob.lexAt (fun j => e (j + 1)) (fun j => r (j + 1)) z i k
  | 0, _ => rfl
  | k + 1, i => by rw [Ob.lexAt_succ, Ob.lexAt_succ, lex_shift k (i + 1)]
def rkL (xs : List Str) : Rk := xs.map fun x => x.cps.toList
theorem lex_tx : ∀ xs ys : List Str, Ob.lexAt (fun j => decide (xs.getD j "" = ys.getD j "")) (fun j => !decide ((ys.getD j "").cps.toList < (xs.getD j "").cps.toList)) (decide (xs.length ≤ ys.length)) 0 (min xs.length ys.length) = decide (rkL xs ≤ rkL ys)
  | [], ys => by
    rw [List.length_nil, Nat.zero_min, Ob.lexAt_zero, decide_eq_true (Nat.zero_le _)]
    exact (decide_eq_true (show rkL [] ≤ rkL ys from List.nil_le _)).symm
  | x :: xs, [] => by
    rw [List.length_nil, Nat.min_zero, Ob.lexAt_zero, decide_eq_false (by simp), decide_eq_false (by simp [rkL])]
  | x :: xs, y :: ys => by
    have ih := lex_tx xs ys
    rw [List.length_cons, List.length_cons, Nat.succ_min_succ, Ob.lexAt_succ]
    by_cases h : x = y
    · subst h
      rw [if_pos (show decide ((x :: xs).getD 0 "" = (x :: ys).getD 0 "") = true from decide_eq_true rfl), lex_shift]
      have e1 : decide (xs.length + 1 ≤ ys.length + 1) = decide (xs.length ≤ ys.length) := decide_eq_decide.mpr (by omega)
      rw [e1]
      refine Eq.trans ih (decide_eq_decide.mpr ?_)
      show rkL xs ≤ rkL ys ↔ x.cps.toList :: rkL xs ≤ x.cps.toList :: rkL ys
      rw [List.cons_le_cons_iff]
      exact ⟨fun k => .inr ⟨rfl, k⟩, fun k => k.elim (fun z => absurd z (List.lt_irrefl _)) fun z => z.2⟩
    · rw [if_neg (show ¬ decide ((x :: xs).getD 0 "" = (y :: ys).getD 0 "") = true from fun z => h (of_decide_eq_true z))]
      show (!decide (y.cps.toList < x.cps.toList)) = decide (x.cps.toList :: rkL xs ≤ y.cps.toList :: rkL ys)
      rw [← decide_not]
      refine decide_eq_decide.mpr ?_
      rw [List.cons_le_cons_iff]
      constructor
      · intro k
        refine .inl (List.not_le.mp fun z => h (cps_inj (List.le_antisymm (List.not_lt.mp k) z)))
      · intro k
        rcases k with k | k
        · exact fun z => absurd (List.lt_trans k z) (List.lt_irrefl _)
        · exact absurd (cps_inj k.1) h
def rLeTx (K : PySem.W.Frag) : R2 := fun x y H Q => ∃ (a b : Addr) (xs ys : List Str), x = .ref a ∧ y = .ref b ∧ SqT K H a (xs.map V.str) ∧ SqT K H b (ys.map V.str) ∧ Q (.bl (decide (rkL xs ≤ rkL ys))) H
theorem op_leTx {X : Cx} (hu : X.A.units < cLine) : OpR X (compareOp .LtE) (rLeTx X.K) := by
  intro pins s σ H x y v u Q I rx ry h
  obtain ⟨a, b, ns, ms, rfl, rfl, ha, hb, q⟩ := h
  cases rx
  cases ry
  obtain ⟨its, r1, p1, _⟩ := I.tuple ha
  obtain ⟨its2, r2, p2, _⟩ := I.tuple hb
  have e1 : its.toArray.size = ns.length := by have := r1.length; rw [List.length_map] at this; rw [List.size_toArray]; exact this.symm
  have e2 : its2.toArray.size = ms.length := by have := r2.length; rw [List.length_map] at this; rw [List.size_toArray]; exact this.symm
  have at_ : ∀ {ks : List Str} {us : List Value}, Vals (ks.map V.str) us → ∀ j (h1 : j < us.toArray.size), ∃ t, us.toArray[j] = .str (ks.getD j "") t := fun {ks us} r j h1 => by
    have hl := r.length
    rw [List.length_map] at hl
    have h2 : j < us.length := by simpa using h1
    have hj : j < ks.length := by omega
    obtain ⟨w, hw, rw_⟩ := r.get (i := j) (x := .str ks[j]) (by rw [List.getElem?_map, List.getElem?_eq_getElem hj]; rfl)
    obtain ⟨t, rfl⟩ := rw_
    refine ⟨t, ?_⟩
    rw [List.getElem?_eq_getElem h2] at hw
    have e : us[j] = .str ks[j] t := Option.some.inj hw
    rw [List.getElem_toArray, e, List.getD_eq_getElem?_getD, List.getElem?_eq_getElem hj]
    rfl
  have R := Ob.RcOp.tuples_le (A := X.A) (s := s) (e := fun j => decide (ns.getD j "" = ms.getD j "")) (r := fun j => !decide ((ms.getD j "").cps.toList < (ns.getD j "").cps.toList)) p1 p2 hu (fun j h1 h2 => by
    obtain ⟨t, et⟩ := at_ r1 j h1
    obtain ⟨t', et'⟩ := at_ r2 j h2
    rw [et, et']
    have z : (ns.getD j "" == ms.getD j "") = decide (ns.getD j "" = ms.getD j "") := by
      by_cases q : ns.getD j "" = ms.getD j ""
      · rw [decide_eq_true q]; exact beq_iff_eq.mpr q
      · rw [decide_eq_false q]; exact beq_eq_false_iff_ne.mpr q
    rw [← z]
    exact SeqAt.EqAt.str_str _ _ _ _) (fun j h1 h2 _ => by
    obtain ⟨t, et⟩ := at_ r1 j h1
    obtain ⟨t', et'⟩ := at_ r2 j h2
    rw [et, et']
    exact fun _ _ _ _ h => PySem.P.le_str h)
  rw [e1, e2, lex_tx] at R
  exact R X.prog X.w X.xe (EP X pins σ Q) ⟨.bl _, H, I, rfl, q⟩
end Ag

set_option Elab.async false
set_option linter.all false
set_option maxRecDepth 100000
set_option maxHeartbeats 2000000
set_option pp.maxSteps 400
namespace Ag
open PySem PySem.Spec PyProof.Rows L2
open PySem.W (alike)
/-! ### the greatest row that begins so -/
def ZZ : Str := "zzzzzzzzzzzz"
def padS (B : List Str) : List Str := B ++ List.replicate (3 - B.length) ZZ
def r3 (r : Rw) : List Str := [r.1, r.2.1, r.2.2]
def topR : Rw := (ZZ, ZZ, ZZ)
theorem le_rep : ∀ (n : Nat) (l : List Nat), (∀ c ∈ l, c ≤ 122) → l.length ≤ n → l ≤ List.replicate n 122
  | _, [], _, _ => List.nil_le _
  | 0, c :: l, _, h => absurd h (by simp)
  | n + 1, c :: l, h, hl => by
    rw [List.replicate_succ]
    have ih := le_rep n l (fun x hx => h x (List.mem_cons_of_mem _ hx)) (by simpa using hl)
    have hc := h c List.mem_cons_self
    rw [List.cons_le_cons_iff]
    rcases Nat.lt_or_eq_of_le hc with hc | hc
    · exact .inl hc
    · exact .inr ⟨hc, ih⟩
theorem name_le {x : Str} (h : nameB x = true) : x.cps.toList ≤ ZZ.cps.toList := by
  have z : ZZ.cps.toList = List.replicate 12 122 := by decide +kernel
  rw [z]
  unfold nameB at h
  simp only [Bool.and_eq_true, decide_eq_true_eq] at h
  refine le_rep 12 _ (fun c hc => ?_) ?_
  · have := List.all_eq_true.mp h.2 c hc
    rcases Bool.or_eq_true_iff.mp this with k | k
    · have := of_decide_eq_true k; omega
    · have := of_decide_eq_true k; omega
  · have := h.1.1.2
    have e : x.length = x.cps.toList.length := by simp [Str.length]
    omega
theorem name_sign {x : Str} (h : nameB x = true) : ∀ c ∈ x.cps.toList, c ≠ 32 ∧ c ≠ 10 := by
  intro c hc
  unfold nameB at h
  have key := List.all_eq_true.mp (Bool.and_eq_true_iff.mp h).2 c hc
  rcases Bool.or_eq_true_iff.mp key with k | k
  · have := of_decide_eq_true k; omega
  · have := of_decide_eq_true k; omega
theorem le_all : ∀ {xs ys : Rk}, xs.length = ys.length → (∀ (i : Nat) x y, xs[i]? = some x → ys[i]? = some y → x ≤ y) → xs ≤ ys
  | [], [], _, _ => List.le_refl _
  | [], _ :: _, h, _ => by simp at h
  | _ :: _, [], h, _ => by simp at h
  | x :: xs, y :: ys, h, hi => by
    have h0 := hi 0 x y rfl rfl
    have ih := le_all (xs := xs) (ys := ys) (by simpa using h) fun i a b ha hb => hi (i + 1) a b ha hb
    rw [List.cons_le_cons_iff]
    by_cases e : x = y
    · exact .inr ⟨e, ih⟩
    · exact .inl (List.not_le.mp fun c => e (List.le_antisymm h0 c))
theorem pad_le {r : Rw} (g : goodR r) {B : List Str} (hb : B = [r.1] ∨ B = [r.1, r.2.1] ∨ B = [r.1, r.2.1, r.2.2]) : rkR r ≤ rkL (padS B) := by
  obtain ⟨a, b, c⟩ := r
  have hb2 := name_le g.2.1
  have hc := name_le g.2.2
  rcases hb with rfl | rfl | rfl
  · show [a.cps.toList, b.cps.toList, c.cps.toList] ≤ [a.cps.toList, ZZ.cps.toList, ZZ.cps.toList]
    refine le_all rfl fun i x y hx hy => ?_
    match i, hx, hy with
    | 0, hx, hy => cases hx; cases hy; exact List.le_refl _
    | 1, hx, hy => cases hx; cases hy; exact hb2
    | 2, hx, hy => cases hx; cases hy; exact hc
  · show [a.cps.toList, b.cps.toList, c.cps.toList] ≤ [a.cps.toList, b.cps.toList, ZZ.cps.toList]
    refine le_all rfl fun i x y hx hy => ?_
    match i, hx, hy with
    | 0, hx, hy => cases hx; cases hy; exact List.le_refl _
    | 1, hx, hy => cases hx; cases hy; exact List.le_refl _
    | 2, hx, hy => cases hx; cases hy; exact hc
  · exact List.le_refl _
theorem rk_ltle {a b c : Rk} (h : a < b) (k : b ≤ c) : a < c := List.not_le.mp fun z => absurd h (List.not_lt.mpr (rk_letrans k z))
theorem under_top {r : Rw} (g : goodR r) : rkR r ≤ rkR topR := le_all rfl fun i x y hx hy => by
  match i, hx, hy with
  | 0, hx, hy => cases hx; cases hy; exact name_le g.1
  | 1, hx, hy => cases hx; cases hy; exact name_le g.2.1
  | 2, hx, hy => cases hx; cases hy; exact name_le g.2.2
theorem flat_one {α : Type} (a : α) : ∀ n : Nat, (List.replicate n [a]).flatten = List.replicate n a
  | 0 => rfl
  | n + 1 => by rw [List.replicate_succ, List.replicate_succ, List.flatten_cons, flat_one a n]; rfl
/-! ### the first wrong place -/
/-- the word may stand behind B, the last row being told -/
def fitB (last : Option Rw) (B : List Str) (x : Str) : Bool := match last with
  | none => true
  | some r => decide (rkR r < rkL (padS (B ++ [x])))
def goW (last : Option Rw) : List Str → List Str → Option Nat
  | B, [] => if B.length < 3 then some (B.length + 1) else none
  | B, x :: ws => if (decide (B.length = 3) || !(nameB x && fitB last B x)) = true then some (B.length + 1) else goW last (B ++ [x]) ws
def rowOf : List Str → Rw
  | [a, b, c] => (a, b, c)
  | _ => (ZZ, ZZ, ZZ)
def goP : Option Rw → Nat → Nat → List (List Str) → Option (Nat × Nat)
  | _, _, _, [] => none
  | last, at_, prev, l :: ls => if last = some topR then some (at_, prev + 1) else match goW last [] l with
    | some k => some (at_ + 1, k)
    | none => goP (some (rowOf l)) (at_ + 1) l.length ls
def wrongL : List (List Str) → Option (Nat × Nat)
  | [] => none
  | h :: ls => if h.head? ≠ some ("halls" : Str) then some (1, 1) else if 1 < h.length then some (1, 2) else goP none 1 h.length ls
theorem goW_cons {last : Option Rw} {B ws : List Str} {x : Str} (h : goW last B (x :: ws) = none) : B.length ≠ 3 ∧ nameB x = true ∧ fitB last B x = true ∧ goW last (B ++ [x]) ws = none := by
  unfold goW at h
  by_cases e : (decide (B.length = 3) || !(nameB x && fitB last B x)) = true
  · rw [if_pos e] at h; cases h
  · rw [if_neg e] at h
    simp only [Bool.or_eq_true, decide_eq_true_eq, Bool.not_eq_true', not_or, Bool.not_eq_false, Bool.and_eq_true] at e
    exact ⟨e.1, e.2.1, e.2.2, h⟩
theorem goW_nil {last : Option Rw} {B : List Str} (h : goW last B [] = none) : 3 ≤ B.length := by
  unfold goW at h
  by_cases e : B.length < 3
  · rw [if_pos e] at h; cases h
  · omega
theorem goW_none {last : Option Rw} {ws : List Str} (h : goW last [] ws = none) : ∃ r, ws = r3 r ∧ goodR r ∧ ∀ r0, last = some r0 → rkR r0 < rkR r := by
  match ws, h with
  | [], h => exact absurd (goW_nil h) (by decide)
  | [a], h => exact absurd (goW_nil (goW_cons h).2.2.2) (by show ¬ 3 ≤ 1; decide)
  | [a, b], h => exact absurd (goW_nil (goW_cons (goW_cons h).2.2.2).2.2.2) (by show ¬ 3 ≤ 2; decide)
  | a :: b :: c :: d :: ws, h => exact absurd rfl (goW_cons (goW_cons (goW_cons (goW_cons h).2.2.2).2.2.2).2.2.2).1
  | [a, b, c], h =>
    obtain ⟨_, n1, _, h⟩ := goW_cons h
    obtain ⟨_, n2, _, h⟩ := goW_cons h
    obtain ⟨_, n3, f3, h⟩ := goW_cons h
    refine ⟨(a, b, c), rfl, ⟨n1, n2, n3⟩, fun r0 e => ?_⟩
    subst e
    exact of_decide_eq_true f3
theorem goW_row {last : Option Rw} {r : Rw} (g : goodR r) (h : ∀ r0, last = some r0 → rkR r0 < rkR r) : goW last [] (r3 r) = none := by
  have ft : ∀ B x, (B ++ [x] = [r.1] ∨ B ++ [x] = [r.1, r.2.1] ∨ B ++ [x] = [r.1, r.2.1, r.2.2]) → fitB last B x = true := fun B x hb => by
    cases last with
    | none => rfl
    | some r0 => exact decide_eq_true (rk_ltle (h r0 rfl) (pad_le g hb))
  have f1 := ft [] r.1 (.inl rfl)
  have f2 := ft [r.1] r.2.1 (.inr (.inl rfl))
  have f3 := ft [r.1, r.2.1] r.2.2 (.inr (.inr rfl))
  simp [goW, r3, g.1, g.2.1, g.2.2, f1, f2, f3]
theorem goP_none : ∀ {ls : List (List Str)} {last : Option Rw} {a n : Nat}, goP last a n ls = none → ∃ S : List Rw, ls = S.map r3 ∧ Up rkR S ∧ (∀ r ∈ S, goodR r) ∧ ∀ r0, last = some r0 → ∀ r ∈ S, rkR r0 < rkR r
  | [], _, _, _, _ => ⟨[], rfl, .nil, (fun _ h => nomatch h), fun _ _ _ h => nomatch h⟩
  | l :: ls, last, a, n, h => by
    unfold goP at h
    by_cases e : last = some topR
    · rw [if_pos e] at h; cases h
    · rw [if_neg e] at h
      cases hg : goW last [] l with
      | some k => rw [hg] at h; cases h
      | none =>
        rw [hg] at h
        obtain ⟨r, rfl, gr, hr⟩ := goW_none hg
        obtain ⟨S, rfl, up, gS, hS⟩ := goP_none h
        have er : rowOf (r3 r) = r := rfl
        have hS := hS r (congrArg some er)
        refine ⟨r :: S, rfl, List.pairwise_cons.mpr ⟨hS, up⟩, fun s hs => ?_, fun r0 e0 s hs => ?_⟩
        · rcases List.mem_cons.mp hs with rfl | hs
          · exact gr
          · exact gS s hs
        · rcases List.mem_cons.mp hs with rfl | hs
          · exact hr r0 e0
          · exact rk_trans (hr r0 e0) (hS s hs)
theorem goP_rows : ∀ {S : List Rw} {last : Option Rw} {a n : Nat}, Up rkR S → (∀ r ∈ S, goodR r) → (∀ r0, last = some r0 → ∀ r ∈ S, rkR r0 < rkR r) → goP last a n (S.map r3) = none
  | [], _, _, _, _, _, _ => rfl
  | r :: S, last, a, n, up, g, h => by
    have gr := g r List.mem_cons_self
    rw [List.map_cons]
    unfold goP
    have e : ¬ last = some topR := fun e => absurd (h _ e r List.mem_cons_self) (List.not_lt.mpr (under_top gr))
    rw [if_neg e, goW_row gr fun r0 e0 => h r0 e0 r List.mem_cons_self]
    have up := List.pairwise_cons.mp up
    exact goP_rows up.2 (fun s hs => g s (List.mem_cons_of_mem _ hs)) fun r0 e0 s hs => by
      cases e0; exact up.1 s hs
/-! ### a server's text -/
def rowT (r : Rw) : Str := Txt.join " " (r3 r)
def txtL (S : List Rw) : List Str := ("halls" : Str) :: S.map rowT
def srvT (S : List Rw) : Str := Txt.join "\n" (txtL S)
def wrdL (S : List Rw) : List (List Str) := [("halls" : Str)] :: S.map r3
def wrdsOf (t : Str) : List (List Str) := (Txt.split t "\n").map fun x => Txt.split x " "
def wrongP (t : Str) : Option (Nat × Nat) := wrongL (wrdsOf t)
theorem wrongL_none {ls : List (List Str)} (ne : ls ≠ []) (nw : ∀ l ∈ ls, l ≠ []) (h : wrongL ls = none) : ∃ S : List Rw, ls = wrdL S ∧ Up rkR S ∧ ∀ r ∈ S, goodR r := by
  match ls, ne, h with
  | l :: ls, _, h =>
    dsimp only [wrongL] at h
    by_cases e : l.head? ≠ some ("halls" : Str)
    · rw [if_pos e] at h; cases h
    · rw [if_neg e] at h
      by_cases e2 : 1 < l.length
      · rw [if_pos e2] at h; cases h
      · rw [if_neg e2] at h
        obtain ⟨S, rfl, up, g, _⟩ := goP_none h
        refine ⟨S, ?_, up, g⟩
        have e := Decidable.not_not.mp e
        match l, e, e2 with
        | [x], e, _ => have : x = "halls" := by simpa using e
                       subst this; rfl
        | x :: y :: l, _, e2 => exact absurd (by simp) e2
theorem back_lines (t : Str) : Txt.join "\n" ((wrdsOf t).map fun ws => Txt.join " " ws) = t := by
  unfold wrdsOf
  rw [List.map_map]
  have e : ((Txt.split t "\n").map ((fun ws => Txt.join " " ws) ∘ fun x => Txt.split x " ")) = Txt.split t "\n" := by
    have : ∀ x : Str, ((fun ws => Txt.join " " ws) ∘ fun x => Txt.split x " ") x = x := fun x => by
      show Txt.join " " (Txt.split x " ") = x
      rw [TL.join_eq]; exact PySem.StrLaws.join_split x " "
    rw [List.map_congr_left fun x _ => this x, List.map_id']
  rw [e, TL.join_eq]
  exact PySem.StrLaws.join_split t "\n"
theorem srvT_of {t : Str} {S : List Rw} (h : wrdsOf t = wrdL S) : t = srvT S := by
  have e := back_lines t
  rw [h] at e
  rw [← e]
  show Txt.join "\n" (Txt.join " " [("halls" : Str)] :: (S.map r3).map fun ws => Txt.join " " ws) = srvT S
  rw [List.map_map]
  have z : Txt.join " " [("halls" : Str)] = ("halls" : Str) := by rw [TL.join_eq]; rfl
  rw [z]; rfl
end Ag

set_option Elab.async false
set_option linter.all false
set_option maxRecDepth 100000
set_option maxHeartbeats 2000000
set_option pp.maxSteps 400
namespace Ag
open PySem PySem.Spec PyProof.Rows L2
open PySem.W (alike)
theorem ed_notN {K : PySem.W.Frag} {σ : L2.St} {F : Addr → Prop} {H : Hp} {ta : TE} {d : PyData} (ha : ED K ta σ F H d) : ED K (tOp (fun x y H Q => y = .non ∧ Q (.bl (!decide (x = .non))) H) ta (tC .non)) σ F H (.bool (!isNone d)) := fun H1 s Q q =>
  ha H1 s _ fun v H2 s2 hv => by
    refine ⟨rfl, ?_⟩
    have e : decide (v = .non) = isNone d := by
      cases hv <;> simp [isNone]
    rw [e]
    exact q _ _ s2 (.bl _)
def spLN : Sp := fun vs H Q _ => ∃ x : Str, vs = [.str x] ∧ gd (.str x) = true ∧ ∀ H', Same H H' → Q (.bl (nameB x)) H'
theorem rdc_ln {K : PySem.W.Frag} {E : XK} {x : Str} (g : gd (.str x) = true) : RDC K (fun vs H Q => spLN vs H Q E) [.str x] (.bool (nameB x)) := fun F vs H1 hv Q q => by
  cases hv with
  | cons a r => cases r; cases a; exact ⟨x, rfl, g, fun H' s => q _ H' s (.bl _)⟩
/-- for over a list of texts -/
theorem s_forL {K : PySem.W.Frag} {σ : L2.St} {H : Hp} {te : TE} {D : Ends} {xs : List Str} {g : TG} {tb : TS} (he : EL te σ H xs) (I : Nat → L2.St → Hp → Prop) (h0 : ∀ H1, Same H H1 → I 0 σ H1)
    (step : ∀ B, Same H B → ∀ i σ1 H1, Same B H1 → I i σ1 H1 → ∀ x, xs[i]? = some x → g (.str x) σ1 H1 fun σ2 H3 => tb { D with nx := fun σ3 H4 => Same B H4 ∧ I (i + 1) σ3 H4, ct := fun σ3 H4 => Same B H4 ∧ I (i + 1) σ3 H4, bk := D.nx } σ2 H3)
    (fin : ∀ σ1 H1, Same H H1 → I xs.length σ1 H1 → D.nx σ1 H1) : tFor (iList K te) g tb D σ H := by
  refine he H (Same.refl _) _ fun q H2 s2 eq => ⟨q, rfl, ⟨_, SqL.of eq⟩, for_list (K := K) (a := q) (xs := xs.map V.str) (fun i σ H' => Same H2 H' ∧ I i σ H') ⟨Same.refl _, h0 _ s2⟩ (fun i σ H' _ h => SqL.of (h.1 _ _ eq)) (fun i v σ1 H1 hv h => ?_) (fun σ1 H1 h => fin _ _ (s2.trans h.1) (by have := h.2; rw [List.length_map] at this; exact this))⟩
  obtain ⟨x, hx, rfl⟩ := str_at hv
  exact step H2 s2 i σ1 H1 h.1 h.2 x hx
def lastD : Option Rw → PyData
  | none => .none
  | some r => rowD r
/-- raise C(x, y) of two numbers -/
theorem raiseE {K : PySem.W.Frag} {C : Addr} {f g : Str} {σ : L2.St} {F : Addr → Prop} {H : Hp} {E : XK} {ta : TA} {x y : Int} (h : EA K ta σ F H [.int x, .int y]) (k : ∀ H', Same H H' → Out2 C f g (.int x) (.int y) H' E) : tMkO C (spEx2 C f g) [] ta σ H E :=
  h H (Same.refl _) _ fun vs H1 s1 hv => by
    cases hv with
    | cons a r =>
      cases r with
      | cons b r =>
        cases r; cases a; cases b
        refine ⟨(by decide : 2 ≤ 1000), fun a ha => ?_⟩
        refine ⟨a, .int x, .int y, rfl, upd_same, fun d H' hd nda keep ea ed => ⟨rfl, d, _, ea, ed, ?_, k H1 s1 d _ (fun b o e => ?_) ?_ upd_same⟩⟩
        · rw [upd_ne nda] at hd; exact hd
        · have nba : b ≠ a := ne_of_none e ha
          rw [upd_ne nda] at hd
          rw [upd_ne (ne_of_none e hd), del_ne nba]
          exact keep b o nba (by rw [upd_ne nba]; exact e)
        · rw [upd_ne nda] at hd; exact hd
def spRight (K : PySem.W.Frag) : Sp := fun vs H Q _ => ∃ (l b : V) (x : Str) (last : Option Rw) (B : List Str), vs = [l, b, .str x] ∧ Dp K H l (lastD last) ∧ Dp K H b (txD B) ∧ B.length ≤ 2 ∧ gd (.str x) = true ∧ ∀ H', Same H H' → Q (.bl (nameB x && fitB last B x)) H'
theorem rdc_right {K : PySem.W.Frag} {E : XK} {last : Option Rw} {B : List Str} {x : Str} (bl : B.length ≤ 2) (nx : gd (.str x) = true) : RDC K (fun vs H Q => spRight K vs H Q E) [lastD last, txD B, .str x] (.bool (nameB x && fitB last B x)) := fun F vs H1 hv Q q => by
  cases hv with
  | cons a r =>
    cases r with
    | cons b r =>
      cases r with
      | cons c r => cases r; cases c; exact ⟨_, _, x, last, B, rfl, df_dp a, df_dp b, bl, nx, fun H' s => q _ H' s (.bl _)⟩
theorem tx_snoc (B : List Str) (x : Str) : txD (B ++ [x]) = .tuple (B.map .str ++ [.str x]) := by unfold txD; rw [List.map_append]; rfl
/-- filled up -/
theorem ed_pad {K : PySem.W.Frag} {σ : L2.St} {F : Addr → Prop} {H : Hp} {B : List Str} {i : Nat} {v : V} (h : σ[i]? = some (some v)) (hv : Df K F H v (txD B)) (l : B.length ≤ 3) :
    ED K (tOp (rCatA K) (tVar i) (tOp (rRep0 K) (tTup (tCons (tC (.str "zzzzzzzzzzzz")) tNil)) (tOp (rI0 fun i j => .int (i - j)) (tC (.int 3)) (tCB (fun xs H Q => ∃ x n, xs = [x] ∧ LenV K x H n ∧ Q (.int n) H) (tCons (tVar i) tNil))))) σ F H (txD (padS B)) := by
  refine ed_is (ed_catT (ed_var h hv) (ed_rep0 (k := 3 - B.length) (xs := [.str ZZ]) (ed_tup (ea_cons ed_str ea_nil) (by show 1 ≤ 100000; decide)) (ed_is (ed_sub ed_int (ed_len (ed_var h hv) rfl)) ?_) (by show 1 ≤ 1; decide) (by show 1 ≤ 1000; decide) (by omega)) ?_) ?_
  · show PyData.int (3 - (((B.map PyData.str).length : Nat) : Int)) = _
    rw [List.length_map]
    exact congrArg PyData.int (by omega)
  · rw [List.length_map, flat_one, List.length_replicate]; omega
  · rw [flat_one]; unfold txD padS; rw [List.map_append, List.map_replicate]
def spReadRow (K : PySem.W.Frag) (BT : Addr) : Sp := fun vs H Q E => ∃ (a : Addr) (z : Int) (l : V) (last : Option Rw) (ws : List Str), vs = [.ref a, .int z, l] ∧ H a = some (.lst (ws.map V.str)) ∧ Dp K H l (lastD last) ∧ (∀ x ∈ ws, gd (.str x) = true) ∧
  (∀ k H', goW last [] ws = some k → Same H H' → Out2 BT "line" "word" (.int z) (.int (k : Nat)) H' E) ∧ ∀ y H', goW last [] ws = none → Same H H' → Dp K H' y (txD ws) → Q y H'
def spLW (K : PySem.W.Frag) : Sp := fun vs H Q _ => ∃ (a : Addr) (l : V) (last : Option Rw) (ws : List Str), vs = [.ref a, l] ∧ H a = some (.lst (ws.map V.str)) ∧ Dp K H l (lastD last) ∧ (∀ x ∈ ws, gd (.str x) = true) ∧
  (∀ k H', goW last [] ws = some k → Same H H' → Q (.int (k : Nat)) H') ∧ (goW last [] ws = none → ∀ H', Same H H' → Q .non H')
theorem goW_end {last : Option Rw} {ws : List Str} (e : goW last [] ws = goW last (ws.take ws.length) (ws.drop ws.length)) : goW last [] ws = if ws.length < 3 then some (ws.length + 1) else none := by
  rw [e, List.take_length, List.drop_length]; rfl
theorem goW_step {last : Option Rw} {ws : List Str} {i : Nat} {x : Str} (hx : ws[i]? = some x) (e : goW last [] ws = goW last (ws.take i) (ws.drop i)) :
    goW last [] ws = if (decide (i = 3) || !(nameB x && fitB last (ws.take i) x)) = true then some (i + 1) else goW last (ws.take (i + 1)) (ws.drop (i + 1)) := by
  have hi := (List.getElem?_eq_some_iff.mp hx).1
  have ex : ws[i] = x := by rw [List.getElem?_eq_getElem hi] at hx; exact Option.some.inj hx
  have ln : (ws.take i).length = i := by rw [List.length_take]; omega
  rw [e, List.drop_eq_getElem_cons hi, ex, goW, ln, take_snoc hx]
section
variable {P : Program} {w : World} {K : PySem.W.Frag} {mg : Str → Option Value} {base : Heap} (T : Txt w K mg)
theorem ok_law_is_name : FnOk P w K mg base CX0 1 T.a_law_is_name T.d_law_is_name ["value"] spLN := by
  refine T.D_law_is_name.fn.ok sc_law_is_name (fun vs H Q E h => ?_) (fun cdv A outer s H vs Q E hr h => ?_)
  · obtain ⟨x, rfl, _⟩ := h; rfl
  · obtain ⟨x, rfl, hd, k⟩ := h
    refine ⟨_, (pss_cons (ps_if (PW.pt (pw_or (pt_not (pt_chain op_le op_le pe_int (pe_callB call_len (by rfl) T.b_len bt_len (pa_cons (pv 0) pa_nil)) pe_int)) (pw_or1 (pt_cmpR op_notIn_sign (pe_ix (r := rIx K) ix_seq (pv 0) pe_int (fun _ _ => rfl)) pe_str rfl)))) (pss_one (ps_ret pe_bl)) pss_nil)
      (pss_one (ps_ret (pe_cmpR (op_eqE hr.units) (pe_lc (own := [("sign", 1)]) rfl sc_law_is_name.nd (pi_str (pv 0)) (blkOk_by (own := [("sign", 1)]) (N := ["value", "sign"]) (sc := defScope s_law_is_name) (by decide +kernel)) (fun _ _ _ _ _ => (pg_name (i := 1) sc_law_is_name.nd rfl (by first | exact Or.inl rfl | exact Or.inr rfl))) (fun _ _ _ _ _ => (pts_one (pt_cmpR op_notIn_sign (pv 1) pe_str rfl))) (fun _ _ _ _ _ => (pv 1))) (pe_lst pa_nil) (nomark _))))), ?_⟩
    have hvar : ∀ H1, Same H H1 → ED K (tVar 0) (start ["value", "sign"] [.str x]) (nn H) H1 (.str x) := fun H1 s1 => ed_var rfl (.str x)
    have hx : x.length ≤ 1000 := by simp only [gd, Bool.and_eq_true, decide_eq_true_eq] at hd; exact hd.2
    have h12 : ET _ _ H _ := et_not (et_test (ed_chain (r := rI0 fun i j => .bl (decide (i ≤ j))) (r' := rI0 fun i j => .bl (decide (i ≤ j))) (ed_int (i := 1)) (ed_len (hvar H (Same.refl _)) (decide_eq_true (by omega))) (ed_int (i := 12)) rd_cmp fun _ => rd_cmp))
    by_cases hb : decide (1 ≤ (x.length : Int)) && decide ((x.length : Int) ≤ 12)
    · obtain ⟨c, cs, hc⟩ : ∃ c cs, x.cps.toList = c :: cs := by
        cases hc : x.cps.toList with
        | nil => 
          have : x.length = 0 := by show x.cps.size = 0; rw [← Array.length_toList, hc]; rfl
          simp [this] at hb
        | cons c cs => exact ⟨c, cs, rfl⟩
      have hch := et_B (ed_notInS (ed_ixS (j := 0) (hvar H (Same.refl _)) ed_int (by omega) (c := c) (by rw [hc]; rfl)) (ed_str (x := "abcdefghijklmnopqrstuvwxyz")))
      refine s_if (b := !letter c) (et_is (et_or h12 fun _ => hch) ?_) (fun h H1 s1 => ?_) (fun h H1 s1 => ?_)
      · rw [mem_letters]; show (!(decide (1 ≤ (x.length : Int)) && decide ((x.length : Int) ≤ 12)) || !letter c) = _; rw [hb]; rfl
      · have := k H1 s1
        have e : nameB x = false := by
          unfold nameB; rw [hc]; simp at h; simp [h]
        rw [e] at this; exact this
      · refine s_retB (F := nn H) (ed_eqE (ed_lc (f := fun s => !(letter (sgn s) || figure (sgn s))) (m := fun s => s) (ei_str (hvar H1 s1)) ?_ fun F2 H2 e2 v2 d2 hm hd2 => ?_) ed_emp ?_) ?_ fun H2 s2 => k H2 (s1.trans s2)
        · unfold signs; rw [List.length_map, Array.length_toList]; show x.length ≤ _; omega
        · obtain ⟨c2, hc2, rfl⟩ := List.mem_map.mp hm
          refine ⟨_, fun Q q => q, rfl, et_is (et_test (ed_notInS (ed_var rfl hd2) (ed_str (x := "abcdefghijklmnopqrstuvwxyz0123456789")))) ?_, fun _ => ed_var rfl hd2⟩
          rw [mem_both]; rfl
        · rw [List.map_id']
          refine gds_lay (gds_of fun y hy => ?_)
          obtain ⟨c2, hc2, rfl⟩ := List.mem_map.mp (List.mem_filter.mp hy).1
          simp only [gd, Bool.and_eq_true, decide_eq_true_eq] at hd
          have : c2 < 0x110000 := by
            have := (Array.all_eq_true_iff_forall_mem.mp hd.1) c2 (by rw [← Array.mem_toList_iff]; exact hc2)
            simpa using this
          simp only [gd, Bool.and_eq_true, decide_eq_true_eq]
          exact ⟨by simp [this], by show (1 : Nat) ≤ 1000; decide⟩
        · show _ = nameB x
          have e := all_signs (p := fun c => letter c || figure c) (fun s => letter (sgn s) || figure (sgn s)) (fun c => rfl) x
          rw [List.map_id']
          have e2 : (List.filter (fun s => !(letter (sgn s) || figure (sgn s))) (signs x)).isEmpty = ((signs x).map fun s => letter (sgn s) || figure (sgn s)).all id := by
            rw [List.all_map, Bool.eq_iff_iff, List.isEmpty_iff, List.filter_eq_nil_iff, List.all_eq_true]
            refine forall_congr' fun a => forall_congr' fun _ => ?_
            show ¬ ((!(letter (sgn a) || figure (sgn a))) = true) ↔ (letter (sgn a) || figure (sgn a)) = true
            cases (letter (sgn a) || figure (sgn a)) <;> simp
          rw [e2, e]
          unfold nameB; rw [hb, hc]; simp at h; simp [h]
    · rw [Bool.not_eq_true] at hb
      refine s_if (b := true) (et_is (et_or (b := false) h12 fun h => ?_) ?_) (fun h H1 s1 => ?_) (fun h H1 s1 => nomatch h)
      · have h := (show (!(decide (1 ≤ (x.length : Int)) && decide ((x.length : Int) ≤ 12))) = false from h)
        rw [hb] at h; cases h
      · show (!(decide (1 ≤ (x.length : Int)) && decide ((x.length : Int) ≤ 12)) || false) = true
        rw [hb]; rfl
      · have := k H1 s1
        have e : nameB x = false := by
          unfold nameB; rw [hb]; rfl
        rw [e] at this; exact this
theorem ok_BadText_init : FnOk P w K mg base CX0 1 T.a_BadText___init__ T.d_BadText___init__ ["self", "line", "word"] (spEx2 T.C_BadText "line" "word") := by
  refine T.D_BadText___init__.fn.ok sc_BadText___init__ (fun vs H Q E h => ?_) (fun cdv A outer s H vs Q E hr h => ?_)
  · obtain ⟨a, x, y, rfl, _⟩ := h; rfl
  · obtain ⟨a, x, y, rfl, ha, k⟩ := h
    refine ⟨_, (pss_cons (ps_ost (pv 0) (pv 1))
      (pss_one (ps_ost (pv 0) (pv 2)))), ?_⟩
    refine ⟨_, rfl, _, rfl, a, T.C_BadText, rfl, T.ox_BadText, T.na_BadText_line, .inl ⟨ha, fun d hd nda => ?_⟩⟩
    refine ⟨_, rfl, _, rfl, a, T.C_BadText, rfl, T.ox_BadText, T.na_BadText_word, .inr ⟨d, [("line", x)], upd_same, by rw [upd_ne nda]; exact upd_same, Nat.le_of_ble_eq_true rfl, ?_⟩⟩
    refine k d _ hd nda (fun b o nb e => ?_) (by rw [upd_ne (Ne.symm nda)]; exact upd_same) upd_same
    have nbd : b ≠ d := ne_of_none e hd
    rw [upd_ne nbd, upd_ne nb, upd_ne nbd]; exact e
theorem ok_right : FnOk P w K mg base CX0 3 T.a_is_right T.d_is_right ["last", "begin", "word"] (spRight K) := by
  have G_is_name := ok_is_name (P := P) (base := base) T
  refine T.D_is_right.fn.ok sc_is_right (fun vs H Q E h => ?_) (fun cdv A outer s H vs Q E hr h => ?_)
  · obtain ⟨l, b, x, last, B, rfl, _⟩ := h; rfl
  · obtain ⟨l, b, x, last, B, rfl, hl, hb, bl, nx, k⟩ := h
    refine ⟨_, (pss_cons (ps_if (pt_not (pt_val (pe_call (G_is_name) (hr.mono (by omega)) (by rfl) T.D_is_name.mg T.D_is_name.fn.kp T.D_is_name.bd .nil pass0 (pa_cons (pv 2) pa_nil)))) (pss_one (ps_ret pe_bl)) pss_nil)
      (pss_cons (ps_if (pt_cmpR op_isN (pv 0) pe_non (nomark _)) (pss_one (ps_ret pe_bl)) pss_nil)
      (pss_cons (ps_set (i := 3) sc_is_right.nd rfl (by first | exact Or.inl rfl | exact Or.inr rfl) (pe_op op_catA (pv 1) (pe_tup (pa_cons (pv 2) pa_nil))))
      (pss_one (ps_ret (pe_cmpR (op_gtD hr.units) (pe_op op_catA (pv 3) (pe_op op_rep0 (pe_tup (pa_cons (pe_glob (v := .str "zzzzzzzzzzzz") (by rfl) T.g_LAST_NAME ⟨_, rfl⟩) pa_nil)) (pe_op op_sub pe_int (pe_callB call_len (by rfl) T.b_len bt_len (pa_cons (pv 3) pa_nil))))) (pv 0) (nomark _))))))), ?_⟩
    refine s_if (b := !nameB x) (et_not (et_B (ed_call (F := nn H) (ea_cons (ed_var (i := 2) rfl (.str x)) ea_nil) (rdc_spB (pre := fun d => gd d = true) nx)))) (fun hn H1 s1 => ?_) (fun hn H1 s1 => ?_)
    · have hn : nameB x = false := by simpa using hn
      refine s_retB (K := K) (F := nn H1) (ed_bl (b := false)) (c := nameB x && fitB last B x) (by rw [hn]; rfl) fun H3 s3 => k H3 (s1.trans s3)
    have hn : nameB x = true := by simpa using hn
    dsimp only [tNext]
    cases last with
    | none =>
      refine s_if (b := true) (et_test (ed_isN (F := nn H1) (ed_var (i := 0) rfl (dp_df (dp_mono s1 hl))))) (fun _ H2 s2 => ?_) (fun h => nomatch h)
      exact s_retB (K := K) (F := nn H2) (ed_bl (b := true)) (c := nameB x && fitB none B x) (by rw [hn]; rfl) fun H3 s3 => k H3 (s1.trans (s2.trans s3))
    | some r0 =>
      refine s_if (b := false) (et_test (ed_isN (F := nn H1) (ed_var (i := 0) rfl (dp_df (dp_mono s1 hl))))) (fun h => nomatch h) (fun _ H2 s2 => ?_)
      dsimp only [tNext]
      have s12 := s1.trans s2
      have hb2 := dp_mono s12 hb
      have hl2 := dp_mono s12 hl
      refine run_asgd (F := nn H2) (ed_catT (ed_var (i := 1) rfl (dp_df hb2)) (ed_tup (ea_cons (ed_var (i := 2) rfl (.str x)) ea_nil) (by show 1 ≤ 100000; decide)) (by show (B.map PyData.str).length + 1 ≤ _; rw [List.length_map]; omega)) fun v H3 s3 hv => ?_
      dsimp only [gName]
      have hv : Dp K H3 v (txD (B ++ [x])) := by rw [tx_snoc]; exact df_dp hv
      have hl3 := dp_mono s3 hl2
      have ln : (B ++ [x]).length = B.length + 1 := by rw [List.length_append]; rfl
      refine s_retB (F := nn H3) (ed_gtD (e := rowD r0) (ed_pad (i := 3) rfl (dp_df hv) (by omega)) (ed_var (i := 0) rfl (dp_df hl3)) ?_ (fun z => nomatch z) ?_) ?_ fun H4 s4 => k H4 (s12.trans (s3.trans s4))
      · show alike (.tuple ((padS (B ++ [x])).map .str)) (.tuple ((r3 r0).map .str)) = true
        rw [alike]; exact alike_tx _ _
      · exact Nat.le_trans (Nat.min_le_right _ _) (by simp [rowD, PyData.depth, PyData.depthAll])
      · show PySem.W.dataLt (txD (r3 r0)) (txD (padS (B ++ [x]))) = (nameB x && fitB (some r0) B x)
        rw [dataLt_tx, hn, Bool.true_and]; rfl
theorem ok_read_row : FnOk P w K mg base (L2.CX P w) 4 T.a_read_row T.d_read_row ["words", "line", "last"] (spReadRow K T.C_BadText) := by
  have G_is_right := ok_right (P := P) (base := base) T
  have G_BadText___init__ := ok_BadText_init (P := P) (base := base) (w := w) T
  refine T.D_read_row.fn.okX sc_read_row (fun vs H Q E h => ?_) (fun cdv A outer s H vs Q E hr h => ?_)
  · obtain ⟨a, z, l, last, ws, rfl, _⟩ := h; rfl
  · obtain ⟨a, z, l, last, ws, rfl, ha, hl, g, k1, k2⟩ := h
    refine ⟨_, (pss_cons (ps_set (i := 3) sc_read_row.nd rfl (by first | exact Or.inl rfl | exact Or.inr rfl) (pe_tup pa_nil))
      (pss_cons (ps_for (passes_of rfl) rfl (pi_list (pv 0)) (pg_name (i := 4) sc_read_row.nd rfl (by first | exact Or.inl rfl | exact Or.inr rfl)) (pss_cons (ps_if (PW.pt (pw_or (pt_cmpR op_eq (pe_callB call_len (by rfl) T.b_len bt_len (pa_cons (pv 3) pa_nil)) pe_int (nomark _)) (pw_or1 (pt_not (pt_val (pe_call (G_is_right) (hr.mono (by omega)) (by rfl) T.D_is_right.mg T.D_is_right.fn.kp T.D_is_right.bd .nil pass0 (pa_cons (pv 2) (pa_cons (pv 3) (pa_cons (pv 4) pa_nil))))))))) (pss_one (ps_raise rfl (takes_of rfl rfl rfl rfl) (pmk_oex T.ox_BadText T.ic_BadText T.ti_BadText (G_BadText___init__) (hr.mono (by omega)) T.D_BadText___init__.bd .nil pass0 (by rfl) T.g_BadText (pa_cons (pv 1) (pa_cons (pe_op op_add (pe_callB call_len (by rfl) T.b_len bt_len (pa_cons (pv 3) pa_nil)) pe_int) pa_nil))))) pss_nil)
      (pss_one (ps_set (i := 3) sc_read_row.nd rfl (by first | exact Or.inl rfl | exact Or.inr rfl) (pe_op op_catA (pv 3) (pe_tup (pa_cons (pv 4) pa_nil)))))))
      (pss_cons (ps_if (pt_cmpR op_lt (pe_callB call_len (by rfl) T.b_len bt_len (pa_cons (pv 3) pa_nil)) pe_int (nomark _)) (pss_one (ps_raise rfl (takes_of rfl rfl rfl rfl) (pmk_oex T.ox_BadText T.ic_BadText T.ti_BadText (G_BadText___init__) (hr.mono (by omega)) T.D_BadText___init__.bd .nil pass0 (by rfl) T.g_BadText (pa_cons (pv 1) (pa_cons (pe_op op_add (pe_callB call_len (by rfl) T.b_len bt_len (pa_cons (pv 3) pa_nil)) pe_int) pa_nil))))) pss_nil)
      (pss_one (ps_ret (pv 3)))))), ?_⟩
    refine run_asgd (F := nn H) (K := K) (ed_tup ea_nil (by show 0 ≤ 100000; decide)) fun v H1 s1 hv => ?_
    dsimp only [gName]
    refine s_forL (K := K) (el_var (i := 0) (xs := ws) rfl (s1 _ _ ha)) (fun i σ' H' => ∃ v o4, σ' = [some (.ref a), some (.int z), some l, some v, o4] ∧ Dp K H' v (txD (ws.take i)) ∧ i ≤ 3 ∧ goW last [] ws = goW last (ws.take i) (ws.drop i)) (fun H2 s2 => ⟨v, none, rfl, dp_mono s2 (df_dp hv), Nat.zero_le _, rfl⟩) ?_ ?_
    · rintro B sB i σ1 H2 s2 ⟨v, o4, rfl, hv, i3, eg⟩ x hx
      dsimp only [gName]
      have hi := (List.getElem?_eq_some_iff.mp hx).1
      have ln : (ws.take i).length = i := by rw [List.length_take]; omega
      have st := goW_step hx eg
      have gx := g x (List.mem_of_getElem? hx)
      have hl2 := dp_mono (s1.trans (sB.trans s2)) hl
      have len3 : ED K (tCB (fun xs H Q => ∃ x n, xs = [x] ∧ LenV K x H n ∧ Q (.int n) H) (tCons (tVar 3) tNil)) [some (.ref a), some (.int z), some l, some v, some (.str x)] (nn H2) H2 (.int ((i : Nat) : Int)) := ed_is (ed_len (ed_var (i := 3) rfl (dp_df hv)) rfl) (by show PyData.int ((((ws.take i).map PyData.str).length : Nat) : Int) = _; rw [List.length_map, ln])
      refine s_if (b := decide (i = 3) || !(nameB x && fitB last (ws.take i) x)) (et_is (et_or (et_test (ed_eqI (F := nn H2) len3 ed_int)) fun h => et_not (et_B (ed_call (F := nn H2) (ea_cons (ed_var (i := 2) rfl (dp_df hl2)) (ea_cons (ed_var (i := 3) rfl (dp_df hv)) (ea_cons (ed_var (i := 4) rfl (.str x)) ea_nil))) (rdc_right (last := last) (B := ws.take i) (x := x) ?_ gx)))) ?_) (fun hc H3 s3 => ?_) (fun hc H3 s3 => ?_)
      · have h := of_decide_eq_false h
        rw [ln]; omega
      · rw [show decide (((i : Nat) : Int) = 3) = decide (i = 3) from decide_eq_decide.mpr (by omega)]
      · rw [if_pos hc] at st
        have e1 : ((i : Nat) : Int) + 1 = ((i + 1 : Nat) : Int) := by omega
        refine raiseE (K := K) (F := nn H3) (x := z) (y := ((i + 1 : Nat) : Int)) (ea_cons (ed_var (i := 1) rfl (.int z)) (ea_cons (ed_is (ed_add (ed_is (ed_len (ed_var (i := 3) rfl (dp_df (dp_mono s3 hv))) rfl) (by show PyData.int ((((ws.take i).map PyData.str).length : Nat) : Int) = .int ((i : Nat) : Int); rw [List.length_map, ln])) ed_int) (by rw [e1])) ea_nil)) fun H' s' => k1 (i + 1) H' st (s1.trans (sB.trans (s2.trans (s3.trans s'))))
      · have hc2 := hc
        rw [Bool.or_eq_false_iff] at hc2
        have i3' := of_decide_eq_false hc2.1
        rw [if_neg (by rw [hc]; exact Bool.false_ne_true)] at st
        dsimp only [tNext]
        refine run_asgd1 (F := nn H3) (ed_catT (ed_var (i := 3) rfl (dp_df (dp_mono s3 hv))) (ed_tup (ea_cons (ed_var (i := 4) rfl (.str x)) ea_nil) (by show 1 ≤ 100000; decide)) (by show ((ws.take i).map PyData.str).length + 1 ≤ _; rw [List.length_map, ln]; omega)) fun v2 H4 s4 hv2 => ?_
        refine ⟨s2.trans (s3.trans s4), v2, _, rfl, ?_, by omega, st⟩
        rw [take_snoc hx, tx_snoc]
        exact df_dp hv2
    · rintro σ1 H2 s2 ⟨v, o4, rfl, hv, _, eg⟩
      have st := goW_end eg
      rw [List.take_length] at hv
      dsimp only [tNext]
      have len3 : ∀ H3, Same H2 H3 → ED K (tCB (fun xs H Q => ∃ x n, xs = [x] ∧ LenV K x H n ∧ Q (.int n) H) (tCons (tVar 3) tNil)) [some (.ref a), some (.int z), some l, some v, o4] (nn H3) H3 (.int ((ws.length : Nat) : Int)) := fun H3 s3 => ed_is (ed_len (ed_var (i := 3) rfl (dp_df (dp_mono s3 hv))) rfl) (by show PyData.int (((ws.map PyData.str).length : Nat) : Int) = _; rw [List.length_map])
      refine s_if (b := decide (ws.length < 3)) (et_is (et_test (ed_lt (F := nn H2) (len3 H2 (Same.refl _)) ed_int)) (decide_eq_decide.mpr (by omega))) (fun hc H3 s3 => ?_) (fun hc H3 s3 => ?_)
      · rw [if_pos (of_decide_eq_true hc)] at st
        have e1 : ((ws.length : Nat) : Int) + 1 = ((ws.length + 1 : Nat) : Int) := by omega
        exact raiseE (K := K) (F := nn H3) (x := z) (y := ((ws.length + 1 : Nat) : Int)) (ea_cons (ed_var (i := 1) rfl (.int z)) (ea_cons (ed_is (ed_add (len3 H3 s3) ed_int) (by rw [e1])) ea_nil)) fun H' s' => k1 _ H' st (s1.trans (s2.trans (s3.trans s')))
      · rw [if_neg (of_decide_eq_false hc)] at st
        dsimp only [tNext]
        exact ⟨_, rfl, k2 v H3 st (s1.trans (s2.trans s3)) (dp_mono s3 hv)⟩
end
end Ag

set_option Elab.async false
set_option linter.all false
set_option maxRecDepth 100000
set_option maxHeartbeats 2000000
set_option pp.maxSteps 400
namespace Ag
open PySem PySem.Spec PyProof.Rows L2
def rJ (K : PySem.W.Frag) : V → List V → Hp → VK → Prop := fun x xs H Q => ∃ a p, ∃ ys : List Str, x = .str a ∧ xs = [.ref p] ∧ (SqL K H p (ys.map V.str) ∨ SqT K H p (ys.map V.str)) ∧ (ys.map (·.length)).sum + ys.length * a.length ≤ 16777216 ∧ Q (.str (Txt.join a ys)) H
theorem pe_joinK {X : Cx} {K : PySem.W.Frag} {o e : Expr} {to te : TE} {apos pos : Pos} (hK : X.K = K) (ho : PE X o to) (he : PE X e te) (hs : starEach [e] X.env = [(false, eval e X.env)] := by rfl) (hbase : attributeBase o "join" X.env (eval o X.env) = eval o X.env := by rfl) (hline : (apos.endLine == pos.line) = true := by rfl) :
    PE X (.Call (.Attribute o "join" apos) [e] [] pos) (tM1 (rJ K) to te) := by
  subst hK
  exact pe_join ho he hs hbase hline
/-- a comprehension that gives texts -/
theorem el_lc {K : PySem.W.Frag} {σ : L2.St} {F : Addr → Prop} {H : Hp} {te : TE} {ds : List PyData} {wi : TI} {g : TG} {tt : TT} {vs : List Nat} {f : PyData → Bool} {m : PyData → PyData} {xs : List Str} (hi : EI K wi σ F H ds) (hl : ds.length ≤ 50000)
    (ht : ∀ F2 H1, Ext F H F2 H1 → ∀ v d, d ∈ ds → Df K F2 H1 v d → ∃ σ2, (∀ Q : L2.St → Hp → Prop, Q σ2 H1 → g v (wipe σ vs) H1 Q) ∧ wipe σ2 vs = wipe σ vs ∧ ET tt σ2 H1 (f d) ∧ (f d = true → ED K te σ2 F2 H1 (m d))) (e : (ds.filter f).map m = xs.map .str) : EL (tLc wi g tt te vs) σ H xs := fun H1 s1 Q q =>
  lc_run hi hl ht H1 s1 Q fun D ys H' s2 _ eD hd => by
    rw [e] at hd
    have e2 := strs_dps (dfs_dps hd)
    subst e2
    exact q D H' s2 eD
theorem len_join (a : Str) : ∀ ys : List Str, (Txt.join a ys).length ≤ (ys.map (·.length)).sum + ys.length * a.length := by
  intro ys
  rw [TL.join_eq]
  have app : ∀ x y : Str, (x ++ y).length = x.length + y.length := fun x y => by
    have e : ∀ z : Str, z.length = z.cps.toList.length := fun z => by simp [Str.length]
    rw [e, e, e, show (x ++ y).cps.toList = x.cps.toList ++ y.cps.toList from TL.tl_append _ _, List.length_append]
  induction ys with
  | nil => exact Nat.zero_le _
  | cons x r ih =>
    cases r with
    | nil => show x.length ≤ _; simp
    | cons y r =>
      show (x ++ a ++ Str.join a (y :: r)).length ≤ _
      rw [app, app]
      simp only [List.map_cons, List.sum_cons, List.length_cons] at ih ⊢
      rw [Nat.add_mul _ 1 a.length, Nat.one_mul]
      omega
theorem sum_le {α : Type} (f : α → Nat) (n : Nat) : ∀ {xs : List α}, (∀ x ∈ xs, f x ≤ n) → (xs.map f).sum ≤ xs.length * n
  | [], _ => by simp
  | x :: xs, h => by
    have h1 := h x List.mem_cons_self
    have h2 := sum_le f n fun y hy => h y (List.mem_cons_of_mem _ hy)
    rw [List.map_cons, List.sum_cons, List.length_cons, Nat.add_mul, Nat.one_mul]
    omega
theorem name_len {x : Str} (h : nameB x = true) : x.length ≤ 12 := by
  unfold nameB at h
  simp only [Bool.and_eq_true, decide_eq_true_eq] at h
  have := h.1.1.2
  omega
theorem l_sp : (" " : Str).length = 1 := by decide +kernel
theorem l_nl : ("\n" : Str).length = 1 := by decide +kernel
theorem l_halls : ("halls" : Str).length = 5 := by decide +kernel
theorem row_sum {r : Rw} (g : goodR r) : ((r3 r).map (·.length)).sum + (r3 r).length * (" " : Str).length ≤ 39 := by
  rw [l_sp]
  have h1 := name_len g.1
  have h2 := name_len g.2.1
  have h3 := name_len g.2.2
  show (r.1.length + (r.2.1.length + (r.2.2.length + 0))) + 3 * 1 ≤ 39
  omega
theorem row_len {r : Rw} (g : goodR r) : (rowT r).length ≤ 39 := Nat.le_trans (len_join _ _) (row_sum g)
theorem txt_sum {S : List Rw} (g : ∀ r ∈ S, goodR r) : ((txtL S).map (·.length)).sum + (txtL S).length * ("\n" : Str).length ≤ 100 + 40 * S.length := by
  rw [l_nl]
  have h := sum_le (fun x : Str => x.length) 39 (xs := S.map rowT) fun x hx => by
    obtain ⟨r, hr, rfl⟩ := List.mem_map.mp hx
    exact row_len (g r hr)
  rw [List.length_map] at h
  show (("halls" : Str).length + ((S.map rowT).map (·.length)).sum) + ((S.map rowT).length + 1) * 1 ≤ _
  rw [l_halls, List.length_map]
  omega
theorem srv_len {S : List Rw} (g : ∀ r ∈ S, goodR r) : (srvT S).length ≤ 100 + 40 * S.length := Nat.le_trans (len_join _ _) (txt_sum g)
theorem split_row {r : Rw} (g : goodR r) : Txt.split (rowT r) " " = r3 r := by
  refine TL.split_join (y := " ") (s := 32) (S := []) (by decide +kernel) (by decide +kernel) (parts := r3 r) (by simp [r3]) fun p hp hc => ?_
  have n : nameB p = true := by
    simp only [r3, List.mem_cons, List.not_mem_nil, or_false] at hp
    rcases hp with rfl | rfl | rfl
    · exact g.1
    · exact g.2.1
    · exact g.2.2
  exact (name_sign n 32 hc).1 rfl
theorem join_sign {s : Str} : ∀ {xs : List Str} {c : Nat}, c ∈ (Str.join s xs).cps.toList → c ∈ s.cps.toList ∨ ∃ x ∈ xs, c ∈ x.cps.toList
  | [], c, h => absurd h List.not_mem_nil
  | [x], c, h => .inr ⟨x, List.mem_cons_self, h⟩
  | x :: y :: r, c, h => by
    have e : (Str.join s (x :: y :: r)).cps.toList = (x.cps.toList ++ s.cps.toList) ++ (Str.join s (y :: r)).cps.toList := by
      show (x ++ s ++ Str.join s (y :: r)).cps.toList = _
      rw [show (x ++ s ++ Str.join s (y :: r)).cps.toList = (x ++ s).cps.toList ++ (Str.join s (y :: r)).cps.toList from TL.tl_append _ _, show (x ++ s).cps.toList = x.cps.toList ++ s.cps.toList from TL.tl_append _ _]
    rw [e] at h
    rcases List.mem_append.mp h with h | h
    · rcases List.mem_append.mp h with h | h
      · exact .inr ⟨x, List.mem_cons_self, h⟩
      · exact .inl h
    · rcases join_sign h with h | ⟨z, hz, h⟩
      · exact .inl h
      · exact .inr ⟨z, List.mem_cons_of_mem _ hz, h⟩
theorem split_srv {S : List Rw} (g : ∀ r ∈ S, goodR r) : Txt.split (srvT S) "\n" = txtL S := by
  refine TL.split_join (y := "\n") (s := 10) (S := []) (by decide +kernel) (by decide +kernel) (parts := txtL S) (by simp [txtL]) fun p hp hc => ?_
  rcases List.mem_cons.mp hp with rfl | hp
  · exact absurd hc (by decide +kernel)
  · obtain ⟨r, hr, rfl⟩ := List.mem_map.mp hp
    have hc : (10 : Nat) ∈ (Txt.join " " (r3 r)).cps.toList := hc
    rw [TL.join_eq] at hc
    rcases join_sign hc with h | ⟨x, hx, h⟩
    · exact absurd h (by decide +kernel)
    · have n : nameB x = true := by
        simp only [r3, List.mem_cons, List.not_mem_nil, or_false] at hx
        rcases hx with rfl | rfl | rfl
        · exact (g r hr).1
        · exact (g r hr).2.1
        · exact (g r hr).2.2
      exact (name_sign n 10 h).2 rfl
theorem split_halls : Txt.split ("halls" : Str) " " = [("halls" : Str)] := by
  have e := TL.split_join (y := " ") (s := 32) (S := []) (by decide +kernel) (by decide +kernel) (parts := [("halls" : Str)]) (by simp) (fun p hp => by rw [List.mem_singleton.mp hp]; decide +kernel)
  rw [TL.join_eq] at e
  exact e
/-- sep.join of texts -/
theorem ed_joinEL {K : PySem.W.Frag} {σ : L2.St} {F : Addr → Prop} {H : Hp} {te : TE} {a : Str} {xs : List Str} (h : EL te σ H xs) (hl : (xs.map (·.length)).sum + xs.length * a.length ≤ 16777216) : ED K (tM1 (rJ K) (tC (.str a)) te) σ F H (.str (Txt.join a xs)) := fun H1 s1 Q q =>
  ⟨⟨a, rfl⟩, h H1 s1 _ fun p H2 s2 e => ⟨a, p, xs, rfl, rfl, .inl (SqL.of e), hl, q _ H2 s2 (.str _)⟩⟩
/-- the rows' texts, behind "halls" -/
theorem el_txt {K : PySem.W.Frag} {σ : L2.St} {F : Addr → Prop} {H : Hp} {wi : TI} {j : Nat} {S : List Rw} (hi : EI K wi σ F H (S.map rowD)) (g : ∀ r ∈ S, goodR r) (l : S.length < 301)
    (hj : ∀ (v : V) (H : Hp), ∃ σ2, (∀ Q : L2.St → Hp → Prop, Q σ2 H → gName j v (wipe σ [j]) H Q) ∧ wipe σ2 [j] = wipe σ [j] ∧ σ2[j]? = some (some v)) :
    EL (tOp rCat (tLst (tCons (tC (.str ("halls" : Str))) tNil)) (tLc wi (gName j) tYes (tM1 (rJ K) (tC (.str (" " : Str))) (tVar j)) [j])) σ H (txtL S) := by
  refine el_cat (xs := [("halls" : Str)]) (el_lst (K := K) (F := fun _ => True) (ea_cons ed_str ea_nil) (by decide)) (el_lc (f := fun _ => true) (m := fun d => match d with | .tuple [.str a, .str b, .str c] => .str (Txt.join " " [a, b, c]) | _ => .none) hi (by rw [List.length_map]; omega) (fun F2 H2 e2 v2 d2 hm hd2 => ?_) ?_) (by rw [List.length_map]; show 1 + S.length ≤ _; omega)
  · obtain ⟨σ2, h1, h2, h3⟩ := hj v2 H2
    refine ⟨σ2, h1, h2, et_yes, fun _ => ?_⟩
    obtain ⟨r, hr, rfl⟩ := List.mem_map.mp hm
    exact ed_join (ys := r3 r) ed_str (ed_var h3 hd2) (.inr rfl) (Nat.le_trans (row_sum (g r hr)) (by decide))
  · rw [List.filter_eq_self.mpr fun _ _ => rfl, List.map_map, List.map_map]
    exact List.map_congr_left fun r _ => rfl
def spSText (K : PySem.W.Frag) (C : Addr) : Sp := fun vs H Q _ => ∃ b S, vs = [.ref b] ∧ ServerAt K C b S H ∧ ∀ H', Same H H' → Q (.str (srvT S)) H'
section
variable {P : Program} {w : World} {K : PySem.W.Frag} {mg : Str → Option Value} {base : Heap} (T : Txt w K mg)
theorem ok_stext : FnOk P w K mg base CX0 1 T.a_server_text T.d_server_text ["server"] (spSText K T.C_Server) := by
  refine T.D_server_text.fn.ok sc_server_text (fun vs H Q E h => ?_) (fun cdv A outer s H vs Q E hr h => ?_)
  · obtain ⟨b, S, rfl, _⟩ := h; rfl
  · obtain ⟨b, S, rfl, sv, k⟩ := h
    refine ⟨_, (pss_one (ps_ret (pe_join pe_str (pe_op op_cat (pe_lst (pa_cons pe_str pa_nil)) (pe_lc (own := [("row", 1)]) rfl sc_server_text.nd (pi_tup (pe_fld (pv 0) rfl)) (blkOk_by (own := [("row", 1)]) (N := ["server", "row"]) (sc := defScope s_server_text) (by decide +kernel)) (fun _ _ _ _ _ => (pg_name (i := 1) sc_server_text.nd rfl (by first | exact Or.inl rfl | exact Or.inr rfl))) (fun _ _ _ _ _ => pts_nil) (fun _ _ _ _ _ => (pe_joinK (K := K) rfl pe_str (pv 1)))))))), ?_⟩
    have l := sv.len_
    have g : ∀ r ∈ S, goodR r := by obtain ⟨dx, rt, td, kd, kvs, kn, p⟩ := sv; exact p.good
    refine s_ret (F := nn H) (ed_joinEL (a := "\n") (el_txt (ei_tup (ed_rows (F := nn H) rfl T.cl_Server T.na_Server_rows sv)) g l fun v H => ⟨_, fun Q q => q, rfl, rfl⟩) (Nat.le_trans (txt_sum g) (by omega))) fun v H1 s1 hv => ?_
    cases hv
    exact k H1 s1
end
end Ag

set_option Elab.async false
set_option linter.all false
set_option maxRecDepth 100000
set_option maxHeartbeats 4000000
set_option pp.maxSteps 400
namespace Ag
open PySem PySem.Spec PyProof.Rows L2
theorem spl_ne (S : List Nat) : ∀ (l : List Nat) (k : Nat) (acc : List Nat), TL.spl S k acc l ≠ []
  | [], k, acc => by rw [TL.spl_nil]; simp
  | c :: r, 0, acc => by
    unfold TL.spl
    split
    · simp
    · exact spl_ne S r 0 _
  | c :: r, k + 1, acc => by
    unfold TL.spl
    exact spl_ne S r k acc
theorem spl_free {s : Nat} : ∀ (l acc : List Nat), s ∉ acc → ∀ p ∈ TL.spl [s] 0 acc l, s ∉ p
  | [], acc, h, p, hp => by rw [TL.spl_nil, List.mem_singleton] at hp; rw [hp]; exact h
  | c :: r, acc, h, p, hp => by
    unfold TL.spl at hp
    split at hp
    · rcases List.mem_cons.mp hp with rfl | hp
      · exact h
      · exact spl_free r [] (by simp) p hp
    · rename_i hn
      refine spl_free r (acc ++ [c]) (fun hc => ?_) p hp
      rcases List.mem_append.mp hc with hc | hc
      · exact h hc
      · rw [List.mem_singleton] at hc
        exact hn (by subst hc; simp [TL.pre])
theorem split_ne (x : Str) {y : Str} {s : Nat} (ey : TL.tl y = [s]) (hk : y.cps.all (· < 256) = true) : Txt.split x y ≠ [] := fun e => by
  have h := TL.split_spl x y (by rw [ey]; simp) (TL.kind_ok hk)
  rw [e] at h
  exact spl_ne _ _ _ _ h.symm
theorem split_free (x : Str) {y : Str} {s : Nat} (ey : TL.tl y = [s]) (hk : y.cps.all (· < 256) = true) : ∀ p ∈ Txt.split x y, s ∉ p.cps.toList := fun p hp => by
  have h := TL.split_spl x y (by rw [ey]; simp) (TL.kind_ok hk)
  rw [ey] at h
  have : TL.tl p ∈ (Txt.split x y).map TL.tl := List.mem_map.mpr ⟨p, hp, rfl⟩
  rw [h] at this
  exact spl_free _ [] (by simp) _ this
theorem nl_ne (x : Str) : Txt.split x "\n" ≠ [] := split_ne x (s := 10) (by decide +kernel) (by decide +kernel)
theorem sp_ne (x : Str) : Txt.split x " " ≠ [] := split_ne x (s := 32) (by decide +kernel) (by decide +kernel)
theorem app_len (x y : Str) : (x ++ y).length = x.length + y.length := by
  have e : ∀ z : Str, z.length = z.cps.toList.length := fun z => by simp [Str.length]
  rw [e, e, e, show (x ++ y).cps.toList = x.cps.toList ++ y.cps.toList from TL.tl_append _ _, List.length_append]
/-- a joined text's length -/
theorem join_len1 (a : Str) (ha : a.length = 1) : ∀ {ys : List Str}, ys ≠ [] → (Str.join a ys).length + 1 = (ys.map (·.length)).sum + ys.length
  | [x], _ => by show x.length + 1 = _; simp
  | x :: y :: r, _ => by
    have ih := join_len1 a ha (ys := y :: r) (by simp)
    show (x ++ a ++ Str.join a (y :: r)).length + 1 = _
    rw [app_len, app_len, ha]
    simp only [List.map_cons, List.sum_cons, List.length_cons] at ih ⊢
    omega
theorem mem_sum {x : Str} : ∀ {ys : List Str}, x ∈ ys → x.length ≤ (ys.map (·.length)).sum
  | y :: ys, h => by
    rw [List.map_cons, List.sum_cons]
    rcases List.mem_cons.mp h with rfl | h
    · omega
    · have := mem_sum h; omega
theorem part_le {a : Str} (ha : a.length = 1) {ys : List Str} {x : Str} (h : x ∈ ys) : x.length ≤ (Str.join a ys).length := by
  have ne : ys ≠ [] := fun e => by rw [e] at h; cases h
  have e := join_len1 a ha ne
  have := mem_sum h
  have : 1 ≤ ys.length := List.length_pos_iff.mpr ne
  omega
theorem line_le {t x : Str} (h : x ∈ Txt.split t "\n") : x.length ≤ t.length := by
  have := part_le (a := "\n") l_nl h
  rwa [PySem.StrLaws.join_split] at this
theorem word_le {t x : Str} (h : x ∈ Txt.split t " ") : x.length ≤ t.length := by
  have := part_le (a := " ") l_sp h
  rwa [PySem.StrLaws.join_split] at this
/-- a text that can be read word by word -/
structure TOk (t : Str) : Prop where
  len : t.length ≤ 90000
  few : (Txt.split t "\n").length ≤ 290
  gdw : ∀ l ∈ wrdsOf t, ∀ x ∈ l, gd (.str x) = true
/-- lists of texts -/
structure LnAt (la : Addr) (as : List Addr) (W : List (List Str)) (H : Hp) : Prop where
  lst : H la = some (.lst (as.map V.ref))
  len : as.length = W.length
  at_ : ∀ (i : Nat) a ws, as[i]? = some a → W[i]? = some ws → H a = some (.lst (ws.map V.str))
theorem LnAt.same {la : Addr} {as : List Addr} {W : List (List Str)} {H H' : Hp} (s : Same H H') (h : LnAt la as W H) : LnAt la as W H' := ⟨s _ _ h.lst, h.len, fun i a ws h1 h2 => s _ _ (h.at_ i a ws h1 h2)⟩
theorem LnAt.get {la : Addr} {as : List Addr} {W : List (List Str)} {H : Hp} (h : LnAt la as W H) {i : Nat} {ws : List Str} (e : W[i]? = some ws) : ∃ a, as[i]? = some a ∧ H a = some (.lst (ws.map V.str)) := by
  have hi := (List.getElem?_eq_some_iff.mp e).1
  have : i < as.length := by rw [h.len]; exact hi
  exact ⟨as[i], List.getElem?_eq_getElem this, h.at_ i _ _ (List.getElem?_eq_getElem this) e⟩
abbrev rSp : V → List V → Hp → VK → Prop := fun x xs H Q => ∃ a b, x = .str a ∧ xs = [.str b] ∧ (b.length == 0) = false ∧ a.length + 2 ≤ sizeLine ∧ rNewStrs (Txt.split a b) H Q
theorem run_lines {K : PySem.W.Frag} {σ : L2.St} {H : Hp} {Q : VK} {t : Str} {i j : Nat} (hi : σ[i]? = some (some (.str t))) (ok : t.length ≤ 90000)
    (hj : ∀ (x : Str) (H : Hp), ∃ σ2, (∀ Q : L2.St → Hp → Prop, Q σ2 H → gName j (.str x) (wipe σ [j]) H Q) ∧ wipe σ2 [j] = wipe σ [j] ∧ σ2[j]? = some (some (.str x)))
    (k : ∀ D as H1, Same H H1 → LnAt D as (wrdsOf t) H1 → H D = none → (∀ a ∈ as, H a = none) → as.Nodup → D ∉ as → Q (.ref D) H1) :
    tLc (iList K (tM1 rSp (tVar i) (tC (.str ("\n" : Str))))) (gName j) tYes (tM1 rSp (tVar j) (tC (.str (" " : Str)))) [j] σ H Q := by
  have z5 : (100000 : Nat) ≤ sizeLine := by decide
  have few : (Txt.split t "\n").length ≤ 90001 := by
    have e := join_len1 "\n" l_nl (nl_ne t)
    rw [PySem.StrLaws.join_split] at e
    omega
  refine ⟨_, hi, ⟨t, rfl⟩, t, "\n", rfl, rfl, by decide +kernel, by omega, fun q hq => ⟨q, rfl, ⟨_, SqL.of upd_same⟩, fun D hD => ?_⟩⟩
  have hDH : H D = none := by
    by_cases e : D = q
    · rw [e]; exact hq
    · rwa [upd_ne e] at hD
  have eq := upd_same (H := H) (a := q) (o := .lst ((Txt.split t "\n").map V.str))
  have s0 := Same.newA (o := .lst ((Txt.split t "\n").map V.str)) hq
  revert hD eq s0
  generalize upd H q (.lst ((Txt.split t "\n").map V.str)) = G
  intro hD eq s0
  refine lc_list (K := K) (a := q) (xs := (Txt.split t "\n").map V.str) (fun i H' => ∃ as : List Addr, H' D = some (.lst (as.map V.ref)) ∧ as.length = i ∧ (∀ (j : Nat) a x, as[j]? = some a → (Txt.split t "\n")[j]? = some x → H' a = some (.lst ((Txt.split x " ").map V.str))) ∧ Same G H' ∧ (∀ a ∈ as, a ≠ D ∧ G a = none ∧ H' a ≠ none) ∧ as.Nodup) ⟨[], upd_same, rfl, fun j a x h => (by simp at h), Same.newA hD, (fun a h => nomatch h), List.nodup_nil⟩ (fun i H' _ ⟨_, _, _, _, s, _⟩ => SqL.of (s _ _ eq)) ?_ ?_
  · rintro i v H' hv ⟨as, g1, g2, g3, s, g4, g5⟩
    obtain ⟨x, hx, rfl⟩ := str_at hv
    have hi : i < (Txt.split t "\n").length := (List.getElem?_eq_some_iff.mp hx).1
    have := line_le (List.mem_of_getElem? hx)
    obtain ⟨σ2, c1, c2, c3⟩ := hj x H'
    refine c1 _ ⟨c2, ?_⟩
    dsimp only [tYes]
    rw [if_pos rfl]
    refine ⟨_, c3, ⟨x, rfl⟩, x, " ", rfl, rfl, by decide +kernel, by omega, fun p hp => ?_⟩
    have s1 := Same.newA (o := .lst ((Txt.split x " ").map V.str)) hp
    have npD : p ≠ D := fun z => by rw [z, g1] at hp; cases hp
    have pG : G p = none := by
      cases hG : G p with
      | none => rfl
      | some o => rw [s _ _ hG] at hp; cases hp
    refine ⟨_, s1 _ _ g1, by rw [List.length_map]; omega, as ++ [p], by rw [upd_same, List.map_append]; rfl, by rw [List.length_append, g2]; rfl, fun j a y ha hy => ?_, fun a o z => ?_, fun a ha => ?_, ?_⟩
    · rcases Nat.lt_or_ge j as.length with lt | ge
      · rw [List.getElem?_append_left lt] at ha
        have n2 := g3 j a y ha hy
        have n1 := (g4 a (List.mem_of_getElem? ha)).1
        rw [upd_ne n1]; exact s1 _ _ n2
      · have jl : j < as.length + 1 := by have := (List.getElem?_eq_some_iff.mp ha).1; rwa [List.length_append] at this
        have : j = i := by omega
        subst this
        rw [List.getElem?_append_right ge, g2, Nat.sub_self] at ha
        have ea : p = a := by simpa using ha
        subst ea
        rw [hx] at hy
        have ey := Option.some.inj hy
        subst ey
        rw [upd_ne npD]; exact upd_same
    · have na : a ≠ D := ne_of_none z hD
      rw [upd_ne na]; exact s1 _ _ (s _ _ z)
    · rcases List.mem_append.mp ha with ha | ha
      · obtain ⟨h1, h2, h3⟩ := g4 a ha
        refine ⟨h1, h2, fun z => ?_⟩
        rw [upd_ne h1] at z
        cases hH : H' a with
        | none => exact h3 hH
        | some o => rw [s1 _ _ hH] at z; cases z
      · rw [List.mem_singleton.mp ha]
        exact ⟨npD, pG, by rw [upd_ne npD, upd_same]; simp⟩
    · refine List.nodup_append.mpr ⟨g5, List.pairwise_singleton _ _, fun a ha b hb e => ?_⟩
      rw [List.mem_singleton.mp hb] at e
      exact (g4 a ha).2.2 (by rw [e]; exact hp)
  · rintro H' ⟨as, g1, g2, g3, s, g4, g5⟩
    rw [List.length_map] at g2
    have nH : ∀ a, G a = none → H a = none := fun a h => by
      cases hH : H a with
      | none => rfl
      | some o => rw [s0 _ _ hH] at h; cases h
    refine k D as H' (s0.trans s) ⟨g1, by rw [g2]; unfold wrdsOf; rw [List.length_map], fun i a l ha hl => ?_⟩ hDH (fun a ha => nH a (g4 a ha).2.1) g5 fun h => (g4 D h).1 rfl
    unfold wrdsOf at hl
    rw [List.getElem?_map] at hl
    cases ex : (Txt.split t "\n")[i]? with
    | none => rw [ex] at hl; cases hl
    | some x => rw [ex] at hl; cases hl; exact g3 i a x ha ex
end Ag

set_option Elab.async false
set_option linter.all false
set_option maxRecDepth 100000
set_option maxHeartbeats 4000000
set_option pp.maxSteps 400
namespace Ag
open PySem PySem.Spec PyProof.Rows L2
abbrev lenR (K : PySem.W.Frag) : List V → Hp → VK → Prop := fun xs H Q => ∃ x n, xs = [x] ∧ LenV K x H n ∧ Q (.int n) H
section
variable {K : PySem.W.Frag} {σ : L2.St} {F : Addr → Prop} {H : Hp} {te ta tb : TE} {i j la : Nat} {as : List Addr} {W : List (List Str)} {ws : List Str}
theorem run_line (hi : σ[i]? = some (some (.ref la))) (ln : LnAt la as W H) (h : ED K te σ F H (.int (j : Nat))) (hw : W[j]? = some ws) {Q : VK} (k : ∀ a H1, Same H H1 → H1 a = some (.lst (ws.map V.str)) → Q (.ref a) H1) : tOp (rIx K) (tVar i) te σ H Q := by
  refine ⟨_, hi, h H (Same.refl _) _ fun v H1 s1 hv => ?_⟩
  cases hv
  obtain ⟨a, ea, eh⟩ := (ln.same s1).get hw
  exact .inl ⟨la, _, _, .ref a, rfl, rfl, SqL.of (ln.same s1).lst, atI_nat (by rw [List.getElem?_map, ea]; rfl), k a H1 s1 eh⟩
theorem ed_lenline (hi : σ[i]? = some (some (.ref la))) (ln : LnAt la as W H) (h : ED K te σ F H (.int (j : Nat))) (hw : W[j]? = some ws) : ED K (tCB (lenR K) (tCons (tOp (rIx K) (tVar i) te) tNil)) σ F H (.int (ws.length : Nat)) := fun H1 s1 Q q =>
  run_line (K := K) (F := F) hi (ln.same s1) (fun H2 s2 Q q => h H2 (s1.trans s2) Q q) hw fun a H2 s2 e => ⟨_, ws.length, rfl, .inl ⟨_, SqL.of e, by rw [List.length_map]⟩, q _ H2 s2 (.int _)⟩
theorem ed_word {l : Nat} {x : Str} (hi : σ[i]? = some (some (.ref la))) (ln : LnAt la as W H) (h : ED K te σ F H (.int (j : Nat))) (hw : W[j]? = some ws) (hx : ws[l]? = some x) : ED K (tOp (rIx K) (tOp (rIx K) (tVar i) te) (tC (.int (l : Nat)))) σ F H (.str x) := fun H1 s1 Q q =>
  run_line (K := K) (F := F) hi (ln.same s1) (fun H2 s2 Q q => h H2 (s1.trans s2) Q q) hw fun a H2 s2 e => .inl ⟨a, _, _, .str x, rfl, rfl, SqL.of e, atI_nat (by rw [List.getElem?_map, hx]; rfl), q _ H2 s2 (.str _)⟩
theorem ed_leTx {xs ys : List Str} (ha : ED K ta σ F H (txD xs)) (hb : ED K tb σ F H (txD ys)) : ED K (tOp (rLeTx K) ta tb) σ F H (.bool (decide (rkL xs ≤ rkL ys))) :=
  ed_op ha hb fun F x y H1 hx hy Q q => by
    unfold txD at hx hy
    cases hx with
    | tup h r =>
      cases hy with
      | tup h2 r2 =>
        have e1 := strs_dps (dfs_dps r)
        have e2 := strs_dps (dfs_dps r2)
        subst e1; subst e2
        exact ⟨_, _, xs, ys, rfl, rfl, h, h2, q _ _ (Same.refl _) (.bl _)⟩
end
theorem eqv_last (last : Option Rw) : PyData.eqv (lastD last) (rowD topR) = decide (last = some topR) := by
  cases last with
  | none => rfl
  | some r => 
    show PyData.eqv (rowD r) (rowD topR) = _
    rw [eqv_row]
    exact decide_eq_decide.mpr ⟨fun e => by rw [e], fun e => Option.some.inj e⟩
theorem shp_last {last : Option Rw} (g : ∀ r, last = some r → goodR r) : SeqAt.shaped (lastD last) = true := by
  cases last with
  | none => rfl
  | some r =>
    show SeqAt.shaped (rowD r) = true
    exact shaped_gd (row_gd (g r rfl)) (by simp [rowD, PyData.depth, PyData.depthAll])
theorem shp_top : SeqAt.shaped (rowD topR) = true := by decide +kernel
theorem wrds_cons (t : Str) : ∃ x0 xr ls, wrdsOf t = (x0 :: xr) :: ls := by
  cases e : wrdsOf t with
  | nil =>
    unfold wrdsOf at e
    exact absurd (List.map_eq_nil_iff.mp e) (nl_ne t)
  | cons h ls =>
    have : h ∈ wrdsOf t := by rw [e]; exact List.mem_cons_self
    obtain ⟨x, _, rfl⟩ := List.mem_map.mp this
    cases e2 : Txt.split x " " with
    | nil => exact absurd e2 (sp_ne x)
    | cons x0 xr => exact ⟨x0, xr, ls, rfl⟩
def spLP (K : PySem.W.Frag) : Sp := fun vs H Q _ => ∃ t : Str, vs = [.str t] ∧ TOk t ∧ (∀ (l k : Nat) y H', wrongP t = some (l, k) → Same H H' → Dp K H' y (.tuple [.int (l : Nat), .int (k : Nat)]) → Q y H') ∧ (wrongP t = none → ∀ H', Same H H' → Q .non H')
section
variable {P : Program} {w : World} {K : PySem.W.Frag} {mg : Str → Option Value} {base : Heap} (T : Txt w K mg)
theorem ok_wrong_word : FnOk P w K mg base CX0 2 T.a_law_wrong_word T.d_law_wrong_word ["words", "last"] (spLW K) := by
  have G_law_is_name := ok_law_is_name (P := P) (base := base) T
  refine T.D_law_wrong_word.fn.ok sc_law_wrong_word (fun vs H Q E h => ?_) (fun cdv A outer s H vs Q E hr h => ?_)
  · obtain ⟨a, l, last, ws, rfl, _⟩ := h; rfl
  · obtain ⟨a, l, last, ws, rfl, ha, hl, g, k1, k2⟩ := h
    refine ⟨_, (pss_cons (ps_set (i := 2) sc_law_wrong_word.nd rfl (by first | exact Or.inl rfl | exact Or.inr rfl) (pe_tup pa_nil))
      (pss_cons (ps_for PassesOwn.never rfl (pi_list (pv 0)) (pg_name (i := 3) sc_law_wrong_word.nd rfl (by first | exact Or.inl rfl | exact Or.inr rfl)) (pss_cons (ps_if (pt_cmpR op_eq (pe_callB call_len (by rfl) T.b_len bt_len (pa_cons (pv 2) pa_nil)) pe_int (nomark _)) (pss_one (ps_ret pe_int)) pss_nil)
      (pss_cons (ps_if (pt_not (pt_val (pe_call (G_law_is_name) (hr.mono (by omega)) (by rfl) T.D_law_is_name.mg T.D_law_is_name.fn.kp T.D_law_is_name.bd .nil pass0 (pa_cons (pv 3) pa_nil)))) (pss_one (ps_ret (pe_op op_add (pe_callB call_len (by rfl) T.b_len bt_len (pa_cons (pv 2) pa_nil)) pe_int))) pss_nil)
      (pss_cons (ps_set (i := 2) sc_law_wrong_word.nd rfl (by first | exact Or.inl rfl | exact Or.inr rfl) (pe_op op_catA (pv 2) (pe_tup (pa_cons (pv 3) pa_nil))))
      (pss_one (ps_if (PW.pt (pw_and (pt_cmpR op_notN (pv 1) pe_non (nomark _)) (pw_and1 (pt_cmpR (r := rLeTx K) (op_leTx (Nat.lt_of_le_of_lt (Nat.le_add_right _ _) hr.units)) (pe_op op_catA (pv 2) (pe_op op_rep0 (pe_tup (pa_cons pe_str pa_nil)) (pe_op op_sub pe_int (pe_callB call_len (by rfl) T.b_len bt_len (pa_cons (pv 2) pa_nil))))) (pv 1) (nomark _))))) (pss_one (ps_ret (pe_callB call_len (by rfl) T.b_len bt_len (pa_cons (pv 2) pa_nil)))) pss_nil))))))
      (pss_one (ps_ret (pe_ifExp (pt_cmpR op_eq (pe_callB call_len (by rfl) T.b_len bt_len (pa_cons (pv 2) pa_nil)) pe_int (nomark _)) pe_non (pe_op op_add (pe_callB call_len (by rfl) T.b_len bt_len (pa_cons (pv 2) pa_nil)) pe_int)))))), ?_⟩
    refine run_asgd (F := nn H) (K := K) (ed_tup ea_nil (by show 0 ≤ 100000; decide)) fun v H1 s1 hv => ?_
    dsimp only [gName]
    refine s_forL (K := K) (el_var (i := 0) (xs := ws) rfl (s1 _ _ ha)) (fun i σ' H' => ∃ v o3, σ' = [some (.ref a), some l, some v, o3] ∧ Dp K H' v (txD (ws.take i)) ∧ i ≤ 3 ∧ goW last [] ws = goW last (ws.take i) (ws.drop i)) (fun H2 s2 => ⟨v, none, rfl, dp_mono s2 (df_dp hv), Nat.zero_le _, rfl⟩) ?_ ?_
    · rintro B sB i σ1 H2 s2 ⟨v, o3, rfl, hv, i3, eg⟩ x hx
      dsimp only [gName]
      have hi := (List.getElem?_eq_some_iff.mp hx).1
      have ln : (ws.take i).length = i := by rw [List.length_take]; omega
      have st := goW_step hx eg
      have gx := g x (List.mem_of_getElem? hx)
      have s12 := s1.trans (sB.trans s2)
      have len3 : ∀ H3, Same H2 H3 → ED K (tCB (lenR K) (tCons (tVar 2) tNil)) [some (.ref a), some l, some v, some (.str x)] (nn H3) H3 (.int ((i : Nat) : Int)) := fun H3 s3 => ed_is (ed_len (ed_var (i := 2) rfl (dp_df (dp_mono s3 hv))) rfl) (by show PyData.int ((((ws.take i).map PyData.str).length : Nat) : Int) = _; rw [List.length_map, ln])
      refine s_if (b := decide (i = 3)) (et_is (et_test (ed_eqI (F := nn H2) (len3 H2 (Same.refl _)) ed_int)) (decide_eq_decide.mpr (by omega))) (fun hc H3 s3 => ?_) (fun hc H3 s3 => ?_)
      · have e3 := of_decide_eq_true hc
        rw [hc, Bool.true_or, if_pos rfl] at st
        subst e3
        exact k1 4 H3 st (s12.trans s3)
      dsimp only [tNext]
      have i3' := of_decide_eq_false hc
      rw [hc, Bool.false_or] at st
      refine s_if (b := !nameB x) (et_not (et_B (ed_call (K := K) (F := nn H3) (ea_cons (ed_var (i := 3) rfl (.str x)) ea_nil) (rdc_ln gx)))) (fun hn H4 s4 => ?_) (fun hn H4 s4 => ?_)
      · have hn : nameB x = false := by simpa using hn
        rw [hn, Bool.false_and, if_pos (show (!false) = true from rfl)] at st
        refine s_retI (F := nn H4) (c := ((i + 1 : Nat) : Int)) (ed_add (len3 H4 (s3.trans s4)) ed_int) (by omega) fun H5 s5 => k1 (i + 1) H5 st (s12.trans (s3.trans (s4.trans s5)))
      have hn : nameB x = true := by simpa using hn
      rw [hn, Bool.true_and] at st
      dsimp only [tNext]
      have hv4 := dp_mono (s3.trans s4) hv
      refine run_asgd (F := nn H4) (ed_catT (ed_var (i := 2) rfl (dp_df hv4)) (ed_tup (ea_cons (ed_var (i := 3) rfl (.str x)) ea_nil) (by show 1 ≤ 100000; decide)) (by show ((ws.take i).map PyData.str).length + 1 ≤ _; rw [List.length_map, ln]; omega)) fun v2 H5 s5 hv2 => ?_
      dsimp only [gName]
      have s25 := s3.trans (s4.trans s5)
      have hv5 : Dp K H5 v2 (txD (ws.take i ++ [x])) := by rw [tx_snoc]; exact df_dp hv2
      have hl5 := dp_mono (s12.trans s25) hl
      have ln5 : (ws.take i ++ [x]).length = i + 1 := by rw [List.length_append, ln]; rfl
      refine s_if (b := !fitB last (ws.take i) x) (et_is (et_and (et_test (ed_notN (F := nn H5) (ed_var (i := 1) rfl (dp_df hl5)))) (b := !fitB last (ws.take i) x) fun hb => ?_) ?_) (fun hf H6 s6 => ?_) (fun hf H6 s6 => ?_)
      · cases last with
        | none => cases hb
        | some r0 =>
          refine et_is (et_test (ed_leTx (F := nn H5) (ed_pad (i := 2) rfl (dp_df hv5) (by omega)) (ed_var (i := 1) (d := txD (r3 r0)) rfl (dp_df hl5)))) ?_
          show _ = !decide (rkR r0 < rkL (padS (ws.take i ++ [x])))
          rw [← decide_not]
          exact decide_eq_decide.mpr List.not_lt.symm
      · cases last with
        | none => rfl
        | some r0 => rfl
      · rw [hf, if_pos rfl] at st
        refine s_retI (F := nn H6) (c := ((i + 1 : Nat) : Int)) (ed_is (ed_len (ed_var (i := 2) rfl (dp_df (dp_mono s6 hv5))) rfl) (by show PyData.int ((((ws.take i ++ [x]).map PyData.str).length : Nat) : Int) = _; rw [List.length_map, ln5])) rfl fun H7 s7 => k1 (i + 1) H7 st (s12.trans (s25.trans (s6.trans s7)))
      · rw [hf, if_neg (by decide)] at st
        exact ⟨s2.trans (s25.trans s6), v2, _, rfl, by rw [take_snoc hx]; exact dp_mono s6 hv5, by omega, st⟩
    · rintro σ1 H2 s2 ⟨v, o3, rfl, hv, l3, eg⟩
      have st := goW_end eg
      rw [List.take_length] at hv
      have len3 : ∀ H3, Same H2 H3 → ED K (tCB (lenR K) (tCons (tVar 2) tNil)) [some (.ref a), some l, some v, o3] (nn H3) H3 (.int ((ws.length : Nat) : Int)) := fun H3 s3 => ed_is (ed_len (ed_var (i := 2) rfl (dp_df (dp_mono s3 hv))) rfl) (by show PyData.int (((ws.map PyData.str).length : Nat) : Int) = _; rw [List.length_map])
      refine (et_test (ed_eqI (F := nn H2) (len3 H2 (Same.refl _)) ed_int)) H2 (Same.refl _) _ fun H3 s3 => ?_
      by_cases e : ws.length = 3
      · rw [if_pos (decide_eq_true (show ((ws.length : Nat) : Int) = 3 by omega))]
        rw [if_neg (by omega)] at st
        exact k2 st H3 (s1.trans (s2.trans s3))
      · rw [if_neg (by simpa using (show ¬ ((ws.length : Nat) : Int) = 3 by omega))]
        rw [if_pos (by omega)] at st
        refine run_edv (ed_add (F := nn H3) (len3 H3 s3) ed_int) fun v2 H4 s4 hv2 => ?_
        cases hv2
        have e1 : ((ws.length : Nat) : Int) + 1 = ((ws.length + 1 : Nat) : Int) := by omega
        have := k1 _ H4 st (s1.trans (s2.trans (s3.trans s4)))
        rw [← e1] at this
        exact this
end
end Ag

set_option Elab.async false
set_option linter.all false
set_option maxRecDepth 100000
set_option maxHeartbeats 4000000
set_option pp.maxSteps 400
namespace Ag
open PySem PySem.Spec PyProof.Rows L2
theorem dp_two {K : PySem.W.Frag} {H : Hp} {p : Addr} {x y a b : Int} (hx : x = a) (hy : y = b) (h : H p = some (.tup [.int x, .int y])) : Dp K H (.ref p) (.tuple [.int a, .int b]) := by
  subst hx; subst hy; exact .tup (SqT.of h) (.cons (.int _) (.cons (.int _) .nil))
theorem run_lastw {K : PySem.W.Frag} {σ : L2.St} {H : Hp} {te : TE} {tr : TA} {sp : Sp} {E : XK} {Q : VK} {ws : List V} (h : ∀ Q : VK, (∀ a H1, Same H H1 → H1 a = some (.lst ws) → Q (.ref a) H1) → te σ H Q) (k : ∀ a H1, Same H H1 → H1 a = some (.lst ws) → tr σ H1 fun vs H2 => sp ((.ref a :: vs) ++ []) H2 Q E) : tCall sp [] E (tCons te tr) σ H Q := h _ k
/-- one line more -/
theorem goP_step {last : Option Rw} {ls : List (List Str)} {i n : Nat} {l : List Str} (h : ls[i]? = some l) : goP last (i + 1) n (ls.drop i) = if last = some topR then some (i + 1, n + 1) else match goW last [] l with
    | some k => some (i + 1 + 1, k)
    | none => goP (some (rowOf l)) (i + 1 + 1) l.length (ls.drop (i + 1)) := by
  have hi := (List.getElem?_eq_some_iff.mp h).1
  have e : ls[i] = l := by rw [List.getElem?_eq_getElem hi] at h; exact Option.some.inj h
  rw [List.drop_eq_getElem_cons hi, e]
  rfl
theorem wrongL_cons {x0 : Str} {xr : List Str} {ls : List (List Str)} : wrongL ((x0 :: xr) :: ls) = if x0 ≠ "halls" then some (1, 1) else if 1 < (x0 :: xr).length then some (1, 2) else goP none 1 (x0 :: xr).length ls := by
  by_cases e : x0 = "halls"
  · subst e; rfl
  · show (if (x0 :: xr).head? ≠ some ("halls" : Str) then _ else _) = _
    rw [if_pos e, if_pos (show (x0 :: xr).head? ≠ some ("halls" : Str) from fun z => e (Option.some.inj z))]
section
variable {P : Program} {w : World} {K : PySem.W.Frag} {mg : Str → Option Value} {base : Heap} (T : Txt w K mg)
theorem ok_wrong_place : FnOk P w K mg base CX0 3 T.a_law_wrong_place T.d_law_wrong_place ["text"] (spLP K) := by
  have G_law_wrong_word := ok_wrong_word (P := P) (base := base) T
  refine T.D_law_wrong_place.fn.ok sc_law_wrong_place (fun vs H Q E h => ?_) (fun cdv A outer s H vs Q E hr h => ?_)
  · obtain ⟨t, rfl, _⟩ := h; rfl
  · obtain ⟨t, rfl, ok, k1, k2⟩ := h
    refine ⟨_, (pss_cons (ps_setLc (i := 1) (own := [("line", 2)]) rfl sc_law_wrong_place.nd rfl rfl (sw_true rfl rfl rfl (by decide +kernel)) (pi_list (pe_split (pv 0) pe_str)) (blkOk_by (own := [("line", 2)]) (N := ["text", "lines", "line", "last", "at", "wrong"]) (sc := defScope s_law_wrong_place) (by decide +kernel)) (fun _ _ _ _ _ => (pg_name (i := 2) sc_law_wrong_place.nd rfl (by first | exact Or.inl rfl | exact Or.inr rfl))) (fun _ _ _ _ _ => pts_nil) (fun _ _ _ _ _ => (pe_split (pv 2) pe_str)))
      (pss_cons (ps_if (pt_cmpR op_ne (pe_ix (r := rIx K) ix_seq (pe_ix (r := rIx K) ix_seq (pv 1) pe_int (fun _ _ => rfl)) pe_int (fun _ _ => rfl)) pe_str (nomark _)) (pss_one (ps_ret (pe_tup (pa_cons pe_int (pa_cons pe_int pa_nil))))) pss_nil)
      (pss_cons (ps_if (pt_cmpR op_gt (pe_callB call_len (by rfl) T.b_len bt_len (pa_cons (pe_ix (r := rIx K) ix_seq (pv 1) pe_int (fun _ _ => rfl)) pa_nil)) pe_int (nomark _)) (pss_one (ps_ret (pe_tup (pa_cons pe_int (pa_cons pe_int pa_nil))))) pss_nil)
      (pss_cons (ps_set (i := 3) sc_law_wrong_place.nd rfl (by first | exact Or.inl rfl | exact Or.inr rfl) pe_non)
      (pss_cons (ps_for PassesOwn.never rfl (pi_range2 (by rfl) T.b_range (pa_cons pe_int (pa_cons (pe_callB call_len (by rfl) T.b_len bt_len (pa_cons (pv 1) pa_nil)) pa_nil))) (pg_name (i := 4) sc_law_wrong_place.nd rfl (by first | exact Or.inl rfl | exact Or.inr rfl)) (pss_cons (ps_if (pt_cmpR (op_eqD hr.units) (pv 3) (pe_op op_rep0 (pe_tup (pa_cons pe_str pa_nil)) pe_int) (nomark _)) (pss_one (ps_ret (pe_tup (pa_cons (pv 4) (pa_cons (pe_op op_add (pe_callB call_len (by rfl) T.b_len bt_len (pa_cons (pe_ix (r := rIx K) ix_seq (pv 1) (pe_op op_sub (pv 4) pe_int) (fun _ _ => rfl)) pa_nil)) pe_int) pa_nil))))) pss_nil)
      (pss_cons (ps_set (i := 5) sc_law_wrong_place.nd rfl (by first | exact Or.inl rfl | exact Or.inr rfl) (pe_call (G_law_wrong_word) (hr.mono (by omega)) (by rfl) T.D_law_wrong_word.mg T.D_law_wrong_word.fn.kp T.D_law_wrong_word.bd .nil pass0 (pa_cons (pe_ix (r := rIx K) ix_seq (pv 1) (pv 4) (fun _ _ => rfl)) (pa_cons (pv 3) pa_nil))))
      (pss_cons (ps_if (pt_cmpR op_notN (pv 5) pe_non (nomark _)) (pss_one (ps_ret (pe_tup (pa_cons (pe_op op_add (pv 4) pe_int) (pa_cons (pv 5) pa_nil))))) pss_nil)
      (pss_one (ps_set (i := 3) sc_law_wrong_place.nd rfl (by first | exact Or.inl rfl | exact Or.inr rfl) (pe_tup (pa_cons (pe_ix (r := rIx K) ix_seq (pe_ix (r := rIx K) ix_seq (pv 1) (pv 4) (fun _ _ => rfl)) pe_int (fun _ _ => rfl)) (pa_cons (pe_ix (r := rIx K) ix_seq (pe_ix (r := rIx K) ix_seq (pv 1) (pv 4) (fun _ _ => rfl)) pe_int (fun _ _ => rfl)) (pa_cons (pe_ix (r := rIx K) ix_seq (pe_ix (r := rIx K) ix_seq (pv 1) (pv 4) (fun _ _ => rfl)) pe_int (fun _ _ => rfl)) pa_nil))))))))))
      (pss_one (ps_ret pe_non))))))), ?_⟩
    refine run_asg (run_lines (K := K) (i := 0) (j := 2) rfl ok.len (fun x H => ⟨_, fun Q q => q, rfl, rfl⟩) fun la as H1 s1 ln _ _ _ _ => ?_)
    dsimp only [gName]
    obtain ⟨x0, xr, ls, eW⟩ := wrds_cons t
    have gW := ok.gdw
    have fw := ok.few
    have lW : (wrdsOf t).length ≤ 290 := by unfold wrdsOf; rw [List.length_map]; exact fw
    unfold wrongP at k1 k2
    rw [eW] at ln gW lW k1 k2
    rw [wrongL_cons] at k1 k2
    have z0 : ∀ {σ : L2.St} {F : Addr → Prop} {H : Hp}, ED K (tC (.int 0)) σ F H (.int ((0 : Nat) : Int)) := ed_int
    refine s_if (b := !decide (x0 = "halls")) (et_test (ed_neS (F := nn H1) (ed_word (j := 0) (l := 0) rfl ln z0 rfl rfl) ed_str)) (fun hc H2 s2 => ?_) (fun hc H2 s2 => ?_)
    · have hc : x0 ≠ "halls" := by simpa using hc
      refine s_ret (F := nn H2) (ed_tup (ea_cons ed_int (ea_cons ed_int ea_nil)) (by show 2 ≤ 100000; decide)) fun y H3 s3 hy => k1 1 1 y H3 (by rw [if_pos hc]) (s1.trans (s2.trans s3)) (df_dp hy)
    have hc : x0 = "halls" := by simpa using hc
    rw [if_neg (fun z => z hc)] at k1 k2
    dsimp only [tNext]
    have ln2 := ln.same s2
    refine s_if (b := decide (1 < (x0 :: xr).length)) (et_is (et_test (ed_gt (F := nn H2) (ed_lenline (j := 0) rfl ln2 z0 rfl) ed_int)) (decide_eq_decide.mpr (by omega))) (fun hc H3 s3 => ?_) (fun hc2 H3 s3 => ?_)
    · refine s_ret (F := nn H3) (ed_tup (ea_cons ed_int (ea_cons ed_int ea_nil)) (by show 2 ≤ 100000; decide)) fun y H4 s4 hy => k1 1 2 y H4 (by rw [if_pos (of_decide_eq_true hc)]) (s1.trans (s2.trans (s3.trans s4))) (df_dp hy)
    rw [if_neg (of_decide_eq_false hc2)] at k1 k2
    dsimp only [tNext]
    have s13 := s1.trans (s2.trans s3)
    have ln3 := ln2.same s3
    have asl : (as.map V.ref).length = ls.length + 1 := by rw [List.length_map, ln3.len]; rfl
    rw [List.length_cons] at lW
    clear s1 s2 s3 ln ln2 eW fw
    refine run_asgd (F := nn H3) (K := K) ed_non fun v H4 s4 hv => ?_
    cases hv
    dsimp only [gName]
    have ln4 := ln3.same s4
    refine ⟨_, rfl, _, _, rfl, .inl ⟨_, SqL.of ln4.lst, rfl⟩, 1, _, rfl, ⟨by decide, by decide, by omega, by omega⟩, for_range (fun i σ' H' => ∃ (lv : V) (last : Option Rw) (o2 o4 o5 : Option V) (pl : List Str), σ' = [some (.str t), some (.ref la), o2, some lv, o4, o5] ∧ Same H4 H' ∧ Dp K H' lv (lastD last) ∧ (∀ r, last = some r → goodR r) ∧ ((x0 :: xr) :: ls)[i]? = some pl ∧ goP none 1 (x0 :: xr).length ls = goP last (i + 1) pl.length (ls.drop i)) ⟨.non, none, none, none, none, x0 :: xr, rfl, Same.refl _, .non, (fun r h => nomatch h), rfl, rfl⟩ ?_ ?_⟩
    · rintro i σ' H5 hi ⟨lv, last, o2, o4, o5, pl, rfl, s5, hlv, gl, hpl, eg⟩
      dsimp only [gName]
      have il : i < ls.length := by omega
      obtain ⟨l, hl⟩ : ∃ l, ls[i]? = some l := ⟨_, List.getElem?_eq_getElem il⟩
      have hl1 : ((x0 :: xr) :: ls)[i + 1]? = some l := hl
      have st := goP_step (last := last) (n := pl.length) hl
      rw [← eg] at st
      have gl1 := gW l (List.mem_of_getElem? hl1)
      have ei : (1 : Int) + (i : Int) = ((i + 1 : Nat) : Int) := by omega
      have s45 := s4.trans s5
      have at_ : ∀ {F : Addr → Prop} {H' : Hp} {o : Option V}, ED K (tVar 4) [some (.str t), some (.ref la), o2, some lv, some (.int (1 + (i : Int))), o] F H' (.int ((i + 1 : Nat) : Int)) := fun {F H' o} => by rw [← ei]; exact ed_var (i := 4) rfl (.int _)
      have ln5 := ln4.same s5
      refine s_if (b := decide (last = some topR)) (et_is (et_test (ed_eqD (F := nn H5) (ed_var (i := 3) rfl (dp_df hlv)) (ed_is (ed_rep0 (k := 3) (xs := [.str ZZ]) (ed_tup (ea_cons ed_str ea_nil) (by show 1 ≤ 100000; decide)) ed_int (by show 1 ≤ 1; decide) (by show 1 ≤ 1000; decide) (by decide)) (show _ = rowD topR from rfl)) (shp_last gl) shp_top)) (eqv_last last)) (fun hc H6 s6 => ?_) (fun hc H6 s6 => ?_)
      · rw [if_pos (of_decide_eq_true hc)] at st
        refine s_ret (F := nn H6) (ed_tup (ea_cons at_ (ea_cons (ed_add (ed_lenline (j := i) rfl (ln5.same s6) (ed_is (ed_sub at_ ed_int) (by exact congrArg PyData.int (by omega))) hpl) ed_int) ea_nil)) (by show 2 ≤ 100000; decide)) fun y H7 s7 hy => k1 (i + 1) (pl.length + 1) y H7 st (s13.trans (s45.trans (s6.trans s7))) ?_
        have e1 : ((pl.length : Nat) : Int) + 1 = ((pl.length + 1 : Nat) : Int) := by omega
        rw [← e1]
        exact df_dp hy
      rw [if_neg (of_decide_eq_false hc)] at st
      dsimp only [tNext]
      have ln6 := ln5.same s6
      have hlv6 := dp_mono s6 hlv
      have line : ∀ (te : TE) (o : Option V) (H' : Hp), Same H6 H' → ∀ Q : VK, (∀ a H1, Same H' H1 → H1 a = some (.lst (l.map V.str)) → Q (.ref a) H1) → tOp (rIx K) (tVar 1) (tVar 4) [some (.str t), some (.ref la), o2, some lv, some (.int (1 + (i : Int))), o] H' Q := fun te o H' s' Q q => run_line (K := K) (F := nn H') (j := i + 1) rfl (ln6.same s') at_ hl1 q
      refine run_asg (run_lastw (K := K) (line (tVar 4) _ H6 (Same.refl _)) fun a H7 s7 ea => ?_)
      refine ⟨_, rfl, a, lv, last, l, rfl, ea, dp_mono s7 hlv6, gl1, fun k H8 hk s8 => ?_, fun hk H8 s8 => ?_⟩
      · dsimp only [gName]
        rw [hk] at st
        refine s_if (b := true) (et_test (ed_notN (K := K) (F := nn H8) (ed_var (i := 5) (d := .int (k : Nat)) rfl (.int _)))) (fun _ H9 s9 => ?_) (fun h => nomatch h)
        refine s_ret (F := nn H9) (ed_tup (ea_cons (ed_add at_ ed_int) (ea_cons (ed_var (i := 5) (d := .int (k : Nat)) rfl (.int _)) ea_nil)) (by show 2 ≤ 100000; decide)) fun y H10 s10 hy => k1 (i + 1 + 1) k y H10 st (s13.trans (s45.trans (s6.trans (s7.trans (s8.trans (s9.trans s10)))))) ?_
        have e1 : ((i + 1 : Nat) : Int) + 1 = ((i + 1 + 1 : Nat) : Int) := by omega
        rw [← e1]
        exact df_dp hy
      · dsimp only [gName]
        rw [hk] at st
        obtain ⟨r, rfl, gr, _⟩ := goW_none hk
        have s68 := s7.trans s8
        refine s_if (b := false) (et_test (ed_notN (K := K) (F := nn H8) (ed_var (i := 5) (d := .none) rfl .non))) (fun h => nomatch h) (fun _ H9 s9 => ?_)
        dsimp only [tNext]
        have ln9 := ln6.same (s68.trans s9)
        have wd : ∀ (j : Nat) (x : Str), (r3 r)[j]? = some x → ED K (tOp (rIx K) (tOp (rIx K) (tVar 1) (tVar 4)) (tC (.int (j : Nat)))) [some (.str t), some (.ref la), o2, some lv, some (.int (1 + (i : Int))), some .non] (nn H9) H9 (.str x) := fun j x hx => ed_word (j := i + 1) (l := j) rfl ln9 at_ hl1 hx
        refine run_asgd1 (F := nn H9) (ed_tup (ea_cons (wd 0 r.1 rfl) (ea_cons (wd 1 r.2.1 rfl) (ea_cons (wd 2 r.2.2 rfl) ea_nil))) (by show 3 ≤ 100000; decide)) fun v10 H10 s10 hv10 => ?_
        exact ⟨v10, some r, _, _, _, r3 r, rfl, s5.trans (s6.trans (s68.trans (s9.trans s10))), df_dp hv10, fun r' e => by cases e; exact gr, hl1, st⟩
    · rintro σ' H5 ⟨lv, last, o2, o4, o5, pl, rfl, s5, hlv, gl, hpl, eg⟩
      rw [List.drop_eq_nil_of_le (by omega)] at eg
      exact k2 eg H5 (s13.trans (s4.trans s5))
end
end Ag

set_option Elab.async false
set_option linter.all false
set_option maxRecDepth 100000
set_option maxHeartbeats 4000000
set_option pp.maxSteps 400
namespace Ag
open PySem PySem.Spec PyProof.Rows L2
def spSRead (K : PySem.W.Frag) (C B : Addr) : Sp := fun vs H Q E => ∃ t : Str, vs = [.str t] ∧ TOk t ∧ (∀ (l k : Nat) H', wrongP t = some (l, k) → Same H H' → Out2 B "line" "word" (.int (l : Nat)) (.int (k : Nat)) H' E) ∧
  ∀ S b H', wrongP t = none → t = srvT S → Same H H' → ServerAt K C b S H' → Q (.ref b) H'
theorem wrongP_none {t : Str} (h : wrongP t = none) : ∃ S : List Rw, wrdsOf t = wrdL S ∧ t = srvT S ∧ Up rkR S ∧ ∀ r ∈ S, goodR r := by
  obtain ⟨S, e, up, g⟩ := wrongL_none (ls := wrdsOf t) (fun e => by
    obtain ⟨x0, xr, ls, e2⟩ := wrds_cons t
    rw [e] at e2; cases e2) (fun l hl e => by
    obtain ⟨x, _, rfl⟩ := List.mem_map.mp hl
    exact sp_ne x e) h
  exact ⟨S, e, srvT_of e, up, g⟩
theorem r3_map_inj : ∀ {S S' : List Rw}, S.map r3 = S'.map r3 → S = S'
  | [], [], _ => rfl
  | [], _ :: _, e => by cases e
  | _ :: _, [], e => by cases e
  | (a, b, c) :: S, (a', b', c') :: S', e => by
    rw [List.map_cons, List.map_cons] at e
    injection e with e1 e2
    unfold r3 at e1
    injection e1 with h1 e1
    injection e1 with h2 e1
    injection e1 with h3 _
    have h1 : a = a' := h1
    have h2 : b = b' := h2
    have h3 : c = c' := h3
    subst h1; subst h2; subst h3
    rw [r3_map_inj e2]
section
variable {P : Program} {w : World} {K : PySem.W.Frag} {mg : Str → Option Value} {base : Heap} (T : Txt w K mg)
theorem ok_server_read : FnOk P w K mg base (L2.CX P w) 8 T.a_server_read T.d_server_read ["text"] (spSRead K T.C_Server T.C_BadText) := by
  have G_read_row := ok_read_row (P := P) (base := base) T
  have G_Server___init__ := ok_Server_init (P := P) (base := base) T
  have G_BadText___init__ := ok_BadText_init (P := P) (base := base) (w := w) T
  refine T.D_server_read.fn.okX sc_server_read (fun vs H Q E h => ?_) (fun cdv A outer s H vs Q E hr h => ?_)
  · obtain ⟨t, rfl, _⟩ := h; rfl
  · obtain ⟨t, rfl, ok, k1, k2⟩ := h
    refine ⟨_, (pss_cons (ps_if (pt_not (pt_val (pe_callB call_isi (by rfl) T.b_isinstance bt_isinstance (pa_cons (pv 0) (pa_cons (pe_bltn (v := .ty "str") (by rfl) T.b_str bt_str rfl) pa_nil))))) (pss_one (ps_raise rfl (takes_of rfl rfl rfl rfl) (pmk_oex T.ox_BadText T.ic_BadText T.ti_BadText (G_BadText___init__) (hr.mono (by omega)) T.D_BadText___init__.bd .nil pass0 (by rfl) T.g_BadText (pa_cons pe_int (pa_cons pe_int pa_nil))))) pss_nil)
      (pss_cons (ps_setLc (i := 1) (own := [("line", 2)]) rfl sc_server_read.nd rfl rfl (sw_true rfl rfl rfl (by decide +kernel)) (pi_list (pe_split (pv 0) pe_str)) (blkOk_by (own := [("line", 2)]) (N := ["text", "lines", "line", "rows", "last", "at"]) (sc := defScope s_server_read) (by decide +kernel)) (fun _ _ _ _ _ => (pg_name (i := 2) sc_server_read.nd rfl (by first | exact Or.inl rfl | exact Or.inr rfl))) (fun _ _ _ _ _ => pts_nil) (fun _ _ _ _ _ => (pe_split (pv 2) pe_str)))
      (pss_cons (ps_if (pt_cmpR op_ne (pe_ix (r := rIx K) ix_seq (pe_ix (r := rIx K) ix_seq (pv 1) pe_int (fun _ _ => rfl)) pe_int (fun _ _ => rfl)) pe_str (nomark _)) (pss_one (ps_raise rfl (takes_of rfl rfl rfl rfl) (pmk_oex T.ox_BadText T.ic_BadText T.ti_BadText (G_BadText___init__) (hr.mono (by omega)) T.D_BadText___init__.bd .nil pass0 (by rfl) T.g_BadText (pa_cons pe_int (pa_cons pe_int pa_nil))))) pss_nil)
      (pss_cons (ps_if (pt_cmpR op_gt (pe_callB call_len (by rfl) T.b_len bt_len (pa_cons (pe_ix (r := rIx K) ix_seq (pv 1) pe_int (fun _ _ => rfl)) pa_nil)) pe_int (nomark _)) (pss_one (ps_raise rfl (takes_of rfl rfl rfl rfl) (pmk_oex T.ox_BadText T.ic_BadText T.ti_BadText (G_BadText___init__) (hr.mono (by omega)) T.D_BadText___init__.bd .nil pass0 (by rfl) T.g_BadText (pa_cons pe_int (pa_cons pe_int pa_nil))))) pss_nil)
      (pss_cons (ps_par (i := 3) (j := 4) (by rfl) sc_server_read.nd rfl rfl (by decide) rfl rfl (pa_cons (pe_lst pa_nil) (pa_cons pe_non pa_nil)) (by rfl))
      (pss_cons (ps_for (passes_of rfl) rfl (pi_range2 (by rfl) T.b_range (pa_cons pe_int (pa_cons (pe_callB call_len (by rfl) T.b_len bt_len (pa_cons (pv 1) pa_nil)) pa_nil))) (pg_name (i := 5) sc_server_read.nd rfl (by first | exact Or.inl rfl | exact Or.inr rfl)) (pss_cons (ps_if (pt_cmpR (op_eqD hr.units) (pv 4) (pe_tup (pa_cons (pe_glob (v := .str "zzzzzzzzzzzz") (by rfl) T.g_LAST_NAME ⟨_, rfl⟩) (pa_cons (pe_glob (v := .str "zzzzzzzzzzzz") (by rfl) T.g_LAST_NAME ⟨_, rfl⟩) (pa_cons (pe_glob (v := .str "zzzzzzzzzzzz") (by rfl) T.g_LAST_NAME ⟨_, rfl⟩) pa_nil)))) (nomark _)) (pss_one (ps_raise rfl (takes_of rfl rfl rfl rfl) (pmk_oex T.ox_BadText T.ic_BadText T.ti_BadText (G_BadText___init__) (hr.mono (by omega)) T.D_BadText___init__.bd .nil pass0 (by rfl) T.g_BadText (pa_cons (pv 5) (pa_cons (pe_op op_add (pe_callB call_len (by rfl) T.b_len bt_len (pa_cons (pe_ix (r := rIx K) ix_seq (pv 1) (pe_op op_sub (pv 5) pe_int) (fun _ _ => rfl)) pa_nil)) pe_int) pa_nil))))) pss_nil)
      (pss_cons (ps_set (i := 4) sc_server_read.nd rfl (by first | exact Or.inl rfl | exact Or.inr rfl) (pe_call (G_read_row) (hr.mono (by omega)) (by rfl) T.D_read_row.mg T.D_read_row.fn.kp T.D_read_row.bd .nil (passes_call (takes_of rfl rfl rfl rfl) fun _ _ _ _ z => z) (pa_cons (pe_ix (r := rIx K) ix_seq (pv 1) (pv 5) (fun _ _ => rfl)) (pa_cons (pe_op op_add (pv 5) pe_int) (pa_cons (pv 4) pa_nil)))))
      (pss_one (ps_expr (pe_bm PySem.F.plainAttrs_list PySem.F.slot_list_append PySem.F.type_list_append mt_append (pv 3) (pa_cons (pv 4) pa_nil)))))))
      (pss_one (ps_ret (pe_make T.mk_Server (G_Server___init__) (hr.mono (by omega)) (by rfl) T.g_Server T.D_Server___init__.bd .nil (passes_call (takes_of rfl rfl rfl rfl) fun _ _ _ _ z => z) (pa_cons (pe_callTy call_tuple_of (by rfl) T.b_tuple bt_tuple (pa_cons (pv 3) pa_nil)) pa_nil)))))))))), ?_⟩
    refine s_if (b := false) (et_not (et_B (ed_isi (K := K) (F := nn H) (T := "str") (d := .str t) (ed_var (i := 0) rfl (.str _)) (.inl rfl)))) (fun h => nomatch h) (fun _ H0 s0 => ?_)
    dsimp only [tNext]
    refine run_asg (run_lines (K := K) (i := 0) (j := 2) rfl ok.len (fun x H => ⟨_, fun Q q => q, rfl, rfl⟩) fun la as H1 s1 ln _ _ _ _ => ?_)
    dsimp only [gName]
    obtain ⟨x0, xr, ls, eW⟩ := wrds_cons t
    have gW := ok.gdw
    have fw := ok.few
    have lW : (wrdsOf t).length ≤ 290 := by unfold wrdsOf; rw [List.length_map]; exact fw
    replace k2 : ∀ S, wrdsOf t = wrdL S → Up rkR S → (∀ r ∈ S, goodR r) → wrongP t = none → ∀ b H', Same H H' → ServerAt K T.C_Server b S H' → Q (.ref b) H' := fun S e _ _ hn b H' s' sv => k2 S b H' hn (srvT_of e) s' sv
    have eP : wrongP t = wrongL ((x0 :: xr) :: ls) := by unfold wrongP; rw [eW]
    rw [eP] at k1 k2
    rw [eW] at ln gW lW k2
    rw [wrongL_cons] at k1 k2
    have z0 : ∀ {σ : L2.St} {F : Addr → Prop} {H : Hp}, ED K (tC (.int 0)) σ F H (.int ((0 : Nat) : Int)) := ed_int
    refine s_if (b := !decide (x0 = "halls")) (et_test (ed_neS (F := nn H1) (ed_word (j := 0) (l := 0) rfl ln z0 rfl rfl) ed_str)) (fun hc H2 s2 => ?_) (fun hc H2 s2 => ?_)
    · have hc : x0 ≠ "halls" := by simpa using hc
      exact raiseE (K := K) (F := nn H2) (x := 1) (y := 1) (ea_cons ed_int (ea_cons ed_int ea_nil)) fun H' s' => k1 1 1 H' (by rw [if_pos hc]) (s0.trans (s1.trans (s2.trans s')))
    have hc : x0 = "halls" := by simpa using hc
    rw [if_neg (fun z => z hc)] at k1 k2
    dsimp only [tNext]
    have ln2 := ln.same s2
    refine s_if (b := decide (1 < (x0 :: xr).length)) (et_is (et_test (ed_gt (F := nn H2) (ed_lenline (j := 0) rfl ln2 z0 rfl) ed_int)) (decide_eq_decide.mpr (by omega))) (fun hc H3 s3 => ?_) (fun hc2 H3 s3 => ?_)
    · exact raiseE (K := K) (F := nn H3) (x := 1) (y := 2) (ea_cons ed_int (ea_cons ed_int ea_nil)) fun H' s' => k1 1 2 H' (by rw [if_pos (of_decide_eq_true hc)]) (s0.trans (s1.trans (s2.trans (s3.trans s'))))
    rw [if_neg (of_decide_eq_false hc2)] at k1 k2
    dsimp only [tNext]
    have s13 := s0.trans (s1.trans (s2.trans s3))
    have ln3 := ln2.same s3
    have asl : (as.map V.ref).length = ls.length + 1 := by rw [List.length_map, ln3.len]; rfl
    rw [List.length_cons] at lW
    clear s0 s1 s2 s3 ln ln2 fw
    refine ⟨(by show 0 ≤ sizeLine; decide), fun rl hrl => ⟨_, _, rfl, ?_⟩⟩
    have s4 := Same.newA (o := .lst []) hrl
    have ln4 := ln3.same s4
    refine ⟨_, rfl, _, _, rfl, .inl ⟨_, SqL.of ln4.lst, rfl⟩, 1, _, rfl, ⟨by decide, by decide, by omega, by omega⟩, for_range (fun i σ' H' => ∃ (lv : V) (last : Option Rw) (o2 o5 : Option V) (pl : List Str) (zs : List (Addr × Rw)), σ' = [some (.str t), some (.ref la), o2, some (.ref rl), some lv, o5] ∧ Same H3 H' ∧ Dp K H' lv (lastD last) ∧ (∀ r, last = some r → goodR r) ∧ ((x0 :: xr) :: ls)[i]? = some pl ∧ goP none 1 (x0 :: xr).length ls = goP last (i + 1) pl.length (ls.drop i) ∧ H' rl = some (.lst (zs.map fun z => V.ref z.1)) ∧ RowsAt K H' zs ∧ (zs.map Prod.snd).map r3 = ls.take i) ⟨.non, none, none, none, x0 :: xr, [], rfl, s4, .non, (fun r h => nomatch h), rfl, rfl, upd_same, (fun z hz => nomatch hz), rfl⟩ ?_ ?_⟩
    · rintro i σ' H5 hi ⟨lv, last, o2, o5, pl, zs, rfl, s5, hlv, gl, hpl, eg, erl, rz, ez⟩
      dsimp only [gName]
      have il : i < ls.length := by omega
      have zl : zs.length = i := by
        have := congrArg List.length ez
        rw [List.length_map, List.length_map, List.length_take] at this; omega
      obtain ⟨l, hl⟩ : ∃ l, ls[i]? = some l := ⟨_, List.getElem?_eq_getElem il⟩
      have hl1 : ((x0 :: xr) :: ls)[i + 1]? = some l := hl
      have st := goP_step (last := last) (n := pl.length) hl
      rw [← eg] at st
      have gl1 := gW l (List.mem_of_getElem? hl1)
      have ei : (1 : Int) + (i : Int) = ((i + 1 : Nat) : Int) := by omega
      have at_ : ∀ {F : Addr → Prop} {H' : Hp}, ED K (tVar 5) [some (.str t), some (.ref la), o2, some (.ref rl), some lv, some (.int (1 + (i : Int)))] F H' (.int ((i + 1 : Nat) : Int)) := fun {F H'} => by rw [← ei]; exact ed_var (i := 5) rfl (.int _)
      have ln5 := ln3.same s5
      refine s_if (b := decide (last = some topR)) (et_is (et_test (ed_eqD (F := nn H5) (ed_var (i := 4) rfl (dp_df hlv)) (ed_is (ed_tup (ea_cons ed_str (ea_cons ed_str (ea_cons ed_str ea_nil))) (by show 3 ≤ 100000; decide)) (show _ = rowD topR from rfl)) (shp_last gl) shp_top)) (eqv_last last)) (fun hc H6 s6 => ?_) (fun hc H6 s6 => ?_)
      · rw [if_pos (of_decide_eq_true hc)] at st
        have e1 : ((pl.length : Nat) : Int) + 1 = ((pl.length + 1 : Nat) : Int) := by omega
        exact raiseE (K := K) (F := nn H6) (x := ((i + 1 : Nat) : Int)) (y := ((pl.length + 1 : Nat) : Int)) (ea_cons at_ (ea_cons (ed_is (ed_add (ed_lenline (j := i) rfl (ln5.same s6) (ed_is (ed_sub at_ ed_int) (by exact congrArg PyData.int (by omega))) hpl) ed_int) (by rw [e1])) ea_nil)) fun H' s' => k1 (i + 1) (pl.length + 1) H' st (s13.trans (s5.trans (s6.trans s')))
      rw [if_neg (of_decide_eq_false hc)] at st
      dsimp only [tNext]
      have ln6 := ln5.same s6
      have hlv6 := dp_mono s6 hlv
      refine run_asg (run_lastw (K := K) (fun Q q => run_line (K := K) (F := nn H6) (j := i + 1) rfl ln6 at_ hl1 q) fun a H7 s7 ea => ?_)
      have e2 : ((i + 1 : Nat) : Int) + 1 = ((i + 1 + 1 : Nat) : Int) := by omega
      refine ⟨_, rfl, _, _, rfl, rfl, _, rfl, a, _, lv, last, l, rfl, ea, dp_mono s7 hlv6, gl1, fun k H8 hk s8 => ?_, fun y H8 hk s8 hy => ?_⟩
      · rw [hk] at st
        have := k1 (i + 1 + 1) k H8 st (s13.trans (s5.trans (s6.trans (s7.trans s8))))
        rw [← e2, ← ei] at this
        exact this
      · dsimp only [gName]
        rw [hk] at st
        obtain ⟨r, rfl, gr, _⟩ := goW_none hk
        have s68 := s6.trans (s7.trans s8)
        cases hy with
        | tup hs hall =>
          rename_i q xs
          have ex : xs = rowV r := strs_dps (xs := r3 r) hall
          subst ex
          have e8 := s68 _ _ erl
          refine ⟨_, rfl, .inl ⟨rfl, _, SqL.of e8⟩, _, rfl, rl, _, _, rfl, rfl, e8, lt5 (by rw [List.length_map]; omega), ?_⟩
          have rz2 := rz.same s68
          have hsu := st_upd (o := .lst (zs.map (fun z => V.ref z.1) ++ [V.ref q])) e8 hs
          refine ⟨.ref q, some r, _, _, r3 r, zs ++ [(q, r)], rfl, fun b o z => ?_, .tup hsu (.cons (.str _) (.cons (.str _) (.cons (.str _) .nil))), fun r' e => by cases e; exact gr, hl1, st, by rw [upd_same, List.map_append]; rfl, fun z hz => ?_, ?_⟩
          · rw [upd_ne (ne_of_none z hrl)]; exact s68 _ _ (s5 _ _ z)
          · rcases List.mem_append.mp hz with hz | hz
            · exact ⟨st_upd e8 (rz2 z hz).1, (rz2 z hz).2⟩
            · rw [List.mem_singleton.mp hz]; exact ⟨hsu, gr⟩
          · rw [List.map_append, List.map_append, ez, take_snoc hl]; rfl
    · rintro σ' H5 ⟨lv, last, o2, o5, pl, zs, rfl, s5, hlv, gl, hpl, eg, erl, rz, ez⟩
      have hle : ls.length ≤ ((as.map V.ref).length - 1 : Int).toNat := by omega
      rw [List.drop_eq_nil_of_le (by omega)] at eg
      rw [List.take_of_length_le (by omega)] at ez
      have hn : wrongP t = none := by
        rw [eP, wrongL_cons, if_neg (fun z => z hc), if_neg (of_decide_eq_false hc2)]; exact eg
      obtain ⟨S, eS, _, up, g⟩ := wrongP_none hn
      have en : zs.map Prod.snd = S := by
        refine r3_map_inj ?_
        rw [ez]
        rw [eW] at eS
        injection eS
      have zl : zs.length = S.length := by have := congrArg List.length en; rwa [List.length_map] at this
      have Sl : S.length = ls.length := by
        have := congrArg List.length ez
        rw [List.length_map, en] at this; exact this
      dsimp only
      refine ret_make ⟨_, rfl, rl, _, rfl, .inl ⟨SqL.of erl, fun u hu => ?_⟩⟩
      have s6 := Same.newA (o := .tup (zs.map fun z => V.ref z.1)) hu
      have et := upd_same (H := H5) (a := u) (o := .tup (zs.map fun z => V.ref z.1))
      refine made_of T (R := zs.map Prod.snd) (.tup (SqT.of et) (rows_dps (rz.same s6))) (.inr rfl) (by rw [List.map_map]; rfl) (fun r hr => ?_) (by rw [List.length_map]; omega) (S := S) (by rw [en]; exact Srt.self up) fun b H2 s7 sv => k2 S ?_ up g eg b H2 (s13.trans (s5.trans (s6.trans s7))) sv
      · rw [en] at hr; exact g r hr
      · rw [← eW]; exact eS
end
end Ag

set_option Elab.async false
set_option linter.all false
set_option maxRecDepth 100000
set_option maxHeartbeats 4000000
set_option pp.maxSteps 400
namespace Ag
open PySem PySem.Spec PyProof.Rows L2
/-! ### texts that can be bent -/
def WdOk (B : Nat) (x : Str) : Prop := x.length ≤ B ∧ ∀ c ∈ x.cps.toList, c < 0x110000 ∧ c ≠ 10 ∧ c ≠ 32
def LOk (B : Nat) (l : List Str) : Prop := ∀ x ∈ l, WdOk B x
def cst (l : List Str) : Nat := (l.map (·.length)).sum + max l.length 1
def costW (W : List (List Str)) : Nat := (W.map cst).sum
structure BOk (N B L : Nat) (W : List (List Str)) : Prop where
  few : W.length ≤ N
  word : ∀ l ∈ W, LOk B l
  cost : costW W ≤ L
theorem WdOk.more {B B' : Nat} {x : Str} (h : WdOk B x) (l : B ≤ B') : WdOk B' x := ⟨Nat.le_trans h.1 l, h.2⟩
theorem LOk.more {B B' : Nat} {x : List Str} (h : LOk B x) (l : B ≤ B') : LOk B' x := fun y hy => (h y hy).more l
section
variable {α : Type} (f : α → Nat)
theorem sum_mem {x : α} : ∀ {W : List α}, x ∈ W → f x ≤ (W.map f).sum
  | y :: W, h => by
    rw [List.map_cons, List.sum_cons]
    rcases List.mem_cons.mp h with rfl | h
    · omega
    · have := sum_mem h; omega
theorem sum_set (x : α) : ∀ (W : List α) (j : Nat), ((W.set j x).map f).sum ≤ (W.map f).sum + f x
  | [], _ => by simp
  | y :: W, 0 => by simp only [List.set_cons_zero, List.map_cons, List.sum_cons]; omega
  | y :: W, j + 1 => by
    have := sum_set x W j
    simp only [List.set_cons_succ, List.map_cons, List.sum_cons]; omega
theorem sum_erase : ∀ (W : List α) (j : Nat), ((W.eraseIdx j).map f).sum ≤ (W.map f).sum
  | [], _ => by simp
  | y :: W, 0 => by simp only [List.eraseIdx_cons_zero, List.map_cons, List.sum_cons]; omega
  | y :: W, j + 1 => by
    have := sum_erase W j
    simp only [List.eraseIdx_cons_succ, List.map_cons, List.sum_cons]; omega
theorem sum_ins (x : α) (W : List α) (j : Nat) : ((W.take j ++ [x] ++ W.drop j).map f).sum = (W.map f).sum + f x := by
  have e : (W.map f).sum = ((W.take j ++ W.drop j).map f).sum := by rw [List.take_append_drop]
  rw [e]
  simp only [List.map_append, List.sum_append, List.map_cons, List.map_nil, List.sum_cons, List.sum_nil]
  omega
end
theorem cst_set {l : List Str} {x : Str} {j : Nat} : cst (l.set j x) ≤ cst l + x.length := by
  have := sum_set (fun x : Str => x.length) x l j
  unfold cst
  rw [List.length_set]
  omega
theorem cst_erase {l : List Str} {j : Nat} : cst (l.eraseIdx j) ≤ cst l := by
  have := sum_erase (fun x : Str => x.length) l j
  have l2 : (l.eraseIdx j).length ≤ l.length := List.length_eraseIdx_le l j
  unfold cst
  omega
theorem cst_ins {l : List Str} {x : Str} {j : Nat} : cst (l.take j ++ [x] ++ l.drop j) ≤ cst l + x.length + 1 := by
  have := sum_ins (fun x : Str => x.length) x l j
  have l2 : (l.take j ++ [x] ++ l.drop j).length = l.length + 1 := by
    simp only [List.length_append, List.length_take, List.length_drop, List.length_cons, List.length_nil]; omega
  unfold cst
  omega
theorem len_cst (l : List Str) : l.length ≤ cst l := by unfold cst; omega
/-! ### the text behind the words -/
theorem no_nl {B : Nat} {l : List Str} (h : LOk B l) : (10 : Nat) ∉ (Txt.join " " l).cps.toList := fun hc => by
  rw [TL.join_eq] at hc
  rcases join_sign hc with q | ⟨x, hx, q⟩
  · exact absurd q (by decide +kernel)
  · exact ((h x hx).2 10 q).2.1 rfl
def fillL (l : List Str) : List Str := if l = [] then [("" : Str)] else l
theorem split_l {B : Nat} {l : List Str} (h : LOk B l) : Txt.split (Txt.join " " l) " " = fillL l := by
  unfold fillL
  by_cases e : l = []
  · subst e
    rw [if_pos rfl]
    have e := TL.split_join (y := " ") (s := 32) (S := []) (by decide +kernel) (by decide +kernel) (parts := [("" : Str)]) (by simp) (fun p hp => by rw [List.mem_singleton.mp hp]; decide +kernel)
    exact e
  · rw [if_neg e]
    exact TL.split_join (y := " ") (s := 32) (S := []) (by decide +kernel) (by decide +kernel) (parts := l) e fun p hp hc => ((h p hp).2 32 hc).2.2 rfl
theorem wrds_join {B : Nat} {W : List (List Str)} (ne : W ≠ []) (h : ∀ l ∈ W, LOk B l) : wrdsOf (Txt.join "\n" (W.map fun l => Txt.join " " l)) = W.map fillL := by
  unfold wrdsOf
  have e : Txt.split (Txt.join "\n" (W.map fun l => Txt.join " " l)) "\n" = W.map fun l => Txt.join " " l :=
    TL.split_join (y := "\n") (s := 10) (S := []) (by decide +kernel) (by decide +kernel) (parts := W.map fun l => Txt.join " " l) (by simpa using ne) fun p hp hc => by
      obtain ⟨l, hl, rfl⟩ := List.mem_map.mp hp
      exact no_nl (h l hl) hc
  rw [e, List.map_map]
  exact List.map_congr_left fun l hl => split_l (h l hl)
theorem wd_nil (B : Nat) : WdOk B ("" : Str) := ⟨Nat.zero_le _, fun c hc => by
  have z : (("" : Str)).cps.toList = [] := by decide +kernel
  rw [z] at hc; cases hc⟩
theorem fill_ok {B : Nat} {l : List Str} (h : LOk B l) : LOk B (fillL l) ∧ cst (fillL l) = cst l := by
  unfold fillL
  by_cases e : l = []
  · subst e
    rw [if_pos rfl]
    exact ⟨fun x hx => by rw [List.mem_singleton.mp hx]; exact wd_nil B, by decide +kernel⟩
  · rw [if_neg e]; exact ⟨h, rfl⟩
theorem bok_join {N B L : Nat} {W : List (List Str)} (h : BOk N B L W) (hN : 1 ≤ N) (hL : 1 ≤ L) : BOk N B L (wrdsOf (Txt.join "\n" (W.map fun l => Txt.join " " l))) := by
  by_cases ne : W = []
  · subst ne
    have e : wrdsOf (Txt.join "\n" (([] : List (List Str)).map fun l => Txt.join " " l)) = [[("" : Str)]] := by
      have e := wrds_join (B := 0) (W := [[("" : Str)]]) (by simp) (fun l hl x hx => by
        rw [List.mem_singleton.mp hl] at hx
        rw [List.mem_singleton.mp hx]; exact wd_nil 0)
      exact e
    rw [e]
    exact ⟨hN, fun l hl x hx => by
      rw [List.mem_singleton.mp hl] at hx
      rw [List.mem_singleton.mp hx]; exact wd_nil B, Nat.le_trans (by decide +kernel) hL⟩
  · rw [wrds_join ne h.word]
    refine ⟨by rw [List.length_map]; exact h.few, fun l hl => ?_, ?_⟩
    · obtain ⟨m, hm, rfl⟩ := List.mem_map.mp hl
      exact (fill_ok (h.word m hm)).1
    · have : costW (W.map fillL) = costW W := by
        unfold costW
        rw [List.map_map]
        exact congrArg _ (List.map_congr_left fun m hm => (fill_ok (h.word m hm)).2)
      rw [this]; exact h.cost
theorem len_cost {t : Str} : t.length + 1 = costW (wrdsOf t) := by
  have e := join_len1 "\n" l_nl (nl_ne t)
  rw [PySem.StrLaws.join_split] at e
  rw [e]
  unfold costW wrdsOf
  rw [List.map_map]
  have z : ∀ x : Str, (cst ∘ fun x => Txt.split x " ") x = x.length + 1 := fun x => by
    have e2 := join_len1 " " l_sp (sp_ne x)
    rw [PySem.StrLaws.join_split] at e2
    have : 1 ≤ (Txt.split x " ").length := List.length_pos_iff.mpr (sp_ne x)
    show ((Txt.split x " ").map (·.length)).sum + max (Txt.split x " ").length 1 = _
    omega
  rw [List.map_congr_left fun x _ => z x]
  have s : ∀ xs : List Str, (xs.map fun x => x.length + 1).sum = (xs.map (·.length)).sum + xs.length := by
    intro xs
    induction xs with
    | nil => rfl
    | cons x xs ih => simp only [List.map_cons, List.sum_cons, List.length_cons, ih]; omega
  rw [s]
theorem BOk.tok {N B L : Nat} {t : Str} (h : BOk N B L (wrdsOf t)) (hN : N ≤ 290) (hB : B ≤ 1000) (hL : L ≤ 90000) : TOk t := by
  refine ⟨?_, ?_, fun l hl x hx => ?_⟩
  · have := len_cost (t := t)
    have := h.cost
    omega
  · have := h.few
    unfold wrdsOf at this
    rw [List.length_map] at this
    omega
  · have w := h.word l hl x hx
    simp only [gd, Bool.and_eq_true, decide_eq_true_eq]
    refine ⟨?_, Nat.le_trans w.1 hB⟩
    rw [← Array.all_toList, List.all_eq_true]
    exact fun c hc => decide_eq_true (w.2 c hc).1
/-! ### live lines -/
section
variable {K : PySem.W.Frag} {H H' : Hp} {la : Addr} {as : List Addr} {W : List (List Str)}
theorem LnAt.but {p c n : Nat} (P : Pen p c n H) (b : But p H H') (h : LnAt la as W H) : LnAt la as W H' := ⟨b _ _ (P.ne h.lst fun _ e => nomatch e) h.lst, h.len, fun i a ws h1 h2 => b _ _ (P.ne (h.at_ i a ws h1 h2) fun _ e => nomatch e) (h.at_ i a ws h1 h2)⟩
theorem LnAt.dp (h : LnAt la as W H) : Dp K H (.ref la) (.list (W.map fun ws => .list (ws.map .str))) := by
  have all : ∀ {as : List Addr} {W : List (List Str)}, as.length = W.length → (∀ (i : Nat) a ws, as[i]? = some a → W[i]? = some ws → H a = some (.lst (ws.map V.str))) → DpAll K H (as.map V.ref) (W.map fun ws => .list (ws.map .str)) := by
    intro as
    induction as with
    | nil =>
      intro W hl _
      cases W with
      | nil => exact .nil
      | cons _ _ => simp at hl
    | cons a as ih =>
      intro W hl hat
      cases W with
      | nil => simp at hl
      | cons ws W => exact .cons (.lst (SqL.of (hat 0 a ws rfl rfl)) (dps_strs ws)) (ih (by simpa using hl) fun i b l h1 h2 => hat (i + 1) b l h1 h2)
  exact .lst (SqL.of h.lst) (all h.len h.at_)
theorem LnAt.setL {j : Nat} {a : Addr} {ws : List Str} (h : LnAt la as W H) (nd : as.Nodup) (nla : la ∉ as) (ha : as[j]? = some a) : LnAt la as (W.set j ws) (upd H a (.lst (ws.map V.str))) := by
  have ma := List.mem_of_getElem? ha
  have nl : la ≠ a := fun e => by rw [← e] at ma; exact nla ma
  refine ⟨by rw [upd_ne nl]; exact h.lst, by rw [List.length_set]; exact h.len, fun i b l h1 h2 => ?_⟩
  by_cases e : i = j
  · subst e
    rw [ha] at h1
    have eb := Option.some.inj h1
    subst eb
    have hi : i < W.length := by rw [← h.len]; exact (List.getElem?_eq_some_iff.mp ha).1
    rw [List.getElem?_set_self hi] at h2
    have el := Option.some.inj h2
    subst el
    exact upd_same
  · have nb : b ≠ a := fun z => e (by
      subst z
      have hi := (List.getElem?_eq_some_iff.mp h1)
      have hj := (List.getElem?_eq_some_iff.mp ha)
      rcases Nat.lt_trichotomy i j with lt | eq | lt
      · exact absurd (hi.2.trans hj.2.symm) (List.pairwise_iff_getElem.mp nd i j hi.1 hj.1 lt)
      · exact eq
      · exact absurd (hj.2.trans hi.2.symm) (List.pairwise_iff_getElem.mp nd j i hj.1 hi.1 lt))
    rw [List.getElem?_set_ne (fun z => e z.symm)] at h2
    rw [upd_ne nb]
    exact h.at_ i b l h1 h2
theorem LnAt.chg {as' : List Addr} {W' : List (List Str)} (hl : as'.length = W'.length) (hat : ∀ (i : Nat) a ws, as'[i]? = some a → W'[i]? = some ws → a ≠ la ∧ H a = some (.lst (ws.map V.str))) : LnAt la as' W' (upd H la (.lst (as'.map V.ref))) :=
  ⟨upd_same, hl, fun i a ws h1 h2 => by
    obtain ⟨n, e⟩ := hat i a ws h1 h2
    rw [upd_ne n]; exact e⟩
end
end Ag

set_option Elab.async false
set_option linter.all false
set_option maxRecDepth 100000
set_option maxHeartbeats 8000000
set_option pp.maxSteps 400
namespace Ag
open PySem PySem.Spec PyProof.Rows L2
theorem map_erase {α β : Type} (f : α → β) : ∀ (xs : List α) (j : Nat), (xs.map f).eraseIdx j = (xs.eraseIdx j).map f
  | [], _ => rfl
  | x :: xs, 0 => rfl
  | x :: xs, j + 1 => by rw [List.map_cons, List.eraseIdx_cons_succ, List.eraseIdx_cons_succ, List.map_cons, map_erase f xs j]
theorem map_ins {α β : Type} (f : α → β) (xs : List α) (x : α) (j : Nat) : (xs.map f).take j ++ [f x] ++ (xs.map f).drop j = (xs.take j ++ [x] ++ xs.drop j).map f := by
  rw [List.map_append, List.map_append, List.map_take, List.map_drop]; rfl
theorem ixN_nat {n j : Nat} (h : j < n) : ixN n ((j : Nat) : Int) = some j := by
  unfold ixN
  rw [if_pos (by omega), if_pos (by omega)]; rfl
theorem pos_nat {d : Int} {n : Nat} (h0 : 0 ≤ d) (h1 : d < (n : Nat)) : ∃ k : Nat, d = (k : Nat) ∧ k < n := ⟨d.toNat, by omega, by omega⟩
theorem run_lineA {K : PySem.W.Frag} {σ : L2.St} {H : Hp} {te : TE} {i j la : Nat} {as : List Addr} {W : List (List Str)} {ws : List Str} {a : Addr} (hi : σ[i]? = some (some (.ref la))) (ln : LnAt la as W H) (h : ∀ H1, Same H H1 → ED K te σ (nn H) H1 (.int (j : Nat))) (ha : as[j]? = some a) (hw : W[j]? = some ws) {Q : VK} (k : ∀ H1, Same H H1 → H1 a = some (.lst (ws.map V.str)) → Q (.ref a) H1) : tOp (rIx K) (tVar i) te σ H Q := by
  refine ⟨_, hi, h H (Same.refl _) H (Same.refl _) _ fun v H1 s1 hv => ?_⟩
  cases hv
  exact .inl ⟨la, _, _, .ref a, rfl, rfl, SqL.of (ln.same s1).lst, atI_nat (by rw [List.getElem?_map, ha]; rfl), k H1 s1 ((ln.same s1).at_ _ _ _ ha hw)⟩
theorem ed_wordE {K : PySem.W.Frag} {σ : L2.St} {F : Addr → Prop} {H : Hp} {te t2 : TE} {i j la l : Nat} {as : List Addr} {W : List (List Str)} {ws : List Str} {x : Str} (hi : σ[i]? = some (some (.ref la))) (ln : LnAt la as W H) (h : ∀ (F : Addr → Prop) H1, ED K te σ F H1 (.int (j : Nat))) (hw : W[j]? = some ws) (h2 : ∀ (F : Addr → Prop) H1, ED K t2 σ F H1 (.int (l : Nat))) (hx : ws[l]? = some x) : ED K (tOp (rIx K) (tOp (rIx K) (tVar i) te) t2) σ F H (.str x) := fun H1 s1 Q q =>
  run_line (K := K) (F := F) hi (ln.same s1) (fun H2 s2 Q q => h F H2 H2 (Same.refl _) Q q) hw fun a H2 s2 e => h2 F H2 H2 (Same.refl _) _ fun v H3 s3 hv => by
    cases hv
    exact .inl ⟨a, _, _, .str x, rfl, rfl, SqL.of (s3 _ _ e), atI_nat (by rw [List.getElem?_map, hx]; rfl), q _ H3 (s2.trans s3) (.str _)⟩
theorem upd_twice {H : Hp} {a : Addr} {o o' : HO} : upd (upd H a o) a o' = upd H a o' := funext fun b => by
  by_cases e : b = a
  · subst e; rw [upd_same, upd_same]
  · rw [upd_ne e, upd_ne e, upd_ne e]
/-- two lists go side by side -/
def Prs {α β : Type} (R : α → β → Prop) (xs : List α) (ys : List β) : Prop := xs.length = ys.length ∧ ∀ (i : Nat) a b, xs[i]? = some a → ys[i]? = some b → R a b
theorem prs_cons {α β : Type} {R : α → β → Prop} {xs : List α} {ys : List β} {x : α} {y : β} (h : R x y) (t : Prs R xs ys) : Prs R (x :: xs) (y :: ys) := by
  refine ⟨by rw [List.length_cons, List.length_cons, t.1], fun i a b ha hb => ?_⟩
  cases i with
  | zero => cases ha; cases hb; exact h
  | succ i => exact t.2 i a b ha hb
theorem prs_tl {α β : Type} {R : α → β → Prop} {xs : List α} {ys : List β} {x : α} {y : β} (t : Prs R (x :: xs) (y :: ys)) : Prs R xs ys := ⟨by have := t.1; rw [List.length_cons, List.length_cons] at this; omega, fun i a b ha hb => t.2 (i + 1) a b ha hb⟩
theorem prs_ins {α β : Type} {R : α → β → Prop} {x : α} {y : β} : ∀ {xs : List α} {ys : List β} (j : Nat), R x y → Prs R xs ys → Prs R (xs.take j ++ [x] ++ xs.drop j) (ys.take j ++ [y] ++ ys.drop j)
  | [], [], j, h, t => by
    rw [List.take_nil, List.drop_nil, List.take_nil, List.drop_nil]
    exact prs_cons h t
  | [], _ :: _, _, _, t => absurd t.1 (by simp)
  | _ :: _, [], _, _, t => absurd t.1 (by simp)
  | a :: xs, b :: ys, 0, h, t => prs_cons h t
  | a :: xs, b :: ys, j + 1, h, t => prs_cons (t.2 0 a b rfl rfl) (prs_ins j h (prs_tl t))
theorem prs_app {α β : Type} {R : α → β → Prop} {x : α} {y : β} : ∀ {xs : List α} {ys : List β}, R x y → Prs R xs ys → Prs R (xs ++ [x]) (ys ++ [y])
  | [], [], h, t => prs_cons h t
  | [], _ :: _, _, t => absurd t.1 (by simp)
  | _ :: _, [], _, t => absurd t.1 (by simp)
  | a :: xs, b :: ys, h, t => prs_cons (t.2 0 a b rfl rfl) (prs_app h (prs_tl t))
theorem prs_erase {α β : Type} {R : α → β → Prop} : ∀ {xs : List α} {ys : List β} (j : Nat), Prs R xs ys → Prs R (xs.eraseIdx j) (ys.eraseIdx j)
  | [], [], _, t => t
  | [], _ :: _, _, t => absurd t.1 (by simp)
  | _ :: _, [], _, t => absurd t.1 (by simp)
  | a :: xs, b :: ys, 0, t => prs_tl t
  | a :: xs, b :: ys, j + 1, t => prs_cons (t.2 0 a b rfl rfl) (prs_erase j (prs_tl t))
theorem run_dropBM {K : PySem.W.Frag} {to : TE} {ta : TA} {r : V → List V → Hp → VK → Prop} {D : Ends} {σ : L2.St} {H : Hp} (h : to σ H fun x H1 => tyV K "list" x H1 ∧ ta σ H1 fun xs H2 => r x xs H2 fun _ H3 => D.nx σ H3) : tDrop (tBM K "list" r to ta) D σ H := h
theorem run_gsub {to ti : TE} {t : TSet} {v : V} {Q : L2.St → Hp → Prop} {σ : L2.St} {H : Hp} (h : to σ H fun o H1 => ti σ H1 fun i H2 => t o i v H2 fun H3 => Q σ H3) : gSub to ti t v σ H Q := h
def wdC (x : Str) : Bool := decide (x.length ≤ 12) && x.cps.toList.all fun c => decide (c < 0x110000) && (decide (c ≠ 10) && decide (c ≠ 32))
theorem wd_lit {x : Str} {B : Nat} (h : wdC x = true) (l : 12 ≤ B) : WdOk B x := by
  unfold wdC at h
  simp only [Bool.and_eq_true, decide_eq_true_eq, List.all_eq_true] at h
  exact ⟨Nat.le_trans h.1 l, fun c hc => ⟨(h.2 c hc).1, (h.2 c hc).2.1, (h.2 c hc).2.2⟩⟩
theorem wd_add {x y : Str} {A B : Nat} (h : WdOk A x) (k : WdOk B y) : WdOk (A + B) (x ++ y) := by
  refine ⟨by rw [app_len]; have := h.1; have := k.1; omega, fun c hc => ?_⟩
  rw [show (x ++ y).cps.toList = x.cps.toList ++ y.cps.toList from TL.tl_append _ _] at hc
  rcases List.mem_append.mp hc with hc | hc
  · exact h.2 c hc
  · exact k.2 c hc
def opts3 (x : Str) : List Str := ["", "A", "halls", "4", "zzzzzzzzzzzz", "a", x ++ "z"]
theorem opts3_ok {B : Nat} {x : Str} (hB : 12 ≤ B) (h : WdOk B x) : ∀ w ∈ opts3 x, WdOk (B + 1) w := by
  intro w hw
  simp only [opts3, List.mem_cons, List.not_mem_nil, or_false] at hw
  rcases hw with rfl | rfl | rfl | rfl | rfl | rfl | rfl
  · exact wd_lit (by decide +kernel) (by omega)
  · exact wd_lit (by decide +kernel) (by omega)
  · exact wd_lit (by decide +kernel) (by omega)
  · exact wd_lit (by decide +kernel) (by omega)
  · exact wd_lit (by decide +kernel) (by omega)
  · exact wd_lit (by decide +kernel) (by omega)
  · exact wd_add h ⟨by decide +kernel, by decide +kernel⟩
theorem lok_set {B : Nat} {l : List Str} {x : Str} {j : Nat} (h : LOk B l) (k : WdOk B x) : LOk B (l.set j x) := fun y hy => by
  rcases List.mem_or_eq_of_mem_set hy with hy | rfl
  · exact h y hy
  · exact k
theorem lok_ins {B : Nat} {l : List Str} {x : Str} {j : Nat} (h : LOk B l) (k : WdOk B x) : LOk B (l.take j ++ [x] ++ l.drop j) := fun y hy => by
  rcases List.mem_append.mp hy with hy | hy
  · rcases List.mem_append.mp hy with hy | hy
    · exact h y (List.mem_of_mem_take hy)
    · rw [List.mem_singleton.mp hy]; exact k
  · exact h y (List.mem_of_mem_drop hy)
theorem lok_app {B : Nat} {l : List Str} {x : Str} (h : LOk B l) (k : WdOk B x) : LOk B (l ++ [x]) := fun y hy => by
  rcases List.mem_append.mp hy with hy | hy
  · exact h y hy
  · rw [List.mem_singleton.mp hy]; exact k
theorem cst_app {l : List Str} {x : Str} : cst (l ++ [x]) ≤ cst l + x.length + 1 := by
  unfold cst
  simp only [List.map_append, List.sum_append, List.map_cons, List.map_nil, List.sum_cons, List.sum_nil, List.length_append, List.length_cons, List.length_nil]
  omega
def spBent (K : PySem.W.Frag) : Sp := fun vs H Q _ => ∃ (p c n N B L : Nat) (t : Str), vs = [.ref p, .str t] ∧ Pen p c n H ∧ BOk N B L (wrdsOf t) ∧ 12 ≤ B ∧ B ≤ 900 ∧ N ≤ 280 ∧ L ≤ 40000 ∧ n + 1000000 < 1000000000000 ∧
  ∀ t' H', BOk (N + 1) (B + 1) (2 * L + 2 * B + 60) (wrdsOf t') → But p H H' → Pen p c (n + 10) H' → Q (.str t') H'
section
variable {P : Program} {w : World} {K : PySem.W.Frag} {mg : Str → Option Value} {base : Heap} (T : Txt w K mg)
theorem ok_bent : FnOk P w K mg base CX0 3 T.a_law_bent T.d_law_bent ["pen", "text"] (spBent K) := by
  have G_law_draw := ok_draw (P := P) (base := base) T
  have G_law_pick := ok_pick (P := P) (base := base) T
  refine T.D_law_bent.fn.ok sc_law_bent (fun vs H Q E h => ?_) (fun cdv A outer s H vs Q E hr h => ?_)
  · obtain ⟨p, c, n, N, B, L, t, rfl, _⟩ := h; rfl
  · obtain ⟨p, c, n, N, B, L, t, rfl, P0, bk, B1, B2, N2, L2, hn, k⟩ := h
    refine ⟨_, (pss_cons (ps_setLc (i := 2) (own := [("line", 3)]) rfl sc_law_bent.nd rfl rfl (sw_true rfl rfl rfl (by decide +kernel)) (pi_list (pe_split (pv 1) pe_str)) (blkOk_by (own := [("line", 3)]) (N := ["pen", "text", "lines", "line", "kind", "at", "spot", "other", "words"]) (sc := defScope s_law_bent) (by decide +kernel)) (fun _ _ _ _ _ => (pg_name (i := 3) sc_law_bent.nd rfl (by first | exact Or.inl rfl | exact Or.inr rfl))) (fun _ _ _ _ _ => pts_nil) (fun _ _ _ _ _ => (pe_split (pv 3) pe_str)))
      (pss_cons (ps_par (i := 4) (j := 5) (by rfl) sc_law_bent.nd rfl rfl (by decide) rfl rfl (pa_cons (pe_call (G_law_draw) (hr.mono (by omega)) (by rfl) T.D_law_draw.mg T.D_law_draw.fn.kp T.D_law_draw.bd .nil pass0 (pa_cons (pv 0) (pa_cons pe_int pa_nil))) (pa_cons (pe_call (G_law_draw) (hr.mono (by omega)) (by rfl) T.D_law_draw.mg T.D_law_draw.fn.kp T.D_law_draw.bd .nil pass0 (pa_cons (pv 0) (pa_cons (pe_callB call_len (by rfl) T.b_len bt_len (pa_cons (pv 2) pa_nil)) pa_nil))) pa_nil)) (by rfl))
      (pss_cons (ps_set (i := 6) sc_law_bent.nd rfl (by first | exact Or.inl rfl | exact Or.inr rfl) (pe_call (G_law_draw) (hr.mono (by omega)) (by rfl) T.D_law_draw.mg T.D_law_draw.fn.kp T.D_law_draw.bd .nil pass0 (pa_cons (pv 0) (pa_cons (pe_callB call_len (by rfl) T.b_len bt_len (pa_cons (pe_ix (r := rIx K) ix_seq (pv 2) (pv 5) (fun _ _ => rfl)) pa_nil)) pa_nil))))
      (pss_cons (ps_set (i := 7) sc_law_bent.nd rfl (by first | exact Or.inl rfl | exact Or.inr rfl) (pe_call (G_law_pick) (hr.mono (by omega)) (by rfl) T.D_law_pick.mg T.D_law_pick.fn.kp T.D_law_pick.bd .nil pass0 (pa_cons (pv 0) (pa_cons (pe_call (G_law_pick) (hr.mono (by omega)) (by rfl) T.D_law_pick.mg T.D_law_pick.fn.kp T.D_law_pick.bd .nil pass0 (pa_cons (pv 0) (pa_cons (pv 2) pa_nil))) pa_nil))))
      (C8.pss_cut (ps_if (pt_cmpR op_eq (pv 4) pe_int (nomark _)) (pss_one (ps_expr (pe_bm PySem.F.plainAttrs_list PySem.F.slot_list_pop PySem.F.type_list_pop mt_popAt (pe_ix (r := rIx K) ix_seq (pv 2) (pv 5) (fun _ _ => rfl)) (pa_cons (pv 6) pa_nil)))) (pss_one (ps_if (pt_cmpR op_eq (pv 4) pe_int (nomark _)) (pss_one (ps_expr (pe_bm PySem.F.plainAttrs_list PySem.F.slot_list_insert PySem.F.type_list_insert mt_insert (pe_ix (r := rIx K) ix_seq (pv 2) (pv 5) (fun _ _ => rfl)) (pa_cons (pv 6) (pa_cons (pv 7) pa_nil))))) (pss_one (ps_if (pt_cmpR op_eq (pv 4) pe_int (nomark _)) (pss_one (ps_asg (pv 7) (pg_sub (pe_ix (r := rIx K) ix_seq (pv 2) (pv 5) (fun _ _ => rfl)) (pv 6) set_list))) (pss_one (ps_if (pt_cmpR op_eq (pv 4) pe_int (nomark _)) (pss_one (ps_asg (pe_call (G_law_pick) (hr.mono (by omega)) (by rfl) T.D_law_pick.mg T.D_law_pick.fn.kp T.D_law_pick.bd .nil pass0 (pa_cons (pv 0) (pa_cons (pe_lst (pa_cons pe_str (pa_cons pe_str (pa_cons pe_str (pa_cons pe_str (pa_cons pe_str (pa_cons pe_str (pa_cons (pe_op op_add_str (pe_ix (r := rIx K) ix_seq (pe_ix (r := rIx K) ix_seq (pv 2) (pv 5) (fun _ _ => rfl)) (pv 6) (fun _ _ => rfl)) pe_str) pa_nil)))))))) pa_nil))) (pg_sub (pe_ix (r := rIx K) ix_seq (pv 2) (pv 5) (fun _ _ => rfl)) (pv 6) set_list))) (pss_one (ps_if (pt_cmpR op_eq (pv 4) pe_int (nomark _)) (pss_one (ps_expr (pe_bm PySem.F.plainAttrs_list PySem.F.slot_list_pop PySem.F.type_list_pop mt_popAt (pv 2) (pa_cons (pv 5) pa_nil)))) (pss_one (ps_if (pt_cmpR op_eq (pv 4) pe_int (nomark _)) (pss_one (ps_expr (pe_bm PySem.F.plainAttrs_list PySem.F.slot_list_insert PySem.F.type_list_insert mt_insert (pv 2) (pa_cons (pv 5) (pa_cons (pe_callTy call_list_of (by rfl) T.b_list bt_list (pa_cons (pe_call (G_law_pick) (hr.mono (by omega)) (by rfl) T.D_law_pick.mg T.D_law_pick.fn.kp T.D_law_pick.bd .nil pass0 (pa_cons (pv 0) (pa_cons (pv 2) pa_nil))) pa_nil)) pa_nil))))) (pss_one (ps_if (pt_cmpR op_eq (pv 4) pe_int (nomark _)) (pss_one (ps_expr (pe_bm PySem.F.plainAttrs_list PySem.F.slot_list_insert PySem.F.type_list_insert mt_insert (pv 2) (pa_cons (pe_call (G_law_draw) (hr.mono (by omega)) (by rfl) T.D_law_draw.mg T.D_law_draw.fn.kp T.D_law_draw.bd .nil pass0 (pa_cons (pv 0) (pa_cons (pe_op op_add (pe_callB call_len (by rfl) T.b_len bt_len (pa_cons (pv 2) pa_nil)) pe_int) pa_nil))) (pa_cons (pe_bm PySem.F.plainAttrs_list PySem.F.slot_list_pop PySem.F.type_list_pop mt_popAt (pv 2) (pa_cons (pv 5) pa_nil)) pa_nil))))) (pss_one (ps_if (pt_cmpR op_eq (pv 4) pe_int (nomark _)) (pss_one (ps_expr (pe_bm PySem.F.plainAttrs_list PySem.F.slot_list_append PySem.F.type_list_append mt_append (pe_ix (r := rIx K) ix_seq (pv 2) (pv 5) (fun _ _ => rfl)) (pa_cons (pe_call (G_law_pick) (hr.mono (by omega)) (by rfl) T.D_law_pick.mg T.D_law_pick.fn.kp T.D_law_pick.bd .nil pass0 (pa_cons (pv 0) (pa_cons (pe_lst (pa_cons pe_str (pa_cons pe_str (pa_cons (pv 7) pa_nil)))) pa_nil))) pa_nil)))) (pss_one (ps_expr (pe_bm PySem.F.plainAttrs_list PySem.F.slot_list_append PySem.F.type_list_append mt_append (pv 2) (pa_cons (pe_call (G_law_pick) (hr.mono (by omega)) (by rfl) T.D_law_pick.mg T.D_law_pick.fn.kp T.D_law_pick.bd .nil pass0 (pa_cons (pv 0) (pa_cons (pe_lst (pa_cons (pe_lst (pa_cons pe_str pa_nil)) (pa_cons (pe_lst (pa_cons pe_str (pa_cons pe_str (pa_cons pe_str pa_nil)))) (pa_cons (pe_callTy call_list_of (by rfl) T.b_list bt_list (pa_cons (pe_ix (r := rIx K) ix_seq (pv 2) (pe_un un_neg pe_int) (fun _ _ => rfl)) pa_nil)) pa_nil)))) pa_nil))) pa_nil)))))))))))))))))))
      (pss_one (ps_ret (pe_join pe_str (pe_lc (own := [("words", 8)]) rfl sc_law_bent.nd (pi_list (pv 2)) (blkOk_by (own := [("words", 8)]) (N := ["pen", "text", "lines", "line", "kind", "at", "spot", "other", "words"]) (sc := defScope s_law_bent) (by decide +kernel)) (fun _ _ _ _ _ => (pg_name (i := 8) sc_law_bent.nd rfl (by first | exact Or.inl rfl | exact Or.inr rfl))) (fun _ _ _ _ _ => pts_nil) (fun _ _ _ _ _ => (pe_joinK (K := K) rfl pe_str (pv 8)))))))))))), ?_⟩
    have tl : t.length ≤ 90000 := by
      have := len_cost (t := t)
      have := bk.cost
      omega
    refine run_asg (run_lines (K := K) (i := 1) (j := 3) rfl tl (fun x H => ⟨_, fun Q q => q, rfl, rfl⟩) fun la as H1 s1 ln hla has nd nla => ?_)
    dsimp only [gName]
    have P1 := P0.same s1
    have W1 : 1 ≤ (wrdsOf t).length := by
      obtain ⟨x0, xr, ls, e⟩ := wrds_cons t
      rw [e]; exact Nat.succ_le_succ (Nat.zero_le _)
    have Wn := bk.few
    have Lne : ∀ l ∈ wrdsOf t, 1 ≤ l.length := fun l hl => by
      obtain ⟨x, _, rfl⟩ := List.mem_map.mp hl
      exact List.length_pos_iff.mpr (sp_ne x)
    have Lle : ∀ l ∈ wrdsOf t, l.length ≤ 40000 := fun l hl => by
      have h1 := len_cst l
      have h2 := sum_mem cst hl
      have h3 := bk.cost
      unfold costW at h3
      omega
    have ya : ∀ a ∈ as, a ≠ p ∧ a ≠ c := fun a ha => ⟨P0.ne_p (has a ha), P0.ne_c (has a ha)⟩
    have yl : la ≠ p ∧ la ≠ c := ⟨P0.ne_p hla, P0.ne_c hla⟩
    generalize hW : wrdsOf t = W at ln bk W1 Wn Lne Lle
    have asl : as.length = W.length := ln.len
    refine ⟨_, rfl, p, c, 9, _, rfl, P1, by decide, by decide, by omega, fun kd H2 k0 k9 b2 P2 => ?_⟩
    have ln2 := ln.but P1 b2
    refine ⟨_, rfl, _, rfl, _, _, rfl, .inl ⟨_, SqL.of ln2.lst, rfl⟩, p, c, _, _, rfl, P2, by rw [List.length_map]; omega, by rw [List.length_map]; omega, by omega, fun ad H3 a0 a1 b3 P3 => ⟨_, _, rfl, ?_⟩⟩
    rw [List.length_map, asl] at a1
    obtain ⟨A, rfl, hA⟩ := pos_nat a0 a1
    obtain ⟨l, hl⟩ : ∃ l, W[A]? = some l := ⟨_, List.getElem?_eq_getElem hA⟩
    obtain ⟨a, ha⟩ : ∃ a, as[A]? = some a := ⟨_, List.getElem?_eq_getElem (by omega)⟩
    have ml := List.mem_of_getElem? hl
    have ma := List.mem_of_getElem? ha
    have ln3 := ln2.but P2 b3
    refine ⟨_, rfl, (ed_lenline (K := K) (F := nn H3) (i := 2) (j := A) rfl ln3 (ed_var (i := 5) rfl (.int _)) hl) H3 (Same.refl _) _ fun v H4 s4 hv => ?_⟩
    cases hv
    have l1 := Lne l ml
    have l2 := Lle l ml
    have P4 := P3.same s4
    refine ⟨p, c, _, _, rfl, P4, by omega, by omega, by omega, fun sd H5 d0 d1 b5 P5 => ?_⟩
    obtain ⟨S, rfl, hS⟩ := pos_nat d0 d1
    dsimp only [gName]
    have ln5 := (ln3.same s4).but P4 b5
    refine ⟨_, rfl, _, rfl, _, rfl, p, c, la, _, _, rfl, P5, .inl (SqL.of ln5.lst), by rw [List.length_map]; omega, by rw [List.length_map]; omega, by omega, fun i0 v0 H6 hv0 b6 P6 => ?_⟩
    rw [List.getElem?_map] at hv0
    obtain ⟨a', ha'⟩ : ∃ a', as[i0]? = some a' := by
      cases e : as[i0]? with
      | none => rw [e] at hv0; cases hv0
      | some a' => exact ⟨a', rfl⟩
    rw [ha'] at hv0
    cases hv0
    have hi0 := (List.getElem?_eq_some_iff.mp ha').1
    obtain ⟨l', hl'⟩ : ∃ l', W[i0]? = some l' := ⟨_, List.getElem?_eq_getElem (by omega)⟩
    have ml' := List.mem_of_getElem? hl'
    have ln6 := ln5.but P5 b6
    have e6 := ln6.at_ _ _ _ ha' hl'
    have l3 := Lne l' ml'
    have l4 := Lle l' ml'
    refine ⟨p, c, a', _, _, rfl, P6, .inl (SqL.of e6), by rw [List.length_map]; omega, by rw [List.length_map]; omega, by omega, fun j0 y0 H7 hy0 b7 P7 => ?_⟩
    obtain ⟨y, hy, rfl⟩ := str_at hy0
    have wy := bk.word l' ml' y (List.mem_of_getElem? hy)
    dsimp only [gName]
    have ln7 := ln6.but P6 b7
    have bb : But p H H7 := (But.of s1).trans (b2.trans (b3.trans ((But.of s4).trans (b5.trans (b6.trans b7)))))
    have P7 : Pen p c (n + 5) H7 := P7.more (by omega)
    have lo := bk.word l ml
    have cl : cst l ≤ L := Nat.le_trans (sum_mem cst ml) bk.cost
    clear ln ln2 ln3 ln5 ln6 s1 s4 b2 b3 b5 b6 b7 P1 P2 P3 P4 P5 P6 e6 k0 k9 a0 a1 d0 d1 hy0 hr
    have fin1 : ∀ (ws' : List Str) (H8 : Hp), But p H7 H8 → Pen p c (n + 9) H8 → LOk (B + 1) ws' → cst ws' ≤ cst l + B + 2 → ∃ (as' : List Addr) (W' : List (List Str)), LnAt la as' W' (upd H8 a (.lst (ws'.map V.str))) ∧ BOk (N + 1) (B + 1) (2 * L + 2 * B + 60) W' ∧ But p H (upd H8 a (.lst (ws'.map V.str))) ∧ Pen p c (n + 10) (upd H8 a (.lst (ws'.map V.str))) := fun ws' H8 b8 P8 lo' co' => by
      refine ⟨as, W.set A ws', (ln7.but P7 b8).setL nd nla ha, ⟨by rw [List.length_set]; omega, fun m hm => ?_, ?_⟩, fun b o nb e => ?_, (P8.upd (ya a ma).1 (ya a ma).2).more (by omega)⟩
      · rcases List.mem_or_eq_of_mem_set hm with hm | rfl
        · exact (bk.word m hm).more (by omega)
        · exact lo'
      · have := sum_set cst ws' W A
        have := bk.cost
        unfold costW at this ⊢
        omega
      · rw [upd_ne (ne_of_none e (has a ma))]
        exact b8 _ _ nb (bb _ _ nb e)
    have fin2 : ∀ (as2 : List Addr) (W2 : List (List Str)) (H8 : Hp), But p H7 H8 → Pen p c (n + 9) H8 → Prs (fun a ws => a ≠ la ∧ H8 a = some (.lst (ws.map V.str))) as2 W2 → W2.length ≤ N + 1 → (∀ m ∈ W2, LOk (B + 1) m) → costW W2 ≤ 2 * L + 2 * B + 60 → ∃ (as' : List Addr) (W' : List (List Str)), LnAt la as' W' (upd H8 la (.lst (as2.map V.ref))) ∧ BOk (N + 1) (B + 1) (2 * L + 2 * B + 60) W' ∧ But p H (upd H8 la (.lst (as2.map V.ref))) ∧ Pen p c (n + 10) (upd H8 la (.lst (as2.map V.ref))) := fun as' W' H8 b8 P8 e1 e3 e4 e5 => by
      refine ⟨as', W', LnAt.chg e1.1 e1.2, ⟨e3, e4, e5⟩, fun b o nb e => ?_, (P8.upd yl.1 yl.2).more (by omega)⟩
      rw [upd_ne (ne_of_none e hla)]
      exact b8 _ _ nb (bb _ _ nb e)
    have prs : ∀ G : Hp, LnAt la as W G → Prs (fun a ws => a ≠ la ∧ G a = some (.lst (ws.map V.str))) as W := fun G g => ⟨g.len, fun i a ws h1 h2 => ⟨fun e => nla (by rw [← e]; exact List.mem_of_getElem? h1), g.at_ i a ws h1 h2⟩⟩
    have aE : ∀ {F : Addr → Prop} {G : Hp}, ED K (tVar 5) [some (.ref p), some (.str t), some (.ref la), none, some (.int kd), some (.int ((A : Nat) : Int)), some (.int ((S : Nat) : Int)), some (.str y), none] F G (.int ((A : Nat) : Int)) := fun {F G} => ed_var (i := 5) rfl (.int _)
    refine ⟨fun σ' H' => ∃ (as' : List Addr) (W' : List (List Str)), σ' = [some (.ref p), some (.str t), some (.ref la), none, some (.int kd), some (.int ((A : Nat) : Int)), some (.int ((S : Nat) : Int)), some (.str y), none] ∧ LnAt la as' W' H' ∧ BOk (N + 1) (B + 1) (2 * L + 2 * B + 60) W' ∧ But p H H' ∧ Pen p c (n + 10) H', ?_, ?_⟩
    · have szL : l.length < 100000 := by omega
      obtain ⟨x, hx⟩ : ∃ x, l[S]? = some x := ⟨_, List.getElem?_eq_getElem hS⟩
      have wx := lo x (List.mem_of_getElem? hx)
      have lm : (l.map V.str).length = l.length := List.length_map ..
      -- 0: lines[at].pop(spot)
      refine ⟨_, rfl, rfl, _, rfl, ite2 (fun _ => ?_) fun _ => ?_⟩
      · refine run_dropBM (run_lineA (K := K) (i := 2) (j := A) rfl ln7 (fun _ _ => aE) ha hl fun H8 s8 e8 => ⟨.inl ⟨rfl, _, SqL.of e8⟩, _, rfl, a, _, _, S, .str x, rfl, rfl, e8, by omega, by omega, by rw [lm]; exact seq_at (by omega) (by omega), by rw [List.getElem?_map, hx]; rfl, ?_⟩)
        rw [map_erase]
        obtain ⟨as', W', h⟩ := fin1 (l.eraseIdx S) H8 (But.of s8) ((P7.same s8).more (by omega)) (fun w hw => (lo w (List.mem_of_mem_eraseIdx hw)).more (by omega)) (by have := cst_erase (l := l) (j := S); omega)
        exact ⟨as', W', rfl, h⟩
      -- 1: lines[at].insert(spot, other)
      refine ⟨_, rfl, rfl, _, rfl, ite2 (fun _ => ?_) fun _ => ?_⟩
      · refine run_dropBM (run_lineA (K := K) (i := 2) (j := A) rfl ln7 (fun _ _ => aE) ha hl fun H8 s8 e8 => ⟨.inl ⟨rfl, _, SqL.of e8⟩, _, rfl, _, rfl, a, _, _, _, rfl, rfl, e8, lt5 (by rw [lm]; omega), by omega, by omega, ?_⟩)
        rw [show (((S : Nat) : Int)).toNat = S from rfl, map_ins]
        obtain ⟨as', W', h⟩ := fin1 _ H8 (But.of s8) ((P7.same s8).more (by omega)) (lok_ins (j := S) (lo.more (by omega)) (wy.more (by omega))) (by have := cst_ins (l := l) (x := y) (j := S); have := wy.1; omega)
        exact ⟨as', W', rfl, h⟩
      -- 2: lines[at][spot] = other
      refine ⟨_, rfl, rfl, _, rfl, ite2 (fun _ => ?_) fun _ => ?_⟩
      · refine ⟨_, rfl, run_gsub (run_lineA (K := K) (i := 2) (j := A) rfl ln7 (fun _ _ => aE) ha hl fun H8 s8 e8 => ⟨_, rfl, a, _, _, S, rfl, rfl, e8, ixN_nat (by rw [lm]; exact hS), ?_⟩)⟩
        rw [← List.map_set]
        obtain ⟨as', W', h⟩ := fin1 _ H8 (But.of s8) ((P7.same s8).more (by omega)) (lok_set (j := S) (lo.more (by omega)) (wy.more (by omega))) (by have := cst_set (l := l) (x := y) (j := S); have := wy.1; omega)
        exact ⟨as', W', rfl, h⟩
      -- 3: lines[at][spot] = one of some words
      refine ⟨_, rfl, rfl, _, rfl, ite2 (fun _ => ?_) fun _ => ?_⟩
      · have xz : x.length + (("z" : Str)).length ≤ 100000 := by
          have := wx.1
          have z : (("z" : Str)).length = 1 := by decide +kernel
          rw [z]; omega
        refine ⟨_, rfl, run_lstA (K := K) (F := nn H7) (ds := (opts3 x).map .str) (ea_cons ed_str (ea_cons ed_str (ea_cons ed_str (ea_cons ed_str (ea_cons ed_str (ea_cons ed_str (ea_cons (ed_catS (ed_wordE (i := 2) (j := A) rfl ln7 (fun _ _ => aE) hl (fun _ _ => ed_var (i := 6) rfl (.int _)) hx) ed_str xz) ea_nil))))))) (by show 7 ≤ 1000; decide) fun q vs H8 s8 hvs eq => ?_⟩
        have evs : vs = (opts3 x).map V.str := strs_dps hvs
        subst evs
        have P8 := P7.same s8
        refine ⟨p, c, q, _, _, rfl, P8, .inl (SqL.of eq), by rw [List.length_map]; show 0 < 7; decide, by rw [List.length_map]; show 7 < 100000; decide, by omega, fun i9 v9 H9 hv9 b9 P9 => ?_⟩
        obtain ⟨z, hz, rfl⟩ := str_at hv9
        have wz := opts3_ok B1 wx z (List.mem_of_getElem? hz)
        refine run_gsub (run_lineA (K := K) (i := 2) (j := A) rfl ((ln7.same s8).but P8 b9) (fun _ _ => aE) ha hl fun H10 s10 e10 => ⟨_, rfl, a, _, _, S, rfl, rfl, e10, ixN_nat (by rw [lm]; exact hS), ?_⟩)
        rw [← List.map_set]
        obtain ⟨as', W', h⟩ := fin1 _ H10 ((But.of s8).trans (b9.trans (But.of s10))) ((P9.same s10).more (by omega)) (lok_set (j := S) (lo.more (by omega)) wz) (by have := cst_set (l := l) (x := z) (j := S); have := wz.1; omega)
        exact ⟨as', W', rfl, h⟩
      -- 4: lines.pop(at)
      refine ⟨_, rfl, rfl, _, rfl, ite2 (fun _ => ?_) fun _ => ?_⟩
      · refine run_dropBM ⟨_, rfl, .inl ⟨rfl, _, SqL.of ln7.lst⟩, _, rfl, la, _, _, A, .ref a, rfl, rfl, ln7.lst, by omega, by omega, by rw [List.length_map]; exact seq_at (by omega) (by omega), by rw [List.getElem?_map, ha]; rfl, ?_⟩
        rw [map_erase]
        obtain ⟨as', W', h⟩ := fin2 (as.eraseIdx A) (W.eraseIdx A) H7 (But.refl _ _) (P7.more (by omega)) (prs_erase A (prs H7 ln7)) (by have := List.length_eraseIdx_le W A; omega) (fun m hm => (bk.word m (List.mem_of_mem_eraseIdx hm)).more (by omega)) (by have := sum_erase cst W A; have := bk.cost; unfold costW at this ⊢; omega)
        exact ⟨as', W', rfl, h⟩
      -- 5: lines.insert(at, list(one of the lines))
      refine ⟨_, rfl, rfl, _, rfl, ite2 (fun _ => ?_) fun _ => ?_⟩
      · refine run_dropBM ⟨_, rfl, .inl ⟨rfl, _, SqL.of ln7.lst⟩, _, rfl, _, rfl, _, rfl, p, c, la, _, _, rfl, P7, .inl (SqL.of ln7.lst), by rw [List.length_map]; omega, by rw [List.length_map]; omega, by omega, fun i8 v8 H8 hv8 b8 P8 => ?_⟩
        rw [List.getElem?_map] at hv8
        obtain ⟨a8, ha8⟩ : ∃ a8, as[i8]? = some a8 := by
          cases e : as[i8]? with
          | none => rw [e] at hv8; cases hv8
          | some a' => exact ⟨a', rfl⟩
        rw [ha8] at hv8
        cases hv8
        obtain ⟨l8, hl8⟩ : ∃ l8, W[i8]? = some l8 := ⟨_, List.getElem?_eq_getElem (by have := (List.getElem?_eq_some_iff.mp ha8).1; omega)⟩
        have ml8 := List.mem_of_getElem? hl8
        have ln8 := ln7.but P7 b8
        refine ⟨a8, _, rfl, .inl (SqL.of (ln8.at_ _ _ _ ha8 hl8)), fun q hq => ?_⟩
        have s9 := Same.newA (o := .lst (l8.map V.str)) hq
        have ln9 := ln8.same s9
        have nq : q ≠ la := fun e => by rw [e, ln8.lst] at hq; cases hq
        refine ⟨la, _, _, _, rfl, rfl, ln9.lst, lt5 (by rw [List.length_map]; omega), by omega, by omega, ?_⟩
        rw [show (((A : Nat) : Int)).toNat = A from rfl, map_ins]
        obtain ⟨as', W', h⟩ := fin2 _ _ _ (b8.trans (But.of s9)) ((P8.same s9).more (by omega)) (prs_ins A ⟨nq, upd_same⟩ (prs _ ln9)) (by rw [List.length_append, List.length_append, List.length_take, List.length_drop]; show min A W.length + 1 + _ ≤ _; omega) (fun m hm => by
          rcases List.mem_append.mp hm with hm | hm
          · rcases List.mem_append.mp hm with hm | hm
            · exact (bk.word m (List.mem_of_mem_take hm)).more (by omega)
            · rw [List.mem_singleton.mp hm]; exact (bk.word l8 ml8).more (by omega)
          · exact (bk.word m (List.mem_of_mem_drop hm)).more (by omega)) (by
            have e := sum_ins cst l8 W A
            have e2 := sum_mem cst ml8
            have := bk.cost
            unfold costW at this ⊢
            rw [e]; omega)
        exact ⟨as', W', rfl, h⟩
      -- 6: lines.insert(somewhere, lines.pop(at))
      refine ⟨_, rfl, rfl, _, rfl, ite2 (fun _ => ?_) fun _ => ?_⟩
      · refine run_dropBM ⟨_, rfl, .inl ⟨rfl, _, SqL.of ln7.lst⟩, _, rfl, _, rfl, _, _, rfl, .inl ⟨_, SqL.of ln7.lst, rfl⟩, _, _, rfl, rfl, p, c, _, _, rfl, P7, by rw [List.length_map]; omega, by rw [List.length_map]; omega, by omega, fun d8 H8 d0 d1 b8 P8 => ?_⟩
        rw [List.length_map, asl] at d1
        have ln8 := ln7.but P7 b8
        refine ⟨_, rfl, .inl ⟨rfl, _, SqL.of ln8.lst⟩, _, rfl, la, _, _, A, .ref a, rfl, rfl, ln8.lst, by omega, by omega, by rw [List.length_map]; exact seq_at (by omega) (by omega), by rw [List.getElem?_map, ha]; rfl, ?_⟩
        rw [map_erase]
        have el : (as.eraseIdx A).length ≤ as.length := List.length_eraseIdx_le as A
        refine ⟨la, _, _, _, rfl, rfl, upd_same, lt5 (by rw [List.length_map]; omega), d0, by omega, ?_⟩
        rw [upd_twice, map_ins]
        obtain ⟨as', W', h⟩ := fin2 _ _ H8 b8 (P8.more (by omega)) (prs_ins d8.toNat (prs H8 ln8 |>.2 A a l ha hl) (prs_erase A (prs H8 ln8))) (by
            have := List.length_eraseIdx_of_lt hA
            rw [List.length_append, List.length_append, List.length_take, List.length_drop]; show min _ _ + 1 + _ ≤ _; omega) (fun m hm => by
          rcases List.mem_append.mp hm with hm | hm
          · rcases List.mem_append.mp hm with hm | hm
            · exact (bk.word m (List.mem_of_mem_eraseIdx (List.mem_of_mem_take hm))).more (by omega)
            · rw [List.mem_singleton.mp hm]; exact lo.more (by omega)
          · exact (bk.word m (List.mem_of_mem_eraseIdx (List.mem_of_mem_drop hm))).more (by omega)) (by
            have e := sum_ins cst l (W.eraseIdx A) d8.toNat
            have e2 := sum_erase cst W A
            have := bk.cost
            unfold costW at this ⊢
            rw [e]; omega)
        exact ⟨as', W', rfl, h⟩
      -- 7: lines[at].append(one of three)
      refine ⟨_, rfl, rfl, _, rfl, ite2 (fun _ => ?_) fun _ => ?_⟩
      · refine run_dropBM (run_lineA (K := K) (i := 2) (j := A) rfl ln7 (fun _ _ => aE) ha hl fun H8 s8 e8 => ⟨.inl ⟨rfl, _, SqL.of e8⟩, _, rfl, run_lstA (K := K) (F := nn H8) (ds := ([("" : Str), "x", y]).map .str) (ea_cons ed_str (ea_cons ed_str (ea_cons (ed_var (i := 7) rfl (.str y)) ea_nil))) (by show 3 ≤ 1000; decide) fun q vs H9 s9 hvs eq => ?_⟩)
        have evs : vs = ([("" : Str), "x", y]).map V.str := strs_dps hvs
        subst evs
        have P9 := P7.same (s8.trans s9)
        refine ⟨p, c, q, _, _, rfl, P9, .inl (SqL.of eq), by show 0 < 3; decide, by show 3 < 100000; decide, by omega, fun i9 v9 H10 hv9 b10 P10 => ?_⟩
        obtain ⟨z, hz, rfl⟩ := str_at hv9
        have wz : WdOk B z := by
          have hz := List.mem_of_getElem? hz
          simp only [List.mem_cons, List.not_mem_nil, or_false] at hz
          rcases hz with rfl | rfl | rfl
          · exact wd_lit (by decide +kernel) B1
          · exact wd_lit (by decide +kernel) B1
          · exact wy
        have e10 := ((ln7.same (s8.trans s9)).but P9 b10).at_ _ _ _ ha hl
        refine ⟨a, _, _, rfl, rfl, e10, lt5 (by rw [lm]; omega), ?_⟩
        rw [show l.map V.str ++ [V.str z] = (l ++ [z]).map V.str by rw [List.map_append]; rfl]
        obtain ⟨as', W', h⟩ := fin1 _ H10 ((But.of (s8.trans s9)).trans b10) (P10.more (by omega)) (lok_app (lo.more (by omega)) (wz.more (by omega))) (by have := cst_app (l := l) (x := z); have := wz.1; omega)
        exact ⟨as', W', rfl, h⟩
      -- 8: lines.append(one of three)
      obtain ⟨lb, hlb⟩ : ∃ lb, W[W.length - 1]? = some lb := ⟨_, List.getElem?_eq_getElem (by omega)⟩
      obtain ⟨ab, hab⟩ : ∃ ab, as[W.length - 1]? = some ab := ⟨_, List.getElem?_eq_getElem (by omega)⟩
      have mlb := List.mem_of_getElem? hlb
      refine run_dropBM ⟨_, rfl, .inl ⟨rfl, _, SqL.of ln7.lst⟩, _, rfl, (by show 1 ≤ sizeLine; decide), fun q1 hq1 => ⟨(by show 3 ≤ sizeLine; decide), fun q2 hq2 => ?_⟩⟩
      have s1 := Same.newA (o := .lst [.str ("" : Str)]) hq1
      have e1 := upd_same (H := H7) (a := q1) (o := .lst [.str ("" : Str)])
      have s2 := Same.newA (o := .lst [.str ("zzzzzzzzzzzz" : Str), .str ("zzzzzzzzzzzz" : Str), .str ("zzzzzzzzzzzz" : Str)]) hq2
      have e2 := upd_same (H := upd H7 q1 (.lst [.str ("" : Str)])) (a := q2) (o := .lst [.str ("zzzzzzzzzzzz" : Str), .str ("zzzzzzzzzzzz" : Str), .str ("zzzzzzzzzzzz" : Str)])
      have n1 : q1 ≠ la := fun e => by rw [e, ln7.lst] at hq1; cases hq1
      have n2 : q2 ≠ la := fun e => by rw [e, s1 _ _ ln7.lst] at hq2; cases hq2
      have e1b := s2 _ _ e1
      have s12 := s1.trans s2
      clear hq1 hq2 e1
      revert e2 e1b s12
      generalize upd (upd H7 q1 (.lst [.str ("" : Str)])) q2 (.lst [.str ("zzzzzzzzzzzz" : Str), .str ("zzzzzzzzzzzz" : Str), .str ("zzzzzzzzzzzz" : Str)]) = G2
      intro e2 e1 s12
      have lnG := ln7.same s12
      refine ⟨_, rfl, 1, rfl, .inl ⟨la, _, -1, .ref ab, rfl, rfl, SqL.of lnG.lst, atI_neg (k := 1) (by decide) (by rw [List.length_map]; omega) (by rw [List.length_map, asl, List.getElem?_map, hab]; rfl), ab, _, rfl, .inl (SqL.of (lnG.at_ _ _ _ hab hlb)), fun q3 hq3 => ⟨(by show 3 ≤ sizeLine; decide), fun q4 hq4 => ?_⟩⟩⟩
      have s3 := Same.newA (o := .lst (lb.map V.str)) hq3
      have n3 : q3 ≠ la := fun e => by rw [e, lnG.lst] at hq3; cases hq3
      have e3 := upd_same (H := G2) (a := q3) (o := .lst (lb.map V.str))
      have s4 := Same.newA (o := .lst [.ref q1, .ref q2, .ref q3]) hq4
      have s14 := s12.trans (s3.trans s4)
      have s24 := s3.trans s4
      have P8 := P7.same s14
      refine ⟨p, c, q4, _, _, rfl, P8, .inl (SqL.of upd_same), by show 0 < 3; decide, by show 3 < 100000; decide, by omega, fun i9 v9 H9 hv9 b9 P9 => ?_⟩
      have ln9 := (ln7.same s14).but P8 b9
      have kp : ∀ (q : Addr) (o : List V), upd (upd G2 q3 (.lst (lb.map V.str))) q4 (.lst [.ref q1, .ref q2, .ref q3]) q = some (.lst o) → H9 q = some (.lst o) := fun q o e => b9 _ _ (P8.ne e fun _ z => nomatch z) e
      have main : ∀ (q : Addr) (ws : List Str), v9 = .ref q → q ≠ la → H9 q = some (.lst (ws.map V.str)) → LOk (B + 1) ws → cst ws ≤ L + 60 → ∃ la2 xs u, V.ref la = .ref la2 ∧ [v9] = [u] ∧ H9 la2 = some (.lst xs) ∧ xs.length < sizeLine ∧ ∃ (as' : List Addr) (W' : List (List Str)), [some (V.ref p), some (.str t), some (.ref la), none, some (.int kd), some (.int ((A : Nat) : Int)), some (.int ((S : Nat) : Int)), some (.str y), none] = [some (V.ref p), some (.str t), some (.ref la), none, some (.int kd), some (.int ((A : Nat) : Int)), some (.int ((S : Nat) : Int)), some (.str y), none] ∧ LnAt la as' W' (upd H9 la2 (.lst (xs ++ [u]))) ∧ BOk (N + 1) (B + 1) (2 * L + 2 * B + 60) W' ∧ But p H (upd H9 la2 (.lst (xs ++ [u]))) ∧ Pen p c (n + 10) (upd H9 la2 (.lst (xs ++ [u]))) := fun q ws ev nq eq lw cw => by
        subst ev
        refine ⟨la, _, _, rfl, rfl, ln9.lst, lt5 (by rw [List.length_map]; omega), ?_⟩
        rw [show as.map V.ref ++ [V.ref q] = (as ++ [q]).map V.ref by rw [List.map_append]; rfl]
        obtain ⟨as', W', h⟩ := fin2 (as ++ [q]) (W ++ [ws]) H9 ((But.of s14).trans b9) (P9.more (by omega)) (prs_app ⟨nq, eq⟩ (prs H9 ln9)) (by rw [List.length_append]; show W.length + 1 ≤ _; omega) (fun m hm => by
          rcases List.mem_append.mp hm with hm | hm
          · exact (bk.word m hm).more (by omega)
          · rw [List.mem_singleton.mp hm]; exact lw) (by
            have := bk.cost
            unfold costW at this ⊢
            rw [List.map_append, List.sum_append]
            simp only [List.map_cons, List.map_nil, List.sum_cons, List.sum_nil]
            omega)
        exact ⟨as', W', rfl, h⟩
      have c1 : cst [("" : Str)] = 1 := by decide +kernel
      match i9, hv9 with
      | 0, hv9 =>
        cases hv9
        exact main q1 [("" : Str)] rfl n1 (kp _ _ (s24 _ _ e1)) (fun x hx => by rw [List.mem_singleton.mp hx]; exact wd_nil _) (by rw [c1]; omega)
      | 1, hv9 =>
        cases hv9
        have z : wdC ("zzzzzzzzzzzz" : Str) = true := by decide +kernel
        exact main q2 [("zzzzzzzzzzzz" : Str), "zzzzzzzzzzzz", "zzzzzzzzzzzz"] rfl n2 (kp _ _ (s24 _ _ e2)) (fun x hx => by
          simp only [List.mem_cons, List.not_mem_nil, or_false] at hx
          rcases hx with rfl | rfl | rfl <;> exact wd_lit z (by omega)) (by
          have : cst [("zzzzzzzzzzzz" : Str), "zzzzzzzzzzzz", "zzzzzzzzzzzz"] = 39 := by decide +kernel
          omega)
      | 2, hv9 =>
        cases hv9
        exact main q3 lb rfl n3 (kp _ _ (s4 _ _ e3)) ((bk.word lb mlb).more (by omega)) (by
          have := sum_mem cst mlb
          have := bk.cost
          unfold costW at this
          omega)
    · rintro σ' H8 ⟨as', W', rfl, ln8, bk8, b8, P8⟩
      have dl : Df K (nn H8) H8 (.ref la) (.list (W'.map fun ws => .list (ws.map .str))) := dp_df ln8.dp
      have few := bk8.few
      refine s_ret (F := nn H8) (ed_joinEL (a := "\n") (xs := W'.map fun l => Txt.join " " l) (el_lc (f := fun _ => true) (m := fun d => match d with | .list ds => .str (Txt.join " " (ds.map fun d => match d with | .str x => x | _ => "")) | _ => .none) (ei_list (ed_var (i := 2) rfl dl)) (by rw [List.length_map]; omega) (fun F2 H2 e2 v2 d2 hm hd2 => ⟨_, fun Q q => q, rfl, et_yes, fun _ => ?_⟩) ?_) ?_) fun v H9 s9 hv => ?_
      · obtain ⟨m, hm', rfl⟩ := List.mem_map.mp hm
        have e : (m.map PyData.str).map (fun d => match d with | .str x => x | _ => "") = m := by rw [List.map_map]; exact List.map_id' m
        show ED K _ _ F2 H2 (.str (Txt.join " " ((m.map PyData.str).map fun d => match d with | .str x => x | _ => "")))
        rw [e]
        refine ed_join (ys := m) ed_str (ed_var (i := 8) rfl hd2) (.inl rfl) ?_
        have := sum_mem cst hm'
        have h2 := bk8.cost
        have h3 : (m.map (·.length)).sum + m.length ≤ cst m := by unfold cst; omega
        unfold costW at h2
        rw [l_sp]
        omega
      · rw [List.filter_eq_self.mpr fun _ _ => rfl, List.map_map, List.map_map]
        refine List.map_congr_left fun m _ => ?_
        show PyData.str (Txt.join " " ((m.map PyData.str).map fun d => match d with | .str x => x | _ => "")) = _
        have e : (m.map PyData.str).map (fun d => match d with | .str x => x | _ => "") = m := by rw [List.map_map]; exact List.map_id' m
        rw [e]; rfl
      · have s1 : ((W'.map fun l => Txt.join " " l).map (·.length)).sum ≤ costW W' := by
          rw [List.map_map]
          unfold costW
          have : ∀ V : List (List Str), (V.map ((fun x : Str => x.length) ∘ fun l => Txt.join " " l)).sum ≤ (V.map cst).sum := by
            intro V
            induction V with
            | nil => exact Nat.le_refl _
            | cons m V ih =>
              rw [List.map_cons, List.map_cons, List.sum_cons, List.sum_cons]
              have := len_join " " m
              rw [l_sp] at this
              have : (Txt.join " " m).length ≤ cst m := by unfold cst; omega
              show (Txt.join " " m).length + _ ≤ _
              omega
          exact this W'
        have h2 := bk8.cost
        rw [l_nl, List.length_map]
        omega
      · cases hv
        exact k _ H9 (bok_join bk8 (by omega) (by omega)) (b8.trans (But.of s9)) (P8.same s9)
end
end Ag

set_option Elab.async false
set_option linter.all false
set_option maxRecDepth 100000
set_option maxHeartbeats 8000000
set_option pp.maxSteps 400
namespace Ag
open PySem PySem.Spec PyProof.Rows L2 LamX
theorem pe_bmK {X : Cx} {K : PySem.W.Frag} {o e : Expr} {es : List Expr} {to : TE} {t : TA} {name : Str} {apos cpos : Pos} {T id : String} {r : V → List V → Hp → VK → Prop} (hK : X.K = K) (pa : PlainAttrs T) (slot : Slot T name id) (hty : typeOf (.builtin id) = pure (.type "method_descriptor")) (hm : MtR X id r) (ho : PE X o to) (ha : PA X (e :: es) t)
    (hbase : attributeBase o name X.env (eval o X.env) = eval o X.env := by rfl)
    (hfew : ((backTo cpos (starEach (e :: es) X.env)).all (fun x => !x.1) && (backToKw cpos (keywordEach [] X.env)).all (fun x => x.1.isSome)
      && decide ((e :: es).length + ([] : List Keyword).length + (if ([] : List Keyword).isEmpty then 0 else 1) < 30)) = true := by rfl)
    (hline : (apos.endLine == cpos.line) = true := by rfl) (hs : starEach (e :: es) X.env = (false, eval e X.env) :: starEach es X.env := by rfl) (hplain : (backTo cpos (starEach es X.env)).any (·.1) = false := by rfl) :
    PE X (.Call (.Attribute o name apos) (e :: es) [] cpos) (tBM K T r to t) := by
  subst hK
  exact pe_bm pa slot hty hm ho ha hbase hfew hline hs hplain
theorem xr_line : (("line" : Str) == ("word" : Str)) = false := by decide +kernel
theorem xd_word {l s : V} : ([("word", s), ("line", l)] : List (Str × V)).lookup ("word" : Str) = some s := rfl
theorem xd_line {l s : V} : ([("word", s), ("line", l)] : List (Str × V)).lookup ("line" : Str) = some l := by
  rw [List.lookup_cons, xr_line]; rfl
theorem exm_of {K : PySem.W.Frag} {C : Addr} {b : Bool} {cls : Value} (x : XfC K C) (o : OexC K C) (s : PySem.W.subIn K cls (.ref C) = some b) : PySem.W.exmOne K cls (.ref C) = some b := PySem.W.exm_ref x.exC x.hdC o.tyC s
theorem ed_lrows {K : PySem.W.Frag} {σ : L2.St} {H : Hp} {i m : Nat} {S : List Rw} (h : σ[i]? = some (some (.ref m))) (s : LsAt K m S H) : ED K (tDGet (tVar i) (tC (.str "rows"))) σ (nn H) H (.list (S.map rowD)) := fun H1 s1 Q q => by
  obtain ⟨rl, ad, pl, ys, kvs, ps, p⟩ := s
  refine ⟨_, h, m, _, rfl, ls_rows (s1 _ _ p.dict), q _ _ (Same.refl _) ?_⟩
  have d : Dp K H (.ref rl) (.list (S.map rowD)) := .lst (SqL.of p.rows) (by rw [← p.snd, List.map_map]; exact rows_dps p.good)
  exact df_mono s1 (fun a z => .inl z) (dp_df d)
theorem zz_name : nameB ZZ = true := by decide +kernel
theorem run_namesZ {K : PySem.W.Frag} {σ : L2.St} {H : Hp} {E1 E2 E3 : XK} {p c n : Nat} {Q : VK} (h1 : σ[1]? = some (some (.ref p))) (P : Pen p c n H) (hn : n + 300000 < 1000000000000)
    (k : ∀ (l : Addr) (ns : List Str) H', H' l = some (.lst (ns.map V.str)) → (∀ x ∈ ns, nameB x = true) → 1 ≤ ns.length → ns.length ≤ 4 → But p H H' → Pen p c (n + 500) H' → Q (.ref l) H') :
    tOp rCat (tCall (spNames K) [] E1 (tCons (tVar 1) (tCons (tOp (rI0 fun i j => .int (i + j)) (tC (.int 1)) (tCall spDraw [] E2 (tCons (tVar 1) (tCons (tC (.int 3)) tNil)))) tNil))) (tCall (spSome K) [] E3 (tCons (tVar 1) (tCons (tLst (tCons (tC (.str ("zzzzzzzzzzzz" : Str))) tNil)) (tCons (tC (.int 1)) tNil)))) σ H Q := by
  refine ⟨_, h1, _, h1, p, c, 3, _, rfl, P, by decide, by decide, by omega, fun d H2 d0 d3 b2 P2 => ?_⟩
  obtain ⟨M, hM, M1, M3⟩ : ∃ M : Nat, 1 + d = (M : Int) ∧ 1 ≤ M ∧ M ≤ 3 := ⟨(1 + d).toNat, by omega, by omega, by omega⟩
  refine ⟨_, _, rfl, rfl, p, c, M, _, by show [V.ref p, V.int (1 + d)] = _; rw [hM], P2, by omega, by omega, fun cl0 ns H3 hns fcl ecl b3 P3 => ?_⟩
  have nln := nms_len hns
  refine ⟨_, h1, (by show 1 ≤ sizeLine; decide), fun q hq => ?_⟩
  have s4 := Same.newA (o := .lst [.str ("zzzzzzzzzzzz" : Str)]) hq
  refine ⟨p, c, q, _, _, 1, rfl, P3.same s4, .inl (SqL.of upd_same), by show 1 < 1000; decide, by decide, by omega, fun l2 ys H5 hys hyl _ _ _ e2 b5 P5 => ?_⟩
  have ecl5 := b5 _ _ ((P3.same s4).ne (s4 _ _ ecl) fun _ e => nomatch e) (s4 _ _ ecl)
  obtain ⟨zs, rfl, hz⟩ : ∃ zs : List Str, ys = zs.map V.str ∧ ∀ z ∈ zs, z = ZZ := by
    match ys, hyl, hys with
    | [], _, _ => exact ⟨[], rfl, fun _ h => nomatch h⟩
    | [y], _, hys =>
      have := List.mem_singleton.mp (hys y List.mem_cons_self)
      exact ⟨[ZZ], by rw [this]; rfl, fun z hz => List.mem_singleton.mp hz⟩
    | _ :: _ :: _, h, _ => exact absurd h (by simp)
  rw [List.length_map] at hyl
  refine ⟨cl0, l2, _, _, rfl, rfl, ecl5, e2, small5 (by rw [List.length_map, List.length_map]; omega), fun l hl => ?_⟩
  have s6 := Same.newA (o := .lst (ns.map V.str ++ zs.map V.str)) hl
  refine k l (ns ++ zs) _ (by rw [upd_same, List.map_append]) (fun x hx => ?_) (by rw [List.length_append]; omega) (by rw [List.length_append]; omega) (b2.trans (b3.trans ((But.of s4).trans (b5.trans (But.of s6))))) ((P5.same s6).more (by show n + 1 + 400 + 1 + 1 ≤ n + 500; omega))
  rcases List.mem_append.mp hx with hx | hx
  · obtain ⟨j, hj, hm⟩ := nms_mem hns hx
    exact nm_name (by omega) hm
  · rw [hz x hx]; exact zz_name
theorem wrds_srv {S : List Rw} (g : ∀ r ∈ S, goodR r) : wrdsOf (srvT S) = wrdL S := by
  unfold wrdsOf
  rw [split_srv g]
  show Txt.split ("halls" : Str) " " :: (S.map rowT).map (fun x => Txt.split x " ") = _
  rw [split_halls, List.map_map]
  exact congrArg _ (List.map_congr_left fun r hr => split_row (g r hr))
theorem wrongP_srv {S : List Rw} (up : Up rkR S) (g : ∀ r ∈ S, goodR r) : wrongP (srvT S) = none := by
  unfold wrongP
  rw [wrds_srv g]
  show wrongL (("halls" :: []) :: S.map r3) = none
  rw [wrongL_cons, if_neg (fun z => z rfl), if_neg (by decide)]
  exact goP_rows up g fun r0 e => nomatch e
theorem name_wd {x : Str} (h : nameB x = true) : WdOk 12 x := by
  refine ⟨name_len h, fun c hc => ?_⟩
  have s := name_sign h c hc
  unfold nameB at h
  have key := List.all_eq_true.mp (Bool.and_eq_true_iff.mp h).2 c hc
  refine ⟨?_, s.2, s.1⟩
  rcases Bool.or_eq_true_iff.mp key with k | k
  · have := of_decide_eq_true k; omega
  · have := of_decide_eq_true k; omega
theorem srv_bok {S : List Rw} (g : ∀ r ∈ S, goodR r) (l : S.length ≤ 64) : BOk 70 12 2600 (wrdsOf (srvT S)) := by
  rw [wrds_srv g]
  refine ⟨by show (S.map r3).length + 1 ≤ 70; rw [List.length_map]; omega, fun l hl => ?_, ?_⟩
  · rcases List.mem_cons.mp hl with rfl | hl
    · exact fun x hx => by rw [List.mem_singleton.mp hx]; exact wd_lit (by decide +kernel) (by decide)
    · obtain ⟨r, hr, rfl⟩ := List.mem_map.mp hl
      intro x hx
      simp only [r3, List.mem_cons, List.not_mem_nil, or_false] at hx
      rcases hx with rfl | rfl | rfl
      · exact name_wd (g r hr).1
      · exact name_wd (g r hr).2.1
      · exact name_wd (g r hr).2.2
  · have h1 : ∀ r ∈ S, (cst ∘ r3) r ≤ 39 := fun r hr => by
      have h1 := name_len (g r hr).1
      have h2 := name_len (g r hr).2.1
      have h3 := name_len (g r hr).2.2
      show (r.1.length + (r.2.1.length + (r.2.2.length + 0))) + max 3 1 ≤ 39
      omega
    have h2 := sum_le (cst ∘ r3) 39 h1
    have e : costW (wrdL S) = cst [("halls" : Str)] + (S.map (cst ∘ r3)).sum := by
      unfold costW wrdL
      rw [List.map_cons, List.sum_cons, List.map_map]
    have c1 : cst [("halls" : Str)] = 6 := by decide +kernel
    rw [e, c1]; omega
theorem bok_chars {N B L : Nat} {t : Str} (h : BOk N B L (wrdsOf t)) : ∀ c ∈ t.cps.toList, c < 0x110000 := fun c hc => by
  have e := back_lines t
  rw [← e, TL.join_eq] at hc
  rcases join_sign hc with q | ⟨x, hx, q⟩
  · have z : (("\n" : Str)).cps.toList = [10] := by decide +kernel
    rw [z, List.mem_singleton] at q; omega
  · obtain ⟨l, hl, rfl⟩ := List.mem_map.mp hx
    rw [TL.join_eq] at q
    rcases join_sign q with q | ⟨x, hx, q⟩
    · have z : ((" " : Str)).cps.toList = [32] := by decide +kernel
      rw [z, List.mem_singleton] at q; omega
    · exact ((h.word l hl x hx).2 c q).1
theorem shp_str {t : Str} (h : ∀ c ∈ t.cps.toList, c < 0x110000) : SeqAt.shaped (.list [.str t]) = true := by
  have h : t.cps.all (· < 0x110000) = true := by
    rw [← Array.all_toList, List.all_eq_true]
    exact fun c hc => decide_eq_true (h c hc)
  simp [SeqAt.shaped, PyData.canLay0, PyData.canLayAll0, PyData.depth, PyData.depthAll]
  simpa [PyData.strOk] using h
theorem shp_two (x y : Int) : SeqAt.shaped (.list [.tuple [.int x, .int y]]) = true := by
  simp [SeqAt.shaped, PyData.canLay0, PyData.canLayAll0, PyData.depth, PyData.depthAll]
theorem eqv_l1 (t : Str) : PyData.eqv (.list [.str t]) (.list [.str t]) = true := by simp [PyData.eqv, PyData.eqvAll]
theorem eqv_l2 (x y : Int) : PyData.eqv (.list [.tuple [.int x, .int y]]) (.list [.tuple [.int x, .int y]]) = true := by simp [PyData.eqv, PyData.eqvAll]
def wpD : Option (Nat × Nat) → PyData
  | none => .none
  | some (l, k) => .tuple [.int (l : Nat), .int (k : Nat)]
theorem ed_lp {K : PySem.W.Frag} {σ : L2.St} {F : Addr → Prop} {H : Hp} {E : XK} {i : Nat} {t : Str} (h : σ[i]? = some (some (.str t))) (ok : TOk t) : ED K (tCall (spLP K) [] E (tCons (tVar i) tNil)) σ F H (wpD (wrongP t)) := fun H1 s1 Q q => by
  refine ⟨_, h, t, rfl, ok, fun l k y H' e s' hy => ?_, fun e H' s' => ?_⟩
  · rw [e] at q
    refine q y H' s' ?_
    have hy : Dp K H' y (.tuple [.int (l : Nat), .int (k : Nat)]) := hy
    cases hy with
    | tup h r =>
      cases r with
      | cons a r =>
        cases r with
        | cons b r => cases r; cases a; cases b; exact .tup h (.cons (.int _) (.cons (.int _) .nil))
  · rw [e] at q
    exact q _ H' s' .non
theorem ed_readtext {K : PySem.W.Frag} {C B : Addr} {σ : L2.St} {F : Addr → Prop} {H : Hp} {E E2 : XK} {i : Nat} {t : Str} (h : σ[i]? = some (some (.str t))) (ok : TOk t) (e : wrongP t = none) : ED K (tCall (spSText K C) [] E (tCons (tCall (spSRead K C B) [] E2 (tCons (tVar i) tNil)) tNil)) σ F H (.str t) := fun H1 s1 Q q => by
  refine ⟨_, h, t, rfl, ok, (fun l k H' z => by rw [e] at z; cases z), fun S b H' _ et s' sv => ⟨b, S, rfl, sv, fun H2 s2 => ?_⟩⟩
  have := q (.str (srvT S)) H2 (s'.trans s2)
  rw [← et] at this ⊢
  exact this (.str _)
def Lf : Nat → Nat
  | 0 => 2600
  | i + 1 => 2 * Lf i + 2 * (12 + i) + 60
theorem lf_le : ∀ {u : Nat}, u ≤ 3 → Lf u ≤ 40000
  | 0, _ => by decide +kernel
  | 1, _ => by decide +kernel
  | 2, _ => by decide +kernel
  | 3, _ => by decide +kernel
  | _ + 4, h => absurd h (by omega)
theorem rows_few {hs cs : List Str} {S : List Rw} (up : Up rkR S) (m : ∀ r ∈ S, r.1 ∈ hs ∧ r.2.1 ∈ cs ∧ r.2.2 ∈ hs) (h : hs.length ≤ 4) (h2 : cs.length ≤ 4) : S.length ≤ 64 := by
  have := nodup_len S (hs.flatMap fun a => cs.flatMap fun b => hs.map fun o => ((a, b, o) : Rw)) up.nodup fun r hr => by
    obtain ⟨m1, m2, m3⟩ := m r hr
    exact List.mem_flatMap.mpr ⟨r.1, m1, List.mem_flatMap.mpr ⟨r.2.1, m2, List.mem_map.mpr ⟨r.2.2, m3, rfl⟩⟩⟩
  have c : ∀ {α β : Type} (f : α → List β) (n : Nat) (xs : List α), (∀ x ∈ xs, (f x).length ≤ n) → (xs.flatMap f).length ≤ xs.length * n := by
    intro α β f n xs
    induction xs with
    | nil => intro _; simp
    | cons x xs ih =>
      intro hx
      rw [List.flatMap_cons, List.length_append, List.length_cons, Nat.add_mul, Nat.one_mul]
      have h1 := hx x List.mem_cons_self
      have h2 := ih fun y hy => hx y (List.mem_cons_of_mem _ hy)
      omega
  have c1 := c (fun a : Str => cs.flatMap fun b => hs.map fun o => ((a, b, o) : Rw)) 16 hs fun a _ => by
    have := c (fun b : Str => hs.map fun o => ((a, b, o) : Rw)) 4 cs fun b _ => by rw [List.length_map]; exact h
    omega
  omega
section
variable {P : Program} {w : World} {K : PySem.W.Frag} {mg : Str → Option Value} {base : Heap} (T : Txt w K mg)
theorem law_runs {a : Addr} {zs : List Int} {s : Shared} {H : Hp} (hs : SqL K H a (zs.map V.int)) (hl : zs.length ≤ 63) (e0 : Env0 P w K mg base callerA [] s H) :
    codeAny (model P w) callerA (.call (.ref T.a_law) ⟨[.ref a], []⟩) (CR CX0 [] P w H s (fun v _ => v = .bl true) fun _ _ _ => False) s := by
  have G_law_pen := ok_law_pen (P := P) (base := base) T
  have G_law_draw := ok_draw (P := P) (base := base) T
  have G_law_names := ok_names (P := P) (base := base) T
  have G_law_some := ok_some (P := P) (base := base) T
  have G_law_some_server := ok_some_server (P := P) (base := base) T
  have G_law_wrong_place := ok_wrong_place (P := P) (base := base) T
  have G_law_bent := ok_bent (P := P) (base := base) T
  have G_server_text := ok_stext (P := P) (base := base) T
  have G_server_read := ok_server_read (P := P) (base := base) T
  obtain ⟨oc, od, kV, doc, pm, an, cdv, ct, osl, efd, lk, hcd⟩ := T.D_law.fn.ex
  have BL := T.D_law.bd
  rw [efd] at BL lk
  have kIn : K.In s.heap := e0.mod.kin.keeps fun b o e => (e0.bs b o e).1
  have rm : Room 12 callerA := ⟨rfl, by decide +kernel, by decide +kernel⟩
  refine run_ofS (N := ["script", "pen", "lap", "places", "calls", "server", "text", "row", "turn", "bent", "spot", "due", "told", "error"]) (vs := [.ref a]) (us := [.ref a]) lk hcd sc_law rm e0 (BL s [.ref a] kIn rfl) (.cons rfl .nil) rfl fun hr => ?_
  refine ⟨_, (pss_cons (ps_set (i := 1) sc_law.nd rfl (by first | exact Or.inl rfl | exact Or.inr rfl) (pe_call (G_law_pen) (hr.mono (by omega)) (by rfl) T.D_law_pen.mg T.D_law_pen.fn.kp T.D_law_pen.bd .nil pass0 (pa_cons (pv 0) pa_nil)))
      (pss_cons (ps_for (passes_of rfl) rfl (pi_range1 (by rfl) T.b_range (pa_cons pe_int pa_nil)) (pg_name (i := 2) sc_law.nd rfl (by first | exact Or.inl rfl | exact Or.inr rfl)) (pss_cons (ps_set (i := 3) sc_law.nd rfl (by first | exact Or.inl rfl | exact Or.inr rfl) (pe_op op_cat (pe_call (G_law_names) (hr.mono (by omega)) (by rfl) T.D_law_names.mg T.D_law_names.fn.kp T.D_law_names.bd .nil pass0 (pa_cons (pv 1) (pa_cons (pe_op op_add pe_int (pe_call (G_law_draw) (hr.mono (by omega)) (by rfl) T.D_law_draw.mg T.D_law_draw.fn.kp T.D_law_draw.bd .nil pass0 (pa_cons (pv 1) (pa_cons pe_int pa_nil)))) pa_nil))) (pe_call (G_law_some) (hr.mono (by omega)) (by rfl) T.D_law_some.mg T.D_law_some.fn.kp T.D_law_some.bd .nil pass0 (pa_cons (pv 1) (pa_cons (pe_lst (pa_cons pe_str pa_nil)) (pa_cons pe_int pa_nil))))))
      (pss_cons (ps_set (i := 4) sc_law.nd rfl (by first | exact Or.inl rfl | exact Or.inr rfl) (pe_callB cr_sortedS (by rfl) T.b_sorted bt_sorted (pa_cons (pe_op op_cat (pe_call (G_law_names) (hr.mono (by omega)) (by rfl) T.D_law_names.mg T.D_law_names.fn.kp T.D_law_names.bd .nil pass0 (pa_cons (pv 1) (pa_cons (pe_op op_add pe_int (pe_call (G_law_draw) (hr.mono (by omega)) (by rfl) T.D_law_draw.mg T.D_law_draw.fn.kp T.D_law_draw.bd .nil pass0 (pa_cons (pv 1) (pa_cons pe_int pa_nil)))) pa_nil))) (pe_call (G_law_some) (hr.mono (by omega)) (by rfl) T.D_law_some.mg T.D_law_some.fn.kp T.D_law_some.bd .nil pass0 (pa_cons (pv 1) (pa_cons (pe_lst (pa_cons pe_str pa_nil)) (pa_cons pe_int pa_nil))))) pa_nil)))
      (pss_cons (ps_set (i := 5) sc_law.nd rfl (by first | exact Or.inl rfl | exact Or.inr rfl) (pe_call (G_law_some_server) (hr.mono (by omega)) (by rfl) T.D_law_some_server.mg T.D_law_some_server.fn.kp T.D_law_some_server.bd .nil pass0 (pa_cons (pv 1) (pa_cons (pv 4) (pa_cons (pv 3) (pa_cons pe_int pa_nil))))))
      (pss_cons (ps_set (i := 6) sc_law.nd rfl (by first | exact Or.inl rfl | exact Or.inr rfl) (pe_join pe_str (pe_op op_cat (pe_lst (pa_cons pe_str pa_nil)) (pe_lc (own := [("row", 7)]) rfl sc_law.nd (pi_list (pe_dget (hu_of hr) (pv 5) pe_str (fun _ _ => rfl))) (blkOk_by (own := [("row", 7)]) (N := ["script", "pen", "lap", "places", "calls", "server", "text", "row", "turn", "bent", "spot", "due", "told", "error"]) (sc := defScope s_law) (by decide +kernel)) (fun _ _ _ _ _ => (pg_name (i := 7) sc_law.nd rfl (by first | exact Or.inl rfl | exact Or.inr rfl))) (fun _ _ _ _ _ => pts_nil) (fun _ _ _ _ _ => (pe_joinK (K := K) rfl pe_str (pv 7)))))))
      (pss_cons (ps_if (PW.pt (pw_or (pt_cmpR op_notN (pe_call (G_law_wrong_place) (hr.mono (by omega)) (by rfl) T.D_law_wrong_place.mg T.D_law_wrong_place.fn.kp T.D_law_wrong_place.bd .nil pass0 (pa_cons (pv 6) pa_nil)) pe_non (nomark _)) (pw_or1 (pt_cmpR op_ne (pe_call (G_server_text) (hr.mono (by omega)) (by rfl) T.D_server_text.mg T.D_server_text.fn.kp T.D_server_text.bd .nil pass0 (pa_cons (pe_call (G_server_read) (hr.mono (by omega)) (by rfl) T.D_server_read.mg T.D_server_read.fn.kp T.D_server_read.bd .nil (passes_call LamX.takes0 fun _ _ _ _ z => z) (pa_cons (pv 6) pa_nil)) pa_nil)) (pv 6) (nomark _))))) (pss_one (ps_ret pe_bl)) pss_nil)
      (pss_one (ps_for (passes_of rfl) rfl (pi_range1 (by rfl) T.b_range (pa_cons pe_int pa_nil)) (pg_name (i := 8) sc_law.nd rfl (by first | exact Or.inl rfl | exact Or.inr rfl)) (pss_cons (ps_set (i := 9) sc_law.nd rfl (by first | exact Or.inl rfl | exact Or.inr rfl) (pv 6))
      (pss_cons (ps_for (passes_of rfl) rfl (pi_range1 (by rfl) T.b_range (pa_cons (pe_op op_add pe_int (pe_call (G_law_draw) (hr.mono (by omega)) (by rfl) T.D_law_draw.mg T.D_law_draw.fn.kp T.D_law_draw.bd .nil pass0 (pa_cons (pv 1) (pa_cons pe_int pa_nil)))) pa_nil)) (pg_name (i := 10) sc_law.nd rfl (by first | exact Or.inl rfl | exact Or.inr rfl)) (pss_one (ps_set (i := 9) sc_law.nd rfl (by first | exact Or.inl rfl | exact Or.inr rfl) (pe_call (G_law_bent) (hr.mono (by omega)) (by rfl) T.D_law_bent.mg T.D_law_bent.fn.kp T.D_law_bent.bd .nil pass0 (pa_cons (pv 1) (pa_cons (pv 9) pa_nil))))))
      (pss_cons (ps_par (i := 11) (j := 12) (by rfl) sc_law.nd rfl rfl (by decide) rfl rfl (pa_cons (pe_call (G_law_wrong_place) (hr.mono (by omega)) (by rfl) T.D_law_wrong_place.mg T.D_law_wrong_place.fn.kp T.D_law_wrong_place.bd .nil pass0 (pa_cons (pv 9) pa_nil)) (pa_cons (pe_lst pa_nil) pa_nil)) (by rfl))
      (pss_cons (ps_try_as (i := 13) (c := .ref T.C_BadText) (ts := fun a c d => tDrop (tBM K "list" rAppend (tVar 12) (tCons (tTup (tCons (tXf a c d T.C_BadText "line" (tVar 13)) (tCons (tXf a c d T.C_BadText "word" (tVar 13)) tNil))) tNil))) rfl rfl sc_law.nd rfl rfl ⟨by rfl, by decide, .inl T.g_BadText⟩ LamX.takes0 (fun W pn xe tk _ => pss_one (ps_expr (pe_bmK (K := K) rfl PySem.F.plainAttrs_list PySem.F.slot_list_append PySem.F.type_list_append mt_append (pv 12) (pa_cons (pe_call (G_server_text) (hr.mono (by omega)) (by rfl) T.D_server_text.mg T.D_server_text.fn.kp T.D_server_text.bd .nil pass0 (pa_cons (pe_callS (G_server_read) (hr.mono (by omega)) (by rfl) T.D_server_read.mg T.D_server_read.fn.kp T.D_server_read.bd (fun σ => L2.passAt tk σ) (pa_cons (pv 9) pa_nil)) pa_nil)) pa_nil)))) (fun a oe c d pn hz hf => ?suite))
      (pss_one (ps_if (pt_cmpR (op_neD hr.units) (pv 12) (pe_lst (pa_cons (pe_ifExp (pt_cmpR op_isN (pv 11) pe_non (nomark _)) (pv 9) (pv 11)) pa_nil)) (nomark _)) (pss_one (ps_ret pe_bl)) pss_nil))))))))))))))
      (pss_one (ps_ret pe_bl)))), ?_⟩
  case suite => exact pss_one (ps_expr (pe_bm PySem.F.plainAttrs_list PySem.F.slot_list_append PySem.F.type_list_append mt_append (pv 12) (pa_cons (pe_tup (pa_cons (pe_xf (X := (cxOf CX0 P w K mg base ["script", "pen", "lap", "places", "calls", "server", "text", "row", "turn", "bent", "spot", "due", "told", "error"] "law" (defScope s_law) T.a_law cdv callerA [] s H (fun _ _ _ => False))) T.xf_BadText T.na_BadText_line hz hf (pv 13)) (pa_cons (pe_xf (X := (cxOf CX0 P w K mg base ["script", "pen", "lap", "places", "calls", "server", "text", "row", "turn", "bent", "spot", "due", "told", "error"] "law" (defScope s_law) T.a_law cdv callerA [] s H (fun _ _ _ => False))) T.xf_BadText T.na_BadText_word hz hf (pv 13)) pa_nil))) pa_nil)))
  refine ⟨_, rfl, a, zs, rfl, hs, hl, fun p c H1 s1 P1 => ?_⟩
  refine ⟨5, rfl, by decide, by decide, for_range (n := 5) (fun i σ' H' => ∃ (o2 o3 o4 o5 o6 o7 o8 o9 o10 o11 o12 o13 : Option V), σ' = [some (.ref a), some (.ref p), o2, o3, o4, o5, o6, o7, o8, o9, o10, o11, o12, o13] ∧ Pen p c (100000 * i) H')
    ⟨none, none, none, none, none, none, none, none, none, none, none, none, rfl, P1⟩ ?_ ?_⟩
  · rintro i σ' H' hi ⟨o2, o3, o4, o5, o6, o7, o8, o9, o10, o11, o12, o13, rfl, P2⟩
    clear P1 s1 hs e0 lk hcd BL kIn
    dsimp only [gName]
    refine run_asg (run_namesZ (K := K) rfl P2 (by omega) fun hl' hs H3 ehl nh h1 h4 b3 P3 => ?_)
    dsimp only [gName]
    refine run_asg (run_callB (run_consT (run_namesZ (K := K) rfl P3 (by omega) fun cl0 ns H4 ecl0 nn_ n1 n4 b4 P4 => ?_)))
    refine ⟨cl0, ns, rfl, SqL.of ecl0, by omega, fun cs cl pm so hcl => ?_⟩
    have nc : ∀ x ∈ cs, nameB x = true := fun x hx => nn_ x (pm.mem_iff.mp hx)
    have cln : cs.length = ns.length := pm.length_eq
    have s5 := Same.newA (o := .lst (cs.map V.str)) hcl
    have P5 := P4.same s5
    have ecl := upd_same (H := H4) (a := cl) (o := .lst (cs.map V.str))
    have ehl5 := s5 _ _ (b4 _ _ (P3.ne ehl fun _ e => nomatch e) ehl)
    dsimp only [gName]
    refine ⟨_, rfl, _, rfl, _, rfl, p, c, cl, hl', _, 8, cs, hs, rfl, P5, ecl, ehl5, nc, nh, by omega, by omega, by omega, by omega, by omega, fun m R S H6 b6 P6 srt ls Rn hR => ?_⟩
    have up := srt.1
    have gd := ls.goodR
    have few := rows_few (hs := hs) (cs := cs) up (fun r hr => hR r ((srt.2 r).mp hr)) h4 (by omega)
    clear P2 b3 P3 b4 P4 s5 P5 ecl ehl5 ehl ecl0 b6 srt Rn hR pm so nn_ hcl
    dsimp only [gName]
    refine run_asgd (K := K) (F := nn H6) (ed_joinEL (a := "\n") (el_txt (j := 7) (ei_list (ed_lrows (i := 5) rfl ls)) gd (by omega) fun v H => ⟨_, fun Q q => q, rfl, rfl⟩) (Nat.le_trans (txt_sum gd) (by omega))) fun v H7 s7 hv => ?_
    cases hv
    dsimp only [gName]
    have bk0 := srv_bok gd few
    have tok0 := bk0.tok (by decide) (by decide) (by decide)
    have wp0 := wrongP_srv up gd
    have P7 : Pen p c (100000 * i + 3000) H7 := (P6.same s7).more (by omega)
    clear P6 s7 ls
    refine s_if (b := false) (et_is (et_or (et_test (ed_notN (F := nn H7) (ed_lp (i := 6) rfl tok0))) fun _ => et_test (ed_neS (F := nn H7) (ed_readtext (i := 6) rfl tok0 wp0) (ed_var (i := 6) rfl (.str _)))) (by
      show (!isNone (wpD (wrongP (srvT S))) || !decide (srvT S = srvT S)) = false
      rw [wp0]; simp [wpD, isNone])) (fun h => nomatch h) (fun _ H8 s8 => ?_)
    dsimp only [tNext]
    have P8 := P7.same s8
    clear P7 s8
    refine ⟨5, rfl, by decide, by decide, for_range (n := 5) (fun j σ' H' => ∃ (o7 o8 o9 o10 o11 o12 o13 : Option V), σ' = [some (.ref a), some (.ref p), some (.int (0 + (i : Int))), some (.ref hl'), some (.ref cl), some (.ref m), some (.str (srvT S)), o7, o8, o9, o10, o11, o12, o13] ∧ Pen p c (100000 * i + 3000 + 1000 * j) H')
      ⟨_, _, _, _, _, _, _, rfl, P8⟩ ?_ ?_⟩
    · rintro j σ' H9 hj ⟨o7, o8, o9, o10, o11, o12, o13, rfl, P9⟩
      clear P8
      dsimp only [gName]
      refine ⟨_, rfl, ?_⟩
      dsimp only [gName]
      refine ⟨_, rfl, p, c, 3, _, rfl, P9, by decide, by decide, by omega, fun d H10 d0 d3 b10 P10 => ⟨_, _, rfl, rfl, _, rfl, by omega, by omega, for_range (fun u σ' H' => ∃ (t' : Str) (o10 : Option V), σ' = [some (.ref a), some (.ref p), some (.int (0 + (i : Int))), some (.ref hl'), some (.ref cl), some (.ref m), some (.str (srvT S)), o7, some (.int (0 + (j : Int))), some (.str t'), o10, o11, o12, o13] ∧ Pen p c (100000 * i + 3000 + 1000 * j + 100 + 20 * u) H' ∧ BOk (70 + u) (12 + u) (Lf u) (wrdsOf t')) ⟨srvT S, _, rfl, P10.more (by omega), bk0⟩ ?_ ?_⟩⟩
      · rintro u σ' H11 hu ⟨t', o10, rfl, P11, bk⟩
        dsimp only [gName]
        have u3 : u < 3 := by omega
        have lf : Lf u ≤ 40000 := lf_le (by omega)
        refine ⟨_, rfl, _, rfl, p, c, _, 70 + u, 12 + u, Lf u, t', rfl, P11, bk, by omega, by omega, by omega, lf, by omega, fun t2 H12 bk2 b12 P12 => ?_⟩
        exact ⟨t2, _, rfl, P12.more (by omega), bk2⟩
      · rintro σ' H11 ⟨t', o10, rfl, P11, bk⟩
        have u3 : (1 + d).toNat ≤ 3 := by omega
        revert P11 bk
        generalize (1 + d).toNat = u at u3
        intro P11 bk
        have lf : Lf u ≤ 90000 := Nat.le_trans (lf_le u3) (by decide)
        have tok := bk.tok (by omega) (by omega) lf
        have ch := bok_chars bk
        clear P9 b10 P10 bk0 tok0 wp0
        refine (ed_lp (K := K) (F := nn H11) (i := 9) rfl tok) H11 (Same.refl _) _ fun v12 H12 s12 hv12 => ⟨(by show 0 ≤ sizeLine; decide), fun q hq => ⟨_, _, rfl, ?_⟩⟩
        have hv12 := df_dp hv12
        have s13 := Same.newA (o := .lst []) hq
        have el := upd_same (H := H12) (a := q) (o := .lst [])
        have P13 := P11.same (s12.trans s13)
        have hv13 := dp_mono s13 hv12
        have yq : q ≠ p ∧ q ≠ c := ⟨(P11.same s12).ne_p hq, (P11.same s12).ne_c hq⟩
        have old : ∀ (b : Addr) (o : HO), H12 b = some o → b ≠ q := fun b o e => ne_of_none e hq
        revert el P13 hv13 s13
        generalize upd H12 q (.lst []) = G
        intro s13 el P13 hv13
        cases e : wrongP t' with
        | none =>
          rw [e] at hv13
          cases hv13
          refine ⟨_, rfl, .inl ⟨rfl, _, SqL.of el⟩, _, rfl, t', rfl, tok, (fun l k H' z => by rw [e] at z; cases z), fun S2 b H' _ et s' sv => ⟨b, S2, rfl, sv, fun H2 s2 => ?_⟩⟩
          have el2 := s2 _ _ (s' _ _ el)
          refine ⟨q, [], _, rfl, rfl, el2, (by show 0 < sizeLine; decide), ?_⟩
          rw [← et]
          have dt : Dp K (upd H2 q (.lst ([] ++ [V.str t']))) (.ref q) (.list [.str t']) := .lst (SqL.of upd_same) (.cons (.str _) .nil)
          have PF := (P13.same (s'.trans s2)).upd (o := .lst ([] ++ [V.str t'])) yq.1 yq.2
          refine s_if (b := false) (et_is (et_test (ed_neD (F := nn _) (ed_var (i := 12) rfl (dp_df dt)) (ed_lst (ea_cons (ed_if (b := true) (et_test (ed_isN (K := K) (F := nn H) (ed_var (i := 11) (d := .none) rfl .non))) (fun _ => ed_var (i := 9) rfl (.str t')) fun h => nomatch h) ea_nil) (by show 1 ≤ 100000; decide)) (shp_str ch) (shp_str ch))) (by rw [eqv_l1]; rfl)) (fun h => nomatch h) (fun _ HF sF => ?_)
          exact ⟨_, _, _, _, _, _, _, rfl, (PF.same sF).more (by omega)⟩
        | some lk =>
          obtain ⟨lx, kx⟩ := lk
          rw [e] at hv13
          refine ⟨_, rfl, .inl ⟨rfl, _, SqL.of el⟩, _, rfl, t', rfl, tok, (fun l k H' z s' dx H6 s7 _ hdx => ?_), fun S2 b H' z => by rw [e] at z; cases z⟩
          rw [e] at z
          cases z
          have el2 := s7 _ _ (s' _ _ el)
          refine ⟨true, exm_of T.xf_BadText T.ox_BadText T.sb_BadText, fun _ ea ha => ?_, fun h => (nomatch h)⟩
          refine ⟨_, rfl, .inl ⟨rfl, _, SqL.of el2⟩, _, rfl, rfl, rfl, dx, _, _, rfl, hdx, xd_line, _, rfl, rfl, rfl, dx, _, _, rfl, hdx, xd_word, (by show 2 ≤ sizeLine; decide), fun q2 hq2 => ?_⟩
          have s8 := Same.newA (o := .tup [.int (lx : Nat), .int (kx : Nat)]) hq2
          refine ⟨q, [], .ref q2, rfl, rfl, s8 _ _ el2, (by show 0 < sizeLine; decide), ?_⟩
          have n2 : q2 ≠ q := fun z => by rw [z, el2] at hq2; cases hq2
          have eq2 : (upd (upd H6 q2 (.tup [.int (lx : Nat), .int (kx : Nat)])) q (.lst ([] ++ [V.ref q2]))) q2 = some (.tup [.int (lx : Nat), .int (kx : Nat)]) := by rw [upd_ne n2]; exact upd_same
          have dt : Dp K (upd (upd H6 q2 (.tup [.int (lx : Nat), .int (kx : Nat)])) q (.lst ([] ++ [V.ref q2]))) (.ref q) (.list [.tuple [.int (lx : Nat), .int (kx : Nat)]]) := .lst (SqL.of upd_same) (.cons (.tup (SqT.of eq2) (.cons (.int _) (.cons (.int _) .nil))) .nil)
          have PF := (P13.same ((s'.trans s7).trans s8)).upd (o := .lst ([] ++ [V.ref q2])) yq.1 yq.2
          have dv : Dp K (upd (upd H6 q2 (.tup [.int (lx : Nat), .int (kx : Nat)])) q (.lst ([] ++ [V.ref q2]))) v12 (.tuple [.int (lx : Nat), .int (kx : Nat)]) := by
            have hv13 : Dp K G v12 (.tuple [.int (lx : Nat), .int (kx : Nat)]) := hv13
            have h14 := dp_mono ((s'.trans s7).trans s8) hv13
            cases h14 with
            | tup h r =>
              cases r with
              | cons a1 r =>
                cases r with
                | cons b1 r => cases r; cases a1; cases b1; exact .tup (st_upd (s8 _ _ el2) h) (.cons (.int _) (.cons (.int _) .nil))
          refine s_if (b := false) (et_is (et_test (ed_neD (F := nn _) (ed_var (i := 12) rfl (dp_df dt)) (ed_lst (ea_cons (ed_if (b := false) (et_test (ed_isN (ed_var (i := 11) rfl (dp_df dv)))) (fun h => nomatch h) fun _ => ed_var (i := 11) rfl (dp_df dv)) ea_nil) (by show 1 ≤ 100000; decide)) (shp_two _ _) (shp_two _ _))) (by rw [eqv_l2]; rfl)) (fun h => nomatch h) (fun _ HF sF => ?_)
          exact ⟨_, _, _, _, _, _, _, rfl, (PF.same sF).more (by omega)⟩
    · rintro σ' H9 ⟨o7, o8, o9, o10, o11, o12, o13, rfl, P9⟩
      exact ⟨_, _, _, _, _, _, _, _, _, _, _, _, rfl, P9.more (by omega)⟩
  · rintro σ' H2 ⟨o2, o3, o4, o5, o6, o7, o8, o9, o10, o11, o12, o13, rfl, P2⟩
    rfl
end
end Ag

set_option Elab.async false
set_option linter.all false
set_option maxRecDepth 100000
set_option maxHeartbeats 0
namespace Ag
open PySem PySem.Spec PyProof.Rows L2
/-! ### a table with text keys, as written -/
def TabOf : List DictEntry → List (Str × Int) → Prop
  | [], [] => True
  | e :: r, q :: s => (∃ t u, e.key = .str q.1 t ∧ e.val = .int q.2 u) ∧ TabOf r s
  | _, _ => False
theorem tab_find : ∀ {es : List DictEntry} {kvs : List (Str × Int)} (z : Str), TabOf es kvs → es.any (·.refKey) = false ∧ ((∃ i e u, (z, i) ∈ kvs ∧ (∀ j, kvs.lookup z = some j → j = i) ∧ es.find? (·.key.isStr z) = some e ∧ e.val = .int i u) ∨ (z ∉ kvs.map (·.1) ∧ es.find? (·.key.isStr z) = none))
  | [], [], z, _ => ⟨rfl, .inr ⟨by simp, rfl⟩⟩
  | e :: r, q :: s, z, ⟨⟨t, u, h1, h2⟩, h⟩ => by
    obtain ⟨a, b⟩ := tab_find z h
    have hr : e.refKey = false := by unfold DictEntry.refKey; rw [h1]
    refine ⟨by rw [List.any_cons, hr, a]; rfl, ?_⟩
    have hs : e.key.isStr z = (q.1 == z) := by rw [h1]; rfl
    by_cases hz : q.1 = z
    · refine .inl ⟨q.2, e, u, ?_, fun j hj => ?_, ?_, h2⟩
      · rw [← hz]; exact List.mem_cons_self
      · obtain ⟨q1, q2⟩ := q
        simp only at hz; subst hz
        simp at hj; exact hj.symm
      · rw [List.find?_cons, hs, beq_iff_eq.mpr hz]
    · have hf : (q.1 == z) = false := beq_eq_false_iff_ne.mpr hz
      have hf2 : (z == q.1) = false := beq_eq_false_iff_ne.mpr fun w => hz w.symm
      rcases b with ⟨i, e2, u2, m, l, f, v⟩ | ⟨m, f⟩
      · refine .inl ⟨i, e2, u2, List.mem_cons_of_mem _ m, fun j hj => l j ?_, ?_, v⟩
        · obtain ⟨q1, q2⟩ := q
          simp only at hf2
          rw [List.lookup_cons, hf2] at hj; exact hj
        · rw [List.find?_cons, hs, hf]; exact f
      · refine .inr ⟨?_, ?_⟩
        · rw [List.map_cons, List.mem_cons]; rintro (w | w)
          · exact hz w.symm
          · exact m w
        · rw [List.find?_cons, hs, hf]; exact f
section
variable {w : World} {K : PySem.W.Frag} {a : Addr} {es : Array DictEntry} {n : Nat} {kvs : List (Str × Int)}
theorem tab_in (l : K.lookup a = some ⟨.type "dict", none, .dict es n, #[]⟩) (t : TabOf es.toList kvs) (z : Str) : ∃ r, PySem.W.nsIn K a z = some r ∧ r.isSome = decide (z ∈ kvs.map (·.1)) := by
  obtain ⟨h1, h2⟩ := tab_find z t
  unfold PySem.W.nsIn
  rw [l]
  rcases h2 with ⟨i, e, u, m, _, f, v⟩ | ⟨m, f⟩
  · refine ⟨some e.val, ?_, ?_⟩
    · simp only [f]
    · exact (decide_eq_true (List.mem_map.mpr ⟨_, m, rfl⟩)).symm
  · refine ⟨none, ?_, (decide_eq_false m).symm⟩
    simp only [f, h1]; rfl
theorem tab_at (l : K.lookup a = some ⟨.type "dict", none, .dict es n, #[]⟩) (k : PySem.W.KeysLit w.params es.toList) (t : TabOf es.toList kvs) (nd : kvs.all (fun q => kvs.lookup q.1 == some q.2) = true) (z : Str) (i : Int) (hm : (z, i) ∈ kvs) : KDct K w a z (.int i) := by
  obtain ⟨h1, h2⟩ := tab_find z t
  have hl : kvs.lookup z = some i := by simpa using List.all_eq_true.mp nd _ hm
  rcases h2 with ⟨j, e, u, m, lk, f, v⟩ | ⟨m, f⟩
  · have := lk i hl; subst this
    refine ⟨es, n, e.val, l, k, ?_, u, v⟩
    unfold PySem.W.nsIn
    rw [l]
    simp only [f]
  · exact absurd (List.mem_map.mpr ⟨_, hm, rfl⟩) m
end
theorem binds_all {K : PySem.W.Frag} {fd : FuncData} {ps : List Str} (h : ∃ ds, Vals [] ds ∧ Binds K fd ps ds) : Binds K fd ps [] := by
  obtain ⟨ds, v, b⟩ := h
  cases v
  exact b
theorem all_mk {l : PySem.W.OpenLaw} {w : World} {K : PySem.W.Frag} {q : Program} {loose : List Str} {mean : ExcName → Option Value} {mg mb : Str → Option Value} {s : Shared} {fa : Addr} (TP : PyProof.Rows.Top q (PySem.W.looseW q loose) mean mg mb s.heap) (X : K.In s.heap)
    (hfa : mg "law" = some (.ref fa))
    {f0 : Addr} {od0 an0 : Option Addr} {sl0 : Array (Option Value)} {oc0 kV0 dc0 pm0 cd0 ct0 : Value}
    {f1 : Addr} {od1 an1 : Option Addr} {sl1 : Array (Option Value)} {oc1 kV1 dc1 pm1 cd1 ct1 : Value}
    {f2 : Addr} {od2 an2 : Option Addr} {sl2 : Array (Option Value)} {oc2 kV2 dc2 pm2 cd2 ct2 : Value}
    {f3 : Addr} {od3 an3 : Option Addr} {sl3 : Array (Option Value)} {oc3 kV3 dc3 pm3 cd3 ct3 : Value}
    {f4 : Addr} {od4 an4 : Option Addr} {sl4 : Array (Option Value)} {oc4 kV4 dc4 pm4 cd4 ct4 : Value}
    {f5 : Addr} {od5 an5 : Option Addr} {sl5 : Array (Option Value)} {oc5 kV5 dc5 pm5 cd5 ct5 : Value}
    {f6 : Addr} {od6 an6 : Option Addr} {sl6 : Array (Option Value)} {oc6 kV6 dc6 pm6 cd6 ct6 : Value}
    {f7 : Addr} {od7 an7 : Option Addr} {sl7 : Array (Option Value)} {oc7 kV7 dc7 pm7 cd7 ct7 : Value}
    {f8 : Addr} {od8 an8 : Option Addr} {sl8 : Array (Option Value)} {oc8 kV8 dc8 pm8 cd8 ct8 : Value}
    {f9 : Addr} {od9 an9 : Option Addr} {sl9 : Array (Option Value)} {oc9 kV9 dc9 pm9 cd9 ct9 : Value}
    {f10 : Addr} {od10 an10 : Option Addr} {sl10 : Array (Option Value)} {oc10 kV10 dc10 pm10 cd10 ct10 : Value}
    {f11 : Addr} {od11 an11 : Option Addr} {sl11 : Array (Option Value)} {oc11 kV11 dc11 pm11 cd11 ct11 : Value}
    {f12 : Addr} {od12 an12 : Option Addr} {sl12 : Array (Option Value)} {oc12 kV12 dc12 pm12 cd12 ct12 : Value}
    {f13 : Addr} {od13 an13 : Option Addr} {sl13 : Array (Option Value)} {oc13 kV13 dc13 pm13 cd13 ct13 : Value}
    {f14 : Addr} {od14 an14 : Option Addr} {sl14 : Array (Option Value)} {oc14 kV14 dc14 pm14 cd14 ct14 : Value}
    {f15 : Addr} {od15 an15 : Option Addr} {sl15 : Array (Option Value)} {oc15 kV15 dc15 pm15 cd15 ct15 : Value}
    {f16 : Addr} {od16 an16 : Option Addr} {sl16 : Array (Option Value)} {oc16 kV16 dc16 pm16 cd16 ct16 : Value}
    {f17 : Addr} {od17 an17 : Option Addr} {sl17 : Array (Option Value)} {oc17 kV17 dc17 pm17 cd17 ct17 : Value}
    {f18 : Addr} {od18 an18 : Option Addr} {sl18 : Array (Option Value)} {oc18 kV18 dc18 pm18 cd18 ct18 : Value}
    {f19 : Addr} {od19 an19 : Option Addr} {sl19 : Array (Option Value)} {oc19 kV19 dc19 pm19 cd19 ct19 : Value}
    {f20 : Addr} {od20 an20 : Option Addr} {sl20 : Array (Option Value)} {oc20 kV20 dc20 pm20 cd20 ct20 : Value}
    {f21 : Addr} {od21 an21 : Option Addr} {sl21 : Array (Option Value)} {oc21 kV21 dc21 pm21 cd21 ct21 : Value}
    {f22 : Addr} {od22 an22 : Option Addr} {sl22 : Array (Option Value)} {oc22 kV22 dc22 pm22 cd22 ct22 : Value}
    {CAgainError : Addr}
    {CBadText : Addr}
    {fBadText0 : Addr} {odBadText0 anBadText0 : Option Addr} {slBadText0 : Array (Option Value)} {ocBadText0 kVBadText0 dcBadText0 pmBadText0 cdBadText0 ctBadText0 : Value}
    {CBadRow : Addr}
    {fBadRow0 : Addr} {odBadRow0 anBadRow0 : Option Addr} {slBadRow0 : Array (Option Value)} {ocBadRow0 kVBadRow0 dcBadRow0 pmBadRow0 cdBadRow0 ctBadRow0 : Value}
    {CServer : Addr}
    {fServer0 : Addr} {odServer0 anServer0 : Option Addr} {slServer0 : Array (Option Value)} {ocServer0 kVServer0 dcServer0 pmServer0 cdServer0 ctServer0 : Value}
    {fServer1 : Addr} {odServer1 anServer1 : Option Addr} {slServer1 : Array (Option Value)} {ocServer1 kVServer1 dcServer1 pmServer1 cdServer1 ctServer1 : Value}
    {fServer2 : Addr} {odServer2 anServer2 : Option Addr} {slServer2 : Array (Option Value)} {ocServer2 kVServer2 dcServer2 pmServer2 cdServer2 ctServer2 : Value}
    {fServer3 : Addr} {odServer3 anServer3 : Option Addr} {slServer3 : Array (Option Value)} {ocServer3 kVServer3 dcServer3 pmServer3 cdServer3 ctServer3 : Value}
    {fServer4 : Addr} {odServer4 anServer4 : Option Addr} {slServer4 : Array (Option Value)} {ocServer4 kVServer4 dcServer4 pmServer4 cdServer4 ctServer4 : Value}
    {fServer5 : Addr} {odServer5 anServer5 : Option Addr} {slServer5 : Array (Option Value)} {ocServer5 kVServer5 dcServer5 pmServer5 cdServer5 ctServer5 : Value}
    {fServer6 : Addr} {odServer6 anServer6 : Option Addr} {slServer6 : Array (Option Value)} {ocServer6 kVServer6 dcServer6 pmServer6 cdServer6 ctServer6 : Value}
    {fServer7 : Addr} {odServer7 anServer7 : Option Addr} {slServer7 : Array (Option Value)} {ocServer7 kVServer7 dcServer7 pmServer7 cdServer7 ctServer7 : Value}
    {fServer8 : Addr} {odServer8 anServer8 : Option Addr} {slServer8 : Array (Option Value)} {ocServer8 kVServer8 dcServer8 pmServer8 cdServer8 ctServer8 : Value}
    {fServer9 : Addr} {odServer9 anServer9 : Option Addr} {slServer9 : Array (Option Value)} {ocServer9 kVServer9 dcServer9 pmServer9 cdServer9 ctServer9 : Value}
    {fServer10 : Addr} {odServer10 anServer10 : Option Addr} {slServer10 : Array (Option Value)} {ocServer10 kVServer10 dcServer10 pmServer10 cdServer10 ctServer10 : Value}
    {fServer11 : Addr} {odServer11 anServer11 : Option Addr} {slServer11 : Array (Option Value)} {ocServer11 kVServer11 dcServer11 pmServer11 cdServer11 ctServer11 : Value}
    {tFIGURES : Tok}
    {tLETTERS : Tok}
    {tLAST_NAME : Tok}
    (a0 : PySem.W.nsIn K mainGlobals "_wall" = some (some (.ref f0)))
    (l0 : K.lookup f0 = some ⟨oc0, od0, .func (PySem.W.fnOf "_wall" "_wall" (defArgs s_wall) (defBody s_wall) (defScope s_wall) .none kV0 dc0 pm0 an0 cd0 ct0), sl0⟩)
    (c0 : PySem.W.codeIn K cd0 "_wall" = true)
    (k0 : PySem.W.keepIn K (.ref f0) = true)
    (a1 : PySem.W.nsIn K mainGlobals "ascending" = some (some (.ref f1)))
    (l1 : K.lookup f1 = some ⟨oc1, od1, .func (PySem.W.fnOf "ascending" "ascending" (defArgs s_ascending) (defBody s_ascending) (defScope s_ascending) .none kV1 dc1 pm1 an1 cd1 ct1), sl1⟩)
    (c1 : PySem.W.codeIn K cd1 "ascending" = true)
    (k1 : PySem.W.keepIn K (.ref f1) = true)
    (a2 : PySem.W.nsIn K mainGlobals "is_name" = some (some (.ref f2)))
    (l2 : K.lookup f2 = some ⟨oc2, od2, .func (PySem.W.fnOf "is_name" "is_name" (defArgs s_is_name) (defBody s_is_name) (defScope s_is_name) .none kV2 dc2 pm2 an2 cd2 ct2), sl2⟩)
    (c2 : PySem.W.codeIn K cd2 "is_name" = true)
    (k2 : PySem.W.keepIn K (.ref f2) = true)
    (a3 : PySem.W.nsIn K mainGlobals "is_row" = some (some (.ref f3)))
    (l3 : K.lookup f3 = some ⟨oc3, od3, .func (PySem.W.fnOf "is_row" "is_row" (defArgs s_is_row) (defBody s_is_row) (defScope s_is_row) .none kV3 dc3 pm3 an3 cd3 ct3), sl3⟩)
    (c3 : PySem.W.codeIn K cd3 "is_row" = true)
    (k3 : PySem.W.keepIn K (.ref f3) = true)
    (a4 : PySem.W.nsIn K mainGlobals "need_rows" = some (some (.ref f4)))
    (l4 : K.lookup f4 = some ⟨oc4, od4, .func (PySem.W.fnOf "need_rows" "need_rows" (defArgs s_need_rows) (defBody s_need_rows) (defScope s_need_rows) .none kV4 dc4 pm4 an4 cd4 ct4), sl4⟩)
    (c4 : PySem.W.codeIn K cd4 "need_rows" = true)
    (k4 : PySem.W.keepIn K (.ref f4) = true)
    (a5 : PySem.W.nsIn K mainGlobals "server_text" = some (some (.ref f5)))
    (l5 : K.lookup f5 = some ⟨oc5, od5, .func (PySem.W.fnOf "server_text" "server_text" (defArgs s_server_text) (defBody s_server_text) (defScope s_server_text) .none kV5 dc5 pm5 an5 cd5 ct5), sl5⟩)
    (c5 : PySem.W.codeIn K cd5 "server_text" = true)
    (k5 : PySem.W.keepIn K (.ref f5) = true)
    (a6 : PySem.W.nsIn K mainGlobals "is_right" = some (some (.ref f6)))
    (l6 : K.lookup f6 = some ⟨oc6, od6, .func (PySem.W.fnOf "is_right" "is_right" (defArgs s_is_right) (defBody s_is_right) (defScope s_is_right) .none kV6 dc6 pm6 an6 cd6 ct6), sl6⟩)
    (c6 : PySem.W.codeIn K cd6 "is_right" = true)
    (k6 : PySem.W.keepIn K (.ref f6) = true)
    (a7 : PySem.W.nsIn K mainGlobals "read_row" = some (some (.ref f7)))
    (l7 : K.lookup f7 = some ⟨oc7, od7, .func (PySem.W.fnOf "read_row" "read_row" (defArgs s_read_row) (defBody s_read_row) (defScope s_read_row) .none kV7 dc7 pm7 an7 cd7 ct7), sl7⟩)
    (c7 : PySem.W.codeIn K cd7 "read_row" = true)
    (k7 : PySem.W.keepIn K (.ref f7) = true)
    (a8 : PySem.W.nsIn K mainGlobals "server_read" = some (some (.ref f8)))
    (l8 : K.lookup f8 = some ⟨oc8, od8, .func (PySem.W.fnOf "server_read" "server_read" (defArgs s_server_read) (defBody s_server_read) (defScope s_server_read) .none kV8 dc8 pm8 an8 cd8 ct8), sl8⟩)
    (c8 : PySem.W.codeIn K cd8 "server_read" = true)
    (k8 : PySem.W.keepIn K (.ref f8) = true)
    (a9 : PySem.W.nsIn K mainGlobals "_law_pen" = some (some (.ref f9)))
    (l9 : K.lookup f9 = some ⟨oc9, od9, .func (PySem.W.fnOf "_law_pen" "_law_pen" (defArgs s_law_pen) (defBody s_law_pen) (defScope s_law_pen) .none kV9 dc9 pm9 an9 cd9 ct9), sl9⟩)
    (c9 : PySem.W.codeIn K cd9 "_law_pen" = true)
    (k9 : PySem.W.keepIn K (.ref f9) = true)
    (a10 : PySem.W.nsIn K mainGlobals "_law_draw" = some (some (.ref f10)))
    (l10 : K.lookup f10 = some ⟨oc10, od10, .func (PySem.W.fnOf "_law_draw" "_law_draw" (defArgs s_law_draw) (defBody s_law_draw) (defScope s_law_draw) .none kV10 dc10 pm10 an10 cd10 ct10), sl10⟩)
    (c10 : PySem.W.codeIn K cd10 "_law_draw" = true)
    (k10 : PySem.W.keepIn K (.ref f10) = true)
    (a11 : PySem.W.nsIn K mainGlobals "_law_pick" = some (some (.ref f11)))
    (l11 : K.lookup f11 = some ⟨oc11, od11, .func (PySem.W.fnOf "_law_pick" "_law_pick" (defArgs s_law_pick) (defBody s_law_pick) (defScope s_law_pick) .none kV11 dc11 pm11 an11 cd11 ct11), sl11⟩)
    (c11 : PySem.W.codeIn K cd11 "_law_pick" = true)
    (k11 : PySem.W.keepIn K (.ref f11) = true)
    (a12 : PySem.W.nsIn K mainGlobals "_law_shuffled" = some (some (.ref f12)))
    (l12 : K.lookup f12 = some ⟨oc12, od12, .func (PySem.W.fnOf "_law_shuffled" "_law_shuffled" (defArgs s_law_shuffled) (defBody s_law_shuffled) (defScope s_law_shuffled) .none kV12 dc12 pm12 an12 cd12 ct12), sl12⟩)
    (c12 : PySem.W.codeIn K cd12 "_law_shuffled" = true)
    (k12 : PySem.W.keepIn K (.ref f12) = true)
    (a13 : PySem.W.nsIn K mainGlobals "_law_some" = some (some (.ref f13)))
    (l13 : K.lookup f13 = some ⟨oc13, od13, .func (PySem.W.fnOf "_law_some" "_law_some" (defArgs s_law_some) (defBody s_law_some) (defScope s_law_some) .none kV13 dc13 pm13 an13 cd13 ct13), sl13⟩)
    (c13 : PySem.W.codeIn K cd13 "_law_some" = true)
    (k13 : PySem.W.keepIn K (.ref f13) = true)
    (a14 : PySem.W.nsIn K mainGlobals "_law_name" = some (some (.ref f14)))
    (l14 : K.lookup f14 = some ⟨oc14, od14, .func (PySem.W.fnOf "_law_name" "_law_name" (defArgs s_law_name) (defBody s_law_name) (defScope s_law_name) .none kV14 dc14 pm14 an14 cd14 ct14), sl14⟩)
    (c14 : PySem.W.codeIn K cd14 "_law_name" = true)
    (k14 : PySem.W.keepIn K (.ref f14) = true)
    (a15 : PySem.W.nsIn K mainGlobals "_law_names" = some (some (.ref f15)))
    (l15 : K.lookup f15 = some ⟨oc15, od15, .func (PySem.W.fnOf "_law_names" "_law_names" (defArgs s_law_names) (defBody s_law_names) (defScope s_law_names) .none kV15 dc15 pm15 an15 cd15 ct15), sl15⟩)
    (c15 : PySem.W.codeIn K cd15 "_law_names" = true)
    (k15 : PySem.W.keepIn K (.ref f15) = true)
    (a16 : PySem.W.nsIn K mainGlobals "_law_server_of" = some (some (.ref f16)))
    (l16 : K.lookup f16 = some ⟨oc16, od16, .func (PySem.W.fnOf "_law_server_of" "_law_server_of" (defArgs s_law_server_of) (defBody s_law_server_of) (defScope s_law_server_of) .none kV16 dc16 pm16 an16 cd16 ct16), sl16⟩)
    (c16 : PySem.W.codeIn K cd16 "_law_server_of" = true)
    (k16 : PySem.W.keepIn K (.ref f16) = true)
    (a17 : PySem.W.nsIn K mainGlobals "_law_some_server" = some (some (.ref f17)))
    (l17 : K.lookup f17 = some ⟨oc17, od17, .func (PySem.W.fnOf "_law_some_server" "_law_some_server" (defArgs s_law_some_server) (defBody s_law_some_server) (defScope s_law_some_server) .none kV17 dc17 pm17 an17 cd17 ct17), sl17⟩)
    (c17 : PySem.W.codeIn K cd17 "_law_some_server" = true)
    (k17 : PySem.W.keepIn K (.ref f17) = true)
    (a18 : PySem.W.nsIn K mainGlobals "_law_is_name" = some (some (.ref f18)))
    (l18 : K.lookup f18 = some ⟨oc18, od18, .func (PySem.W.fnOf "_law_is_name" "_law_is_name" (defArgs s_law_is_name) (defBody s_law_is_name) (defScope s_law_is_name) .none kV18 dc18 pm18 an18 cd18 ct18), sl18⟩)
    (c18 : PySem.W.codeIn K cd18 "_law_is_name" = true)
    (k18 : PySem.W.keepIn K (.ref f18) = true)
    (a19 : PySem.W.nsIn K mainGlobals "_law_wrong_word" = some (some (.ref f19)))
    (l19 : K.lookup f19 = some ⟨oc19, od19, .func (PySem.W.fnOf "_law_wrong_word" "_law_wrong_word" (defArgs s_law_wrong_word) (defBody s_law_wrong_word) (defScope s_law_wrong_word) .none kV19 dc19 pm19 an19 cd19 ct19), sl19⟩)
    (c19 : PySem.W.codeIn K cd19 "_law_wrong_word" = true)
    (k19 : PySem.W.keepIn K (.ref f19) = true)
    (a20 : PySem.W.nsIn K mainGlobals "_law_wrong_place" = some (some (.ref f20)))
    (l20 : K.lookup f20 = some ⟨oc20, od20, .func (PySem.W.fnOf "_law_wrong_place" "_law_wrong_place" (defArgs s_law_wrong_place) (defBody s_law_wrong_place) (defScope s_law_wrong_place) .none kV20 dc20 pm20 an20 cd20 ct20), sl20⟩)
    (c20 : PySem.W.codeIn K cd20 "_law_wrong_place" = true)
    (k20 : PySem.W.keepIn K (.ref f20) = true)
    (a21 : PySem.W.nsIn K mainGlobals "_law_bent" = some (some (.ref f21)))
    (l21 : K.lookup f21 = some ⟨oc21, od21, .func (PySem.W.fnOf "_law_bent" "_law_bent" (defArgs s_law_bent) (defBody s_law_bent) (defScope s_law_bent) .none kV21 dc21 pm21 an21 cd21 ct21), sl21⟩)
    (c21 : PySem.W.codeIn K cd21 "_law_bent" = true)
    (k21 : PySem.W.keepIn K (.ref f21) = true)
    (a22 : PySem.W.nsIn K mainGlobals "law" = some (some (.ref f22)))
    (l22 : K.lookup f22 = some ⟨oc22, od22, .func (PySem.W.fnOf "law" "law" (defArgs s_law) (defBody s_law) (defScope s_law) .none kV22 dc22 pm22 an22 cd22 ct22), sl22⟩)
    (c22 : PySem.W.codeIn K cd22 "law" = true)
    (k22 : PySem.W.keepIn K (.ref f22) = true)
    (gAgainError : PySem.W.nsIn K mainGlobals "AgainError" = some (some (.ref CAgainError)))
    (saAgainError : PySem.W.findIn K (.ref CAgainError) "__setattr__" = some (some (.builtin "object.__setattr__")))
    (kcAgainError : PySem.W.keepIn K (.ref CAgainError) = true)
    (hdAgainError : PySem.W.hasDictIn K CAgainError = true)
    (gaAgainError : PySem.W.findIn K (.ref CAgainError) "__getattribute__" = some (some (.builtin "BaseException.__getattribute__")))
    (ggAgainError : PySem.W.findIn K (.ref CAgainError) "__getattr__" = some none)
    (exAgainError : PySem.W.subIn K (.ref CAgainError) (.type "BaseException") = some true)
    (tyAgainError : PySem.W.typeIn K (.ref CAgainError) = some (.type "type"))
    (sbAgainError : PySem.W.subIn K (.ref CAgainError) (.ref CAgainError) = some true)
    (xlAgainError : ∃ nm q N bs bm sn sub ab col dd k0 k1 k2 k3 k5, K.lookup CAgainError = some (excClassObj nm q CAgainError N bs bm true sn sub ab col dd k0 k1 k2 k3 k5 "ValueError.__new__") ∧ PySem.HandSPX.refsVE bm = true)
    (gBadText : PySem.W.nsIn K mainGlobals "BadText" = some (some (.ref CBadText)))
    (aBadText0 : PySem.W.findIn K (.ref CBadText) "__init__" = some (some (.ref fBadText0)))
    (lBadText0 : K.lookup fBadText0 = some ⟨ocBadText0, odBadText0, .func (PySem.W.fnOf "__init__" "BadText.__init__" (defArgs s_BadText___init__) (defBody s_BadText___init__) (defScope s_BadText___init__) .none kVBadText0 dcBadText0 pmBadText0 anBadText0 cdBadText0 ctBadText0), slBadText0⟩)
    (cBadText0 : PySem.W.codeIn K cdBadText0 "BadText.__init__" = true)
    (kBadText0 : PySem.W.keepIn K (.ref fBadText0) = true)
    (tBadText0 : PySem.W.typeIn K (.ref fBadText0) = some (.type "function"))
    (nBadTextline : PySem.W.findIn K (.ref CBadText) "line" = some none)
    (nBadTextword : PySem.W.findIn K (.ref CBadText) "word" = some none)
    (saBadText : PySem.W.findIn K (.ref CBadText) "__setattr__" = some (some (.builtin "object.__setattr__")))
    (kcBadText : PySem.W.keepIn K (.ref CBadText) = true)
    (hdBadText : PySem.W.hasDictIn K CBadText = true)
    (gaBadText : PySem.W.findIn K (.ref CBadText) "__getattribute__" = some (some (.builtin "BaseException.__getattribute__")))
    (ggBadText : PySem.W.findIn K (.ref CBadText) "__getattr__" = some none)
    (exBadText : PySem.W.subIn K (.ref CBadText) (.type "BaseException") = some true)
    (tyBadText : PySem.W.typeIn K (.ref CBadText) = some (.type "type"))
    (sbBadText : PySem.W.subIn K (.ref CBadText) (.ref CBadText) = some true)
    (xlBadText : ∃ nm q N bs bm sn sub ab col dd k0 k1 k2 k3 k5, K.lookup CBadText = some (excClassObj nm q CBadText N bs bm true sn sub ab col dd k0 k1 k2 k3 k5 "ValueError.__new__") ∧ PySem.HandSPX.refsVE bm = true)
    (gBadRow : PySem.W.nsIn K mainGlobals "BadRow" = some (some (.ref CBadRow)))
    (aBadRow0 : PySem.W.findIn K (.ref CBadRow) "__init__" = some (some (.ref fBadRow0)))
    (lBadRow0 : K.lookup fBadRow0 = some ⟨ocBadRow0, odBadRow0, .func (PySem.W.fnOf "__init__" "BadRow.__init__" (defArgs s_BadRow___init__) (defBody s_BadRow___init__) (defScope s_BadRow___init__) .none kVBadRow0 dcBadRow0 pmBadRow0 anBadRow0 cdBadRow0 ctBadRow0), slBadRow0⟩)
    (cBadRow0 : PySem.W.codeIn K cdBadRow0 "BadRow.__init__" = true)
    (kBadRow0 : PySem.W.keepIn K (.ref fBadRow0) = true)
    (tBadRow0 : PySem.W.typeIn K (.ref fBadRow0) = some (.type "function"))
    (nBadRowwhat : PySem.W.findIn K (.ref CBadRow) "what" = some none)
    (nBadRowrow : PySem.W.findIn K (.ref CBadRow) "row" = some none)
    (saBadRow : PySem.W.findIn K (.ref CBadRow) "__setattr__" = some (some (.builtin "object.__setattr__")))
    (kcBadRow : PySem.W.keepIn K (.ref CBadRow) = true)
    (hdBadRow : PySem.W.hasDictIn K CBadRow = true)
    (gaBadRow : PySem.W.findIn K (.ref CBadRow) "__getattribute__" = some (some (.builtin "BaseException.__getattribute__")))
    (ggBadRow : PySem.W.findIn K (.ref CBadRow) "__getattr__" = some none)
    (exBadRow : PySem.W.subIn K (.ref CBadRow) (.type "BaseException") = some true)
    (tyBadRow : PySem.W.typeIn K (.ref CBadRow) = some (.type "type"))
    (sbBadRow : PySem.W.subIn K (.ref CBadRow) (.ref CBadRow) = some true)
    (xlBadRow : ∃ nm q N bs bm sn sub ab col dd k0 k1 k2 k3 k5, K.lookup CBadRow = some (excClassObj nm q CBadRow N bs bm true sn sub ab col dd k0 k1 k2 k3 k5 "ValueError.__new__") ∧ PySem.HandSPX.refsVE bm = true)
    (gServer : PySem.W.nsIn K mainGlobals "Server" = some (some (.ref CServer)))
    (aServer0 : PySem.W.findIn K (.ref CServer) "__init__" = some (some (.ref fServer0)))
    (lServer0 : K.lookup fServer0 = some ⟨ocServer0, odServer0, .func (PySem.W.fnOf "__init__" "Server.__init__" (defArgs s_Server___init__) (defBody s_Server___init__) (defScope s_Server___init__) .none kVServer0 dcServer0 pmServer0 anServer0 cdServer0 ctServer0), slServer0⟩)
    (cServer0 : PySem.W.codeIn K cdServer0 "Server.__init__" = true)
    (kServer0 : PySem.W.keepIn K (.ref fServer0) = true)
    (iServer0 : PySem.W.isFn K (.ref fServer0) = true)
    (aServer1 : PySem.W.findIn K (.ref CServer) "__eq__" = some (some (.ref fServer1)))
    (lServer1 : K.lookup fServer1 = some ⟨ocServer1, odServer1, .func (PySem.W.fnOf "__eq__" "Server.__eq__" (defArgs s_Server___eq__) (defBody s_Server___eq__) (defScope s_Server___eq__) .none kVServer1 dcServer1 pmServer1 anServer1 cdServer1 ctServer1), slServer1⟩)
    (cServer1 : PySem.W.codeIn K cdServer1 "Server.__eq__" = true)
    (kServer1 : PySem.W.keepIn K (.ref fServer1) = true)
    (iServer1 : PySem.W.isFn K (.ref fServer1) = true)
    (aServer2 : PySem.W.findIn K (.ref CServer) "__len__" = some (some (.ref fServer2)))
    (lServer2 : K.lookup fServer2 = some ⟨ocServer2, odServer2, .func (PySem.W.fnOf "__len__" "Server.__len__" (defArgs s_Server___len__) (defBody s_Server___len__) (defScope s_Server___len__) .none kVServer2 dcServer2 pmServer2 anServer2 cdServer2 ctServer2), slServer2⟩)
    (cServer2 : PySem.W.codeIn K cdServer2 "Server.__len__" = true)
    (kServer2 : PySem.W.keepIn K (.ref fServer2) = true)
    (iServer2 : PySem.W.isFn K (.ref fServer2) = true)
    (aServer3 : PySem.W.findIn K (.ref CServer) "__contains__" = some (some (.ref fServer3)))
    (lServer3 : K.lookup fServer3 = some ⟨ocServer3, odServer3, .func (PySem.W.fnOf "__contains__" "Server.__contains__" (defArgs s_Server___contains__) (defBody s_Server___contains__) (defScope s_Server___contains__) .none kVServer3 dcServer3 pmServer3 anServer3 cdServer3 ctServer3), slServer3⟩)
    (cServer3 : PySem.W.codeIn K cdServer3 "Server.__contains__" = true)
    (kServer3 : PySem.W.keepIn K (.ref fServer3) = true)
    (iServer3 : PySem.W.isFn K (.ref fServer3) = true)
    (aServer4 : PySem.W.findIn K (.ref CServer) "__add__" = some (some (.ref fServer4)))
    (lServer4 : K.lookup fServer4 = some ⟨ocServer4, odServer4, .func (PySem.W.fnOf "__add__" "Server.__add__" (defArgs s_Server___add__) (defBody s_Server___add__) (defScope s_Server___add__) .none kVServer4 dcServer4 pmServer4 anServer4 cdServer4 ctServer4), slServer4⟩)
    (cServer4 : PySem.W.codeIn K cdServer4 "Server.__add__" = true)
    (kServer4 : PySem.W.keepIn K (.ref fServer4) = true)
    (iServer4 : PySem.W.isFn K (.ref fServer4) = true)
    (aServer5 : PySem.W.findIn K (.ref CServer) "__sub__" = some (some (.ref fServer5)))
    (lServer5 : K.lookup fServer5 = some ⟨ocServer5, odServer5, .func (PySem.W.fnOf "__sub__" "Server.__sub__" (defArgs s_Server___sub__) (defBody s_Server___sub__) (defScope s_Server___sub__) .none kVServer5 dcServer5 pmServer5 anServer5 cdServer5 ctServer5), slServer5⟩)
    (cServer5 : PySem.W.codeIn K cdServer5 "Server.__sub__" = true)
    (kServer5 : PySem.W.keepIn K (.ref fServer5) = true)
    (iServer5 : PySem.W.isFn K (.ref fServer5) = true)
    (aServer6 : PySem.W.findIn K (.ref CServer) "__or__" = some (some (.ref fServer6)))
    (lServer6 : K.lookup fServer6 = some ⟨ocServer6, odServer6, .func (PySem.W.fnOf "__or__" "Server.__or__" (defArgs s_Server___or__) (defBody s_Server___or__) (defScope s_Server___or__) .none kVServer6 dcServer6 pmServer6 anServer6 cdServer6 ctServer6), slServer6⟩)
    (cServer6 : PySem.W.codeIn K cdServer6 "Server.__or__" = true)
    (kServer6 : PySem.W.keepIn K (.ref fServer6) = true)
    (iServer6 : PySem.W.isFn K (.ref fServer6) = true)
    (aServer7 : PySem.W.findIn K (.ref CServer) "answers" = some (some (.ref fServer7)))
    (lServer7 : K.lookup fServer7 = some ⟨ocServer7, odServer7, .func (PySem.W.fnOf "answers" "Server.answers" (defArgs s_Server_answers) (defBody s_Server_answers) (defScope s_Server_answers) .none kVServer7 dcServer7 pmServer7 anServer7 cdServer7 ctServer7), slServer7⟩)
    (cServer7 : PySem.W.codeIn K cdServer7 "Server.answers" = true)
    (kServer7 : PySem.W.keepIn K (.ref fServer7) = true)
    (iServer7 : PySem.W.isFn K (.ref fServer7) = true)
    (aServer8 : PySem.W.findIn K (.ref CServer) "known" = some (some (.ref fServer8)))
    (lServer8 : K.lookup fServer8 = some ⟨ocServer8, odServer8, .func (PySem.W.fnOf "known" "Server.known" (defArgs s_Server_known) (defBody s_Server_known) (defScope s_Server_known) .none kVServer8 dcServer8 pmServer8 anServer8 cdServer8 ctServer8), slServer8⟩)
    (cServer8 : PySem.W.codeIn K cdServer8 "Server.known" = true)
    (kServer8 : PySem.W.keepIn K (.ref fServer8) = true)
    (iServer8 : PySem.W.isFn K (.ref fServer8) = true)
    (aServer9 : PySem.W.findIn K (.ref CServer) "halls" = some (some (.ref fServer9)))
    (lServer9 : K.lookup fServer9 = some ⟨ocServer9, odServer9, .func (PySem.W.fnOf "halls" "Server.halls" (defArgs s_Server_halls) (defBody s_Server_halls) (defScope s_Server_halls) .none kVServer9 dcServer9 pmServer9 anServer9 cdServer9 ctServer9), slServer9⟩)
    (cServer9 : PySem.W.codeIn K cdServer9 "Server.halls" = true)
    (kServer9 : PySem.W.keepIn K (.ref fServer9) = true)
    (iServer9 : PySem.W.isFn K (.ref fServer9) = true)
    (aServer10 : PySem.W.findIn K (.ref CServer) "calls" = some (some (.ref fServer10)))
    (lServer10 : K.lookup fServer10 = some ⟨ocServer10, odServer10, .func (PySem.W.fnOf "calls" "Server.calls" (defArgs s_Server_calls) (defBody s_Server_calls) (defScope s_Server_calls) .none kVServer10 dcServer10 pmServer10 anServer10 cdServer10 ctServer10), slServer10⟩)
    (cServer10 : PySem.W.codeIn K cdServer10 "Server.calls" = true)
    (kServer10 : PySem.W.keepIn K (.ref fServer10) = true)
    (iServer10 : PySem.W.isFn K (.ref fServer10) = true)
    (aServer11 : PySem.W.findIn K (.ref CServer) "doubts" = some (some (.ref fServer11)))
    (lServer11 : K.lookup fServer11 = some ⟨ocServer11, odServer11, .func (PySem.W.fnOf "doubts" "Server.doubts" (defArgs s_Server_doubts) (defBody s_Server_doubts) (defScope s_Server_doubts) .none kVServer11 dcServer11 pmServer11 anServer11 cdServer11 ctServer11), slServer11⟩)
    (cServer11 : PySem.W.codeIn K cdServer11 "Server.doubts" = true)
    (kServer11 : PySem.W.keepIn K (.ref fServer11) = true)
    (iServer11 : PySem.W.isFn K (.ref fServer11) = true)
    (nServerrows : PySem.W.findIn K (.ref CServer) "rows" = some none)
    (nServer_answers : PySem.W.findIn K (.ref CServer) "_answers" = some none)
    (nServer_known : PySem.W.findIn K (.ref CServer) "_known" = some none)
    (saServer : PySem.W.findIn K (.ref CServer) "__setattr__" = some (some (.builtin "object.__setattr__")))
    (kcServer : PySem.W.keepIn K (.ref CServer) = true)
    (hdServer : PySem.W.hasDictIn K CServer = true)
    (pgServer : PySem.W.plainGet K CServer Str.empty = true)
    (poServer : PySem.W.plainOver K CServer = true)
    (miServer : PySem.W.makesIn K CServer = true)
    (eaServer : PySem.W.findIn K (.ref CServer) "__class__" = some (some (.builtin "object.__class__")))
    (emServer : PySem.W.mroIn K CServer (.type "object") = some true)
    (eN : PySem.W.specialIn K (.builtin "object.__class__") "__get__" = some (some (.builtin "getset_descriptor.__get__")))
    (eT : PySem.W.takesIn K (.builtin "object.__class__") = some true)
    (xtoc_Server_Add : OpC K CServer .Add)
    (xtoc_Server_Sub : OpC K CServer .Sub)
    (xtoc_Server_BitOr : OpC K CServer .BitOr)
    (xtns_Server : NotSub K CServer)
    (xtnk_Server : NotKit K CServer)
    (xtom_Server : PySem.W.mroIn K CServer (.type "object") = some true)
    (xton_Server : PySem.W.findIn K (.ref CServer) "__ne__" = some (some (.builtin "object.__ne__")))
    (kiServerServer : PySem.W.kitOne K (.ref CServer) (.ref CServer) = some true)
    (gFIGURES : PySem.W.nsIn K mainGlobals "FIGURES" = some (some (.str "0123456789" tFIGURES)))
    (gLETTERS : PySem.W.nsIn K mainGlobals "LETTERS" = some (some (.str "abcdefghijklmnopqrstuvwxyz" tLETTERS)))
    (gLAST_NAME : PySem.W.nsIn K mainGlobals "LAST_NAME" = some (some (.str "zzzzzzzzzzzz" tLAST_NAME)))
    (btuple : PySem.W.nsIn K mainGlobals "tuple" = some none)
    (ball : PySem.W.nsIn K mainGlobals "all" = some none)
    (brange : PySem.W.nsIn K mainGlobals "range" = some none)
    (bsorted : PySem.W.nsIn K mainGlobals "sorted" = some none)
    (bisinstance : PySem.W.nsIn K mainGlobals "isinstance" = some none)
    (blen : PySem.W.nsIn K mainGlobals "len" = some none)
    (bstr : PySem.W.nsIn K mainGlobals "str" = some none)
    (blist : PySem.W.nsIn K mainGlobals "list" = some none)
    (bset : PySem.W.nsIn K mainGlobals "set" = some none)
    (bint : PySem.W.nsIn K mainGlobals "int" = some none)
    (bmin : PySem.W.nsIn K mainGlobals "min" = some none) :
    LawG l w K 63 mg fa s := by
  have G := TP.g
  have e : f22 = fa := Value.ref.inj (Option.some.inj ((PySem.W.mg_of X G a22).symm.trans hfa))
  subst e
  let T : Txt w K mg := {
    a_wall := f0
    d_wall := (PySem.W.fnOf "_wall" "_wall" (defArgs s_wall) (defBody s_wall) (defScope s_wall) .none kV0 dc0 pm0 an0 cd0 ct0)
    D_wall := ⟨fun_mk (st := s_wall) l0 c0 k0, PySem.W.mg_of X G a0, (fun_mk (x := "_wall") (qual := "_wall") (st := s_wall) l0 c0 k0).binds (ps := ["k"]) fun _ _ _ _ _ _ us hl => match us, hl with | [_], _ => rfl⟩
    a_ascending := f1
    d_ascending := (PySem.W.fnOf "ascending" "ascending" (defArgs s_ascending) (defBody s_ascending) (defScope s_ascending) .none kV1 dc1 pm1 an1 cd1 ct1)
    D_ascending := ⟨fun_mk (st := s_ascending) l1 c1 k1, PySem.W.mg_of X G a1, (fun_mk (x := "ascending") (qual := "ascending") (st := s_ascending) l1 c1 k1).binds (ps := ["names"]) fun _ _ _ _ _ _ us hl => match us, hl with | [_], _ => rfl⟩
    a_is_name := f2
    d_is_name := (PySem.W.fnOf "is_name" "is_name" (defArgs s_is_name) (defBody s_is_name) (defScope s_is_name) .none kV2 dc2 pm2 an2 cd2 ct2)
    D_is_name := ⟨fun_mk (st := s_is_name) l2 c2 k2, PySem.W.mg_of X G a2, (fun_mk (x := "is_name") (qual := "is_name") (st := s_is_name) l2 c2 k2).binds (ps := ["value"]) fun _ _ _ _ _ _ us hl => match us, hl with | [_], _ => rfl⟩
    a_is_row := f3
    d_is_row := (PySem.W.fnOf "is_row" "is_row" (defArgs s_is_row) (defBody s_is_row) (defScope s_is_row) .none kV3 dc3 pm3 an3 cd3 ct3)
    D_is_row := ⟨fun_mk (st := s_is_row) l3 c3 k3, PySem.W.mg_of X G a3, (fun_mk (x := "is_row") (qual := "is_row") (st := s_is_row) l3 c3 k3).binds (ps := ["value"]) fun _ _ _ _ _ _ us hl => match us, hl with | [_], _ => rfl⟩
    a_need_rows := f4
    d_need_rows := (PySem.W.fnOf "need_rows" "need_rows" (defArgs s_need_rows) (defBody s_need_rows) (defScope s_need_rows) .none kV4 dc4 pm4 an4 cd4 ct4)
    D_need_rows := ⟨fun_mk (st := s_need_rows) l4 c4 k4, PySem.W.mg_of X G a4, (fun_mk (x := "need_rows") (qual := "need_rows") (st := s_need_rows) l4 c4 k4).binds (ps := ["rows"]) fun _ _ _ _ _ _ us hl => match us, hl with | [_], _ => rfl⟩
    a_server_text := f5
    d_server_text := (PySem.W.fnOf "server_text" "server_text" (defArgs s_server_text) (defBody s_server_text) (defScope s_server_text) .none kV5 dc5 pm5 an5 cd5 ct5)
    D_server_text := ⟨fun_mk (st := s_server_text) l5 c5 k5, PySem.W.mg_of X G a5, (fun_mk (x := "server_text") (qual := "server_text") (st := s_server_text) l5 c5 k5).binds (ps := ["server"]) fun _ _ _ _ _ _ us hl => match us, hl with | [_], _ => rfl⟩
    a_is_right := f6
    d_is_right := (PySem.W.fnOf "is_right" "is_right" (defArgs s_is_right) (defBody s_is_right) (defScope s_is_right) .none kV6 dc6 pm6 an6 cd6 ct6)
    D_is_right := ⟨fun_mk (st := s_is_right) l6 c6 k6, PySem.W.mg_of X G a6, (fun_mk (x := "is_right") (qual := "is_right") (st := s_is_right) l6 c6 k6).binds (ps := ["last", "begin", "word"]) fun _ _ _ _ _ _ us hl => match us, hl with | [_, _, _], _ => rfl⟩
    a_read_row := f7
    d_read_row := (PySem.W.fnOf "read_row" "read_row" (defArgs s_read_row) (defBody s_read_row) (defScope s_read_row) .none kV7 dc7 pm7 an7 cd7 ct7)
    D_read_row := ⟨fun_mk (st := s_read_row) l7 c7 k7, PySem.W.mg_of X G a7, (fun_mk (x := "read_row") (qual := "read_row") (st := s_read_row) l7 c7 k7).binds (ps := ["words", "line", "last"]) fun _ _ _ _ _ _ us hl => match us, hl with | [_, _, _], _ => rfl⟩
    a_server_read := f8
    d_server_read := (PySem.W.fnOf "server_read" "server_read" (defArgs s_server_read) (defBody s_server_read) (defScope s_server_read) .none kV8 dc8 pm8 an8 cd8 ct8)
    D_server_read := ⟨fun_mk (st := s_server_read) l8 c8 k8, PySem.W.mg_of X G a8, (fun_mk (x := "server_read") (qual := "server_read") (st := s_server_read) l8 c8 k8).binds (ps := ["text"]) fun _ _ _ _ _ _ us hl => match us, hl with | [_], _ => rfl⟩
    a_law_pen := f9
    d_law_pen := (PySem.W.fnOf "_law_pen" "_law_pen" (defArgs s_law_pen) (defBody s_law_pen) (defScope s_law_pen) .none kV9 dc9 pm9 an9 cd9 ct9)
    D_law_pen := ⟨fun_mk (st := s_law_pen) l9 c9 k9, PySem.W.mg_of X G a9, (fun_mk (x := "_law_pen") (qual := "_law_pen") (st := s_law_pen) l9 c9 k9).binds (ps := ["script"]) fun _ _ _ _ _ _ us hl => match us, hl with | [_], _ => rfl⟩
    a_law_draw := f10
    d_law_draw := (PySem.W.fnOf "_law_draw" "_law_draw" (defArgs s_law_draw) (defBody s_law_draw) (defScope s_law_draw) .none kV10 dc10 pm10 an10 cd10 ct10)
    D_law_draw := ⟨fun_mk (st := s_law_draw) l10 c10 k10, PySem.W.mg_of X G a10, (fun_mk (x := "_law_draw") (qual := "_law_draw") (st := s_law_draw) l10 c10 k10).binds (ps := ["pen", "many"]) fun _ _ _ _ _ _ us hl => match us, hl with | [_, _], _ => rfl⟩
    a_law_pick := f11
    d_law_pick := (PySem.W.fnOf "_law_pick" "_law_pick" (defArgs s_law_pick) (defBody s_law_pick) (defScope s_law_pick) .none kV11 dc11 pm11 an11 cd11 ct11)
    D_law_pick := ⟨fun_mk (st := s_law_pick) l11 c11 k11, PySem.W.mg_of X G a11, (fun_mk (x := "_law_pick") (qual := "_law_pick") (st := s_law_pick) l11 c11 k11).binds (ps := ["pen", "some"]) fun _ _ _ _ _ _ us hl => match us, hl with | [_, _], _ => rfl⟩
    a_law_shuffled := f12
    d_law_shuffled := (PySem.W.fnOf "_law_shuffled" "_law_shuffled" (defArgs s_law_shuffled) (defBody s_law_shuffled) (defScope s_law_shuffled) .none kV12 dc12 pm12 an12 cd12 ct12)
    D_law_shuffled := ⟨fun_mk (st := s_law_shuffled) l12 c12 k12, PySem.W.mg_of X G a12, (fun_mk (x := "_law_shuffled") (qual := "_law_shuffled") (st := s_law_shuffled) l12 c12 k12).binds (ps := ["pen", "some"]) fun _ _ _ _ _ _ us hl => match us, hl with | [_, _], _ => rfl⟩
    a_law_some := f13
    d_law_some := (PySem.W.fnOf "_law_some" "_law_some" (defArgs s_law_some) (defBody s_law_some) (defScope s_law_some) .none kV13 dc13 pm13 an13 cd13 ct13)
    D_law_some := ⟨fun_mk (st := s_law_some) l13 c13 k13, PySem.W.mg_of X G a13, (fun_mk (x := "_law_some") (qual := "_law_some") (st := s_law_some) l13 c13 k13).binds (ps := ["pen", "some", "most"]) fun _ _ _ _ _ _ us hl => match us, hl with | [_, _, _], _ => rfl⟩
    a_law_name := f14
    d_law_name := (PySem.W.fnOf "_law_name" "_law_name" (defArgs s_law_name) (defBody s_law_name) (defScope s_law_name) .none kV14 dc14 pm14 an14 cd14 ct14)
    D_law_name := ⟨fun_mk (st := s_law_name) l14 c14 k14, PySem.W.mg_of X G a14, (fun_mk (x := "_law_name") (qual := "_law_name") (st := s_law_name) l14 c14 k14).binds (ps := ["pen", "index"]) fun _ _ _ _ _ _ us hl => match us, hl with | [_, _], _ => rfl⟩
    a_law_names := f15
    d_law_names := (PySem.W.fnOf "_law_names" "_law_names" (defArgs s_law_names) (defBody s_law_names) (defScope s_law_names) .none kV15 dc15 pm15 an15 cd15 ct15)
    D_law_names := ⟨fun_mk (st := s_law_names) l15 c15 k15, PySem.W.mg_of X G a15, (fun_mk (x := "_law_names") (qual := "_law_names") (st := s_law_names) l15 c15 k15).binds (ps := ["pen", "many"]) fun _ _ _ _ _ _ us hl => match us, hl with | [_, _], _ => rfl⟩
    a_law_server_of := f16
    d_law_server_of := (PySem.W.fnOf "_law_server_of" "_law_server_of" (defArgs s_law_server_of) (defBody s_law_server_of) (defScope s_law_server_of) .none kV16 dc16 pm16 an16 cd16 ct16)
    D_law_server_of := ⟨fun_mk (st := s_law_server_of) l16 c16 k16, PySem.W.mg_of X G a16, (fun_mk (x := "_law_server_of") (qual := "_law_server_of") (st := s_law_server_of) l16 c16 k16).binds (ps := ["rows"]) fun _ _ _ _ _ _ us hl => match us, hl with | [_], _ => rfl⟩
    a_law_some_server := f17
    d_law_some_server := (PySem.W.fnOf "_law_some_server" "_law_some_server" (defArgs s_law_some_server) (defBody s_law_some_server) (defScope s_law_some_server) .none kV17 dc17 pm17 an17 cd17 ct17)
    D_law_some_server := ⟨fun_mk (st := s_law_some_server) l17 c17 k17, PySem.W.mg_of X G a17, (fun_mk (x := "_law_some_server") (qual := "_law_some_server") (st := s_law_some_server) l17 c17 k17).binds (ps := ["pen", "calls", "places", "share"]) fun _ _ _ _ _ _ us hl => match us, hl with | [_, _, _, _], _ => rfl⟩
    a_law_is_name := f18
    d_law_is_name := (PySem.W.fnOf "_law_is_name" "_law_is_name" (defArgs s_law_is_name) (defBody s_law_is_name) (defScope s_law_is_name) .none kV18 dc18 pm18 an18 cd18 ct18)
    D_law_is_name := ⟨fun_mk (st := s_law_is_name) l18 c18 k18, PySem.W.mg_of X G a18, (fun_mk (x := "_law_is_name") (qual := "_law_is_name") (st := s_law_is_name) l18 c18 k18).binds (ps := ["value"]) fun _ _ _ _ _ _ us hl => match us, hl with | [_], _ => rfl⟩
    a_law_wrong_word := f19
    d_law_wrong_word := (PySem.W.fnOf "_law_wrong_word" "_law_wrong_word" (defArgs s_law_wrong_word) (defBody s_law_wrong_word) (defScope s_law_wrong_word) .none kV19 dc19 pm19 an19 cd19 ct19)
    D_law_wrong_word := ⟨fun_mk (st := s_law_wrong_word) l19 c19 k19, PySem.W.mg_of X G a19, (fun_mk (x := "_law_wrong_word") (qual := "_law_wrong_word") (st := s_law_wrong_word) l19 c19 k19).binds (ps := ["words", "last"]) fun _ _ _ _ _ _ us hl => match us, hl with | [_, _], _ => rfl⟩
    a_law_wrong_place := f20
    d_law_wrong_place := (PySem.W.fnOf "_law_wrong_place" "_law_wrong_place" (defArgs s_law_wrong_place) (defBody s_law_wrong_place) (defScope s_law_wrong_place) .none kV20 dc20 pm20 an20 cd20 ct20)
    D_law_wrong_place := ⟨fun_mk (st := s_law_wrong_place) l20 c20 k20, PySem.W.mg_of X G a20, (fun_mk (x := "_law_wrong_place") (qual := "_law_wrong_place") (st := s_law_wrong_place) l20 c20 k20).binds (ps := ["text"]) fun _ _ _ _ _ _ us hl => match us, hl with | [_], _ => rfl⟩
    a_law_bent := f21
    d_law_bent := (PySem.W.fnOf "_law_bent" "_law_bent" (defArgs s_law_bent) (defBody s_law_bent) (defScope s_law_bent) .none kV21 dc21 pm21 an21 cd21 ct21)
    D_law_bent := ⟨fun_mk (st := s_law_bent) l21 c21 k21, PySem.W.mg_of X G a21, (fun_mk (x := "_law_bent") (qual := "_law_bent") (st := s_law_bent) l21 c21 k21).binds (ps := ["pen", "text"]) fun _ _ _ _ _ _ us hl => match us, hl with | [_, _], _ => rfl⟩
    a_law := f22
    d_law := (PySem.W.fnOf "law" "law" (defArgs s_law) (defBody s_law) (defScope s_law) .none kV22 dc22 pm22 an22 cd22 ct22)
    D_law := ⟨fun_mk (st := s_law) l22 c22 k22, PySem.W.mg_of X G a22, (fun_mk (x := "law") (qual := "law") (st := s_law) l22 c22 k22).binds (ps := ["script"]) fun _ _ _ _ _ _ us hl => match us, hl with | [_], _ => rfl⟩
    C_AgainError := CAgainError
    g_AgainError := PySem.W.mg_of X G gAgainError
    ox_AgainError := ⟨xlAgainError, saAgainError, exAgainError, tyAgainError, kcAgainError⟩
    xf_AgainError := ⟨gaAgainError, ggAgainError, exAgainError, hdAgainError⟩
    sb_AgainError := sbAgainError
    C_BadText := CBadText
    g_BadText := PySem.W.mg_of X G gBadText
    a_BadText___init__ := fBadText0
    d_BadText___init__ := (PySem.W.fnOf "__init__" "BadText.__init__" (defArgs s_BadText___init__) (defBody s_BadText___init__) (defScope s_BadText___init__) .none kVBadText0 dcBadText0 pmBadText0 anBadText0 cdBadText0 ctBadText0)
    D_BadText___init__ := ⟨fun_mk (st := s_BadText___init__) lBadText0 cBadText0 kBadText0, (fun_mk (x := "__init__") (qual := "BadText.__init__") (st := s_BadText___init__) lBadText0 cBadText0 kBadText0).binds (ps := ["self", "line", "word"]) fun _ _ _ _ _ _ us hl => match us, hl with | [_, _, _], _ => rfl⟩
    ic_BadText := aBadText0
    ti_BadText := tBadText0
    na_BadText_line := nBadTextline
    na_BadText_word := nBadTextword
    ox_BadText := ⟨xlBadText, saBadText, exBadText, tyBadText, kcBadText⟩
    xf_BadText := ⟨gaBadText, ggBadText, exBadText, hdBadText⟩
    sb_BadText := sbBadText
    C_BadRow := CBadRow
    g_BadRow := PySem.W.mg_of X G gBadRow
    a_BadRow___init__ := fBadRow0
    d_BadRow___init__ := (PySem.W.fnOf "__init__" "BadRow.__init__" (defArgs s_BadRow___init__) (defBody s_BadRow___init__) (defScope s_BadRow___init__) .none kVBadRow0 dcBadRow0 pmBadRow0 anBadRow0 cdBadRow0 ctBadRow0)
    D_BadRow___init__ := ⟨fun_mk (st := s_BadRow___init__) lBadRow0 cBadRow0 kBadRow0, (fun_mk (x := "__init__") (qual := "BadRow.__init__") (st := s_BadRow___init__) lBadRow0 cBadRow0 kBadRow0).binds (ps := ["self", "what", "row"]) fun _ _ _ _ _ _ us hl => match us, hl with | [_, _, _], _ => rfl⟩
    ic_BadRow := aBadRow0
    ti_BadRow := tBadRow0
    na_BadRow_what := nBadRowwhat
    na_BadRow_row := nBadRowrow
    ox_BadRow := ⟨xlBadRow, saBadRow, exBadRow, tyBadRow, kcBadRow⟩
    xf_BadRow := ⟨gaBadRow, ggBadRow, exBadRow, hdBadRow⟩
    sb_BadRow := sbBadRow
    C_Server := CServer
    g_Server := PySem.W.mg_of X G gServer
    a_Server___init__ := fServer0
    d_Server___init__ := (PySem.W.fnOf "__init__" "Server.__init__" (defArgs s_Server___init__) (defBody s_Server___init__) (defScope s_Server___init__) .none kVServer0 dcServer0 pmServer0 anServer0 cdServer0 ctServer0)
    D_Server___init__ := ⟨fun_mk (st := s_Server___init__) lServer0 cServer0 kServer0, (fun_mk (x := "__init__") (qual := "Server.__init__") (st := s_Server___init__) lServer0 cServer0 kServer0).binds (ps := ["self", "rows"]) fun _ _ _ _ _ _ us hl => match us, hl with | [_, _], _ => rfl⟩
    mk_Server := ⟨miServer, aServer0, iServer0, kcServer⟩
    a_Server___eq__ := fServer1
    d_Server___eq__ := (PySem.W.fnOf "__eq__" "Server.__eq__" (defArgs s_Server___eq__) (defBody s_Server___eq__) (defScope s_Server___eq__) .none kVServer1 dcServer1 pmServer1 anServer1 cdServer1 ctServer1)
    D_Server___eq__ := ⟨fun_mk (st := s_Server___eq__) lServer1 cServer1 kServer1, (fun_mk (x := "__eq__") (qual := "Server.__eq__") (st := s_Server___eq__) lServer1 cServer1 kServer1).binds (ps := ["self", "other"]) fun _ _ _ _ _ _ us hl => match us, hl with | [_, _], _ => rfl⟩
    mt_Server___eq__ := ⟨aServer1, iServer1, kServer1⟩
    a_Server___len__ := fServer2
    d_Server___len__ := (PySem.W.fnOf "__len__" "Server.__len__" (defArgs s_Server___len__) (defBody s_Server___len__) (defScope s_Server___len__) .none kVServer2 dcServer2 pmServer2 anServer2 cdServer2 ctServer2)
    D_Server___len__ := ⟨fun_mk (st := s_Server___len__) lServer2 cServer2 kServer2, (fun_mk (x := "__len__") (qual := "Server.__len__") (st := s_Server___len__) lServer2 cServer2 kServer2).binds (ps := ["self"]) fun _ _ _ _ _ _ us hl => match us, hl with | [_], _ => rfl⟩
    mt_Server___len__ := ⟨aServer2, iServer2, kServer2⟩
    a_Server___contains__ := fServer3
    d_Server___contains__ := (PySem.W.fnOf "__contains__" "Server.__contains__" (defArgs s_Server___contains__) (defBody s_Server___contains__) (defScope s_Server___contains__) .none kVServer3 dcServer3 pmServer3 anServer3 cdServer3 ctServer3)
    D_Server___contains__ := ⟨fun_mk (st := s_Server___contains__) lServer3 cServer3 kServer3, (fun_mk (x := "__contains__") (qual := "Server.__contains__") (st := s_Server___contains__) lServer3 cServer3 kServer3).binds (ps := ["self", "row"]) fun _ _ _ _ _ _ us hl => match us, hl with | [_, _], _ => rfl⟩
    mt_Server___contains__ := ⟨aServer3, iServer3, kServer3⟩
    a_Server___add__ := fServer4
    d_Server___add__ := (PySem.W.fnOf "__add__" "Server.__add__" (defArgs s_Server___add__) (defBody s_Server___add__) (defScope s_Server___add__) .none kVServer4 dcServer4 pmServer4 anServer4 cdServer4 ctServer4)
    D_Server___add__ := ⟨fun_mk (st := s_Server___add__) lServer4 cServer4 kServer4, (fun_mk (x := "__add__") (qual := "Server.__add__") (st := s_Server___add__) lServer4 cServer4 kServer4).binds (ps := ["self", "row"]) fun _ _ _ _ _ _ us hl => match us, hl with | [_, _], _ => rfl⟩
    mt_Server___add__ := ⟨aServer4, iServer4, kServer4⟩
    a_Server___sub__ := fServer5
    d_Server___sub__ := (PySem.W.fnOf "__sub__" "Server.__sub__" (defArgs s_Server___sub__) (defBody s_Server___sub__) (defScope s_Server___sub__) .none kVServer5 dcServer5 pmServer5 anServer5 cdServer5 ctServer5)
    D_Server___sub__ := ⟨fun_mk (st := s_Server___sub__) lServer5 cServer5 kServer5, (fun_mk (x := "__sub__") (qual := "Server.__sub__") (st := s_Server___sub__) lServer5 cServer5 kServer5).binds (ps := ["self", "row"]) fun _ _ _ _ _ _ us hl => match us, hl with | [_, _], _ => rfl⟩
    mt_Server___sub__ := ⟨aServer5, iServer5, kServer5⟩
    a_Server___or__ := fServer6
    d_Server___or__ := (PySem.W.fnOf "__or__" "Server.__or__" (defArgs s_Server___or__) (defBody s_Server___or__) (defScope s_Server___or__) .none kVServer6 dcServer6 pmServer6 anServer6 cdServer6 ctServer6)
    D_Server___or__ := ⟨fun_mk (st := s_Server___or__) lServer6 cServer6 kServer6, (fun_mk (x := "__or__") (qual := "Server.__or__") (st := s_Server___or__) lServer6 cServer6 kServer6).binds (ps := ["self", "other"]) fun _ _ _ _ _ _ us hl => match us, hl with | [_, _], _ => rfl⟩
    mt_Server___or__ := ⟨aServer6, iServer6, kServer6⟩
    a_Server_answers := fServer7
    d_Server_answers := (PySem.W.fnOf "answers" "Server.answers" (defArgs s_Server_answers) (defBody s_Server_answers) (defScope s_Server_answers) .none kVServer7 dcServer7 pmServer7 anServer7 cdServer7 ctServer7)
    D_Server_answers := ⟨fun_mk (st := s_Server_answers) lServer7 cServer7 kServer7, (fun_mk (x := "answers") (qual := "Server.answers") (st := s_Server_answers) lServer7 cServer7 kServer7).binds (ps := ["self", "hall", "call"]) fun _ _ _ _ _ _ us hl => match us, hl with | [_, _, _], _ => rfl⟩
    mt_Server_answers := ⟨aServer7, iServer7, kServer7⟩
    a_Server_known := fServer8
    d_Server_known := (PySem.W.fnOf "known" "Server.known" (defArgs s_Server_known) (defBody s_Server_known) (defScope s_Server_known) .none kVServer8 dcServer8 pmServer8 anServer8 cdServer8 ctServer8)
    D_Server_known := ⟨fun_mk (st := s_Server_known) lServer8 cServer8 kServer8, (fun_mk (x := "known") (qual := "Server.known") (st := s_Server_known) lServer8 cServer8 kServer8).binds (ps := ["self", "hall"]) fun _ _ _ _ _ _ us hl => match us, hl with | [_, _], _ => rfl⟩
    mt_Server_known := ⟨aServer8, iServer8, kServer8⟩
    a_Server_halls := fServer9
    d_Server_halls := (PySem.W.fnOf "halls" "Server.halls" (defArgs s_Server_halls) (defBody s_Server_halls) (defScope s_Server_halls) .none kVServer9 dcServer9 pmServer9 anServer9 cdServer9 ctServer9)
    D_Server_halls := ⟨fun_mk (st := s_Server_halls) lServer9 cServer9 kServer9, (fun_mk (x := "halls") (qual := "Server.halls") (st := s_Server_halls) lServer9 cServer9 kServer9).binds (ps := ["self"]) fun _ _ _ _ _ _ us hl => match us, hl with | [_], _ => rfl⟩
    mt_Server_halls := ⟨aServer9, iServer9, kServer9⟩
    a_Server_calls := fServer10
    d_Server_calls := (PySem.W.fnOf "calls" "Server.calls" (defArgs s_Server_calls) (defBody s_Server_calls) (defScope s_Server_calls) .none kVServer10 dcServer10 pmServer10 anServer10 cdServer10 ctServer10)
    D_Server_calls := ⟨fun_mk (st := s_Server_calls) lServer10 cServer10 kServer10, (fun_mk (x := "calls") (qual := "Server.calls") (st := s_Server_calls) lServer10 cServer10 kServer10).binds (ps := ["self"]) fun _ _ _ _ _ _ us hl => match us, hl with | [_], _ => rfl⟩
    mt_Server_calls := ⟨aServer10, iServer10, kServer10⟩
    a_Server_doubts := fServer11
    d_Server_doubts := (PySem.W.fnOf "doubts" "Server.doubts" (defArgs s_Server_doubts) (defBody s_Server_doubts) (defScope s_Server_doubts) .none kVServer11 dcServer11 pmServer11 anServer11 cdServer11 ctServer11)
    D_Server_doubts := ⟨fun_mk (st := s_Server_doubts) lServer11 cServer11 kServer11, (fun_mk (x := "doubts") (qual := "Server.doubts") (st := s_Server_doubts) lServer11 cServer11 kServer11).binds (ps := ["self"]) fun _ _ _ _ _ _ us hl => match us, hl with | [_], _ => rfl⟩
    mt_Server_doubts := ⟨aServer11, iServer11, kServer11⟩
    na_Server_rows := nServerrows
    na_Server__answers := nServer_answers
    na_Server__known := nServer_known
    cl_Server := ⟨pgServer, hdServer, poServer, saServer⟩
    ty_Server := fun H a dx fs e => .ins e ⟨pgServer, hdServer, poServer, saServer⟩ eaServer eN eT emServer
    oc_Server_Add := xtoc_Server_Add
    oc_Server_Sub := xtoc_Server_Sub
    oc_Server_BitOr := xtoc_Server_BitOr
    ns_Server := xtns_Server
    nk_Server := xtnk_Server
    om_Server := xtom_Server
    on_Server := xton_Server
    ki_Server_Server := kiServerServer
    t_FIGURES := tFIGURES
    g_FIGURES := PySem.W.mg_of X G gFIGURES
    t_LETTERS := tLETTERS
    g_LETTERS := PySem.W.mg_of X G gLETTERS
    t_LAST_NAME := tLAST_NAME
    g_LAST_NAME := PySem.W.mg_of X G gLAST_NAME
    b_tuple := PySem.W.mg_none_of X G btuple
    b_all := PySem.W.mg_none_of X G ball
    b_range := PySem.W.mg_none_of X G brange
    b_sorted := PySem.W.mg_none_of X G bsorted
    b_isinstance := PySem.W.mg_none_of X G bisinstance
    b_len := PySem.W.mg_none_of X G blen
    b_str := PySem.W.mg_none_of X G bstr
    b_list := PySem.W.mg_none_of X G blist
    b_set := PySem.W.mg_none_of X G bset
    b_int := PySem.W.mg_none_of X G bint
    b_min := PySem.W.mg_none_of X G bmin }
  exact ⟨[], fun p hp => (nomatch hp), fun p hp => (nomatch hp), fun p hp => (nomatch hp), fun a ns base H hl _ _ _ hTB hT hs e0 => law_runs T hs hl e0⟩
end Ag
open PySem PySem.W PyProof.Rows in
set_option maxRecDepth 100000 in
set_option maxHeartbeats 0 in
theorem PySem.Challenge.cw_againnotes_k22_whole_first_wrong_places_holds : PySem.Challenge.rw_againnotes_k22_whole_first_wrong_places.Holds := by
  w_on; o_law; k_head; (case hw => w_witness2)
  k_fill
  refine Ag.walk_G (l := PySem.Challenge.rw_againnotes_k22_whole_first_wrong_places) (n := 63) rfl (by decide) rfl (fun w h Y => PySem.W.kIn_of Y) ?F
  case F =>
    intro w mg mb fa s mean TP KX hmg
    refine' Ag.all_mk TP KX hmg ?a0 ?l0 ?c0 ?k0 ?a1 ?l1 ?c1 ?k1 ?a2 ?l2 ?c2 ?k2 ?a3 ?l3 ?c3 ?k3 ?a4 ?l4 ?c4 ?k4 ?a5 ?l5 ?c5 ?k5 ?a6 ?l6 ?c6 ?k6 ?a7 ?l7 ?c7 ?k7 ?a8 ?l8 ?c8 ?k8 ?a9 ?l9 ?c9 ?k9 ?a10 ?l10 ?c10 ?k10 ?a11 ?l11 ?c11 ?k11 ?a12 ?l12 ?c12 ?k12 ?a13 ?l13 ?c13 ?k13 ?a14 ?l14 ?c14 ?k14 ?a15 ?l15 ?c15 ?k15 ?a16 ?l16 ?c16 ?k16 ?a17 ?l17 ?c17 ?k17 ?a18 ?l18 ?c18 ?k18 ?a19 ?l19 ?c19 ?k19 ?a20 ?l20 ?c20 ?k20 ?a21 ?l21 ?c21 ?k21 ?a22 ?l22 ?c22 ?k22 ?gAgainError ?saAgainError ?kcAgainError ?hdAgainError ?gaAgainError ?ggAgainError ?exAgainError ?tyAgainError ?sbAgainError ?xlAgainError ?gBadText ?aBadText0 ?lBadText0 ?cBadText0 ?kBadText0 ?tBadText0 ?nBadTextline ?nBadTextword ?saBadText ?kcBadText ?hdBadText ?gaBadText ?ggBadText ?exBadText ?tyBadText ?sbBadText ?xlBadText ?gBadRow ?aBadRow0 ?lBadRow0 ?cBadRow0 ?kBadRow0 ?tBadRow0 ?nBadRowwhat ?nBadRowrow ?saBadRow ?kcBadRow ?hdBadRow ?gaBadRow ?ggBadRow ?exBadRow ?tyBadRow ?sbBadRow ?xlBadRow ?gServer ?aServer0 ?lServer0 ?cServer0 ?kServer0 ?iServer0 ?aServer1 ?lServer1 ?cServer1 ?kServer1 ?iServer1 ?aServer2 ?lServer2 ?cServer2 ?kServer2 ?iServer2 ?aServer3 ?lServer3 ?cServer3 ?kServer3 ?iServer3 ?aServer4 ?lServer4 ?cServer4 ?kServer4 ?iServer4 ?aServer5 ?lServer5 ?cServer5 ?kServer5 ?iServer5 ?aServer6 ?lServer6 ?cServer6 ?kServer6 ?iServer6 ?aServer7 ?lServer7 ?cServer7 ?kServer7 ?iServer7 ?aServer8 ?lServer8 ?cServer8 ?kServer8 ?iServer8 ?aServer9 ?lServer9 ?cServer9 ?kServer9 ?iServer9 ?aServer10 ?lServer10 ?cServer10 ?kServer10 ?iServer10 ?aServer11 ?lServer11 ?cServer11 ?kServer11 ?iServer11 ?nServerrows ?nServer_answers ?nServer_known ?saServer ?kcServer ?hdServer ?pgServer ?poServer ?miServer ?eaServer ?emServer ?eN ?eT ?xtoc_Server_Add ?xtoc_Server_Sub ?xtoc_Server_BitOr ?xtns_Server ?xtnk_Server ?xtom_Server ?xton_Server ?kiServerServer ?gFIGURES ?gLETTERS ?gLAST_NAME ?btuple ?ball ?brange ?bsorted ?bisinstance ?blen ?bstr ?blist ?bset ?bint ?bmin
    (case a0 => k_is)
    (case l0 => k_is)
    (case c0 => k_is)
    (case k0 => k_is)
    (case a1 => k_is)
    (case l1 => k_is)
    (case c1 => k_is)
    (case k1 => k_is)
    (case a2 => k_is)
    (case l2 => k_is)
    (case c2 => k_is)
    (case k2 => k_is)
    (case a3 => k_is)
    (case l3 => k_is)
    (case c3 => k_is)
    (case k3 => k_is)
    (case a4 => k_is)
    (case l4 => k_is)
    (case c4 => k_is)
    (case k4 => k_is)
    (case a5 => k_is)
    (case l5 => k_is)
    (case c5 => k_is)
    (case k5 => k_is)
    (case a6 => k_is)
    (case l6 => k_is)
    (case c6 => k_is)
    (case k6 => k_is)
    (case a7 => k_is)
    (case l7 => k_is)
    (case c7 => k_is)
    (case k7 => k_is)
    (case a8 => k_is)
    (case l8 => k_is)
    (case c8 => k_is)
    (case k8 => k_is)
    (case a9 => k_is)
    (case l9 => k_is)
    (case c9 => k_is)
    (case k9 => k_is)
    (case a10 => k_is)
    (case l10 => k_is)
    (case c10 => k_is)
    (case k10 => k_is)
    (case a11 => k_is)
    (case l11 => k_is)
    (case c11 => k_is)
    (case k11 => k_is)
    (case a12 => k_is)
    (case l12 => k_is)
    (case c12 => k_is)
    (case k12 => k_is)
    (case a13 => k_is)
    (case l13 => k_is)
    (case c13 => k_is)
    (case k13 => k_is)
    (case a14 => k_is)
    (case l14 => k_is)
    (case c14 => k_is)
    (case k14 => k_is)
    (case a15 => k_is)
    (case l15 => k_is)
    (case c15 => k_is)
    (case k15 => k_is)
    (case a16 => k_is)
    (case l16 => k_is)
    (case c16 => k_is)
    (case k16 => k_is)
    (case a17 => k_is)
    (case l17 => k_is)
    (case c17 => k_is)
    (case k17 => k_is)
    (case a18 => k_is)
    (case l18 => k_is)
    (case c18 => k_is)
    (case k18 => k_is)
    (case a19 => k_is)
    (case l19 => k_is)
    (case c19 => k_is)
    (case k19 => k_is)
    (case a20 => k_is)
    (case l20 => k_is)
    (case c20 => k_is)
    (case k20 => k_is)
    (case a21 => k_is)
    (case l21 => k_is)
    (case c21 => k_is)
    (case k21 => k_is)
    (case a22 => k_is)
    (case l22 => k_is)
    (case c22 => k_is)
    (case k22 => k_is)
    (case gAgainError => k_is)
    (case saAgainError => k_is)
    (case kcAgainError => k_is)
    (case hdAgainError => k_is)
    (case gaAgainError => k_is)
    (case ggAgainError => k_is)
    (case exAgainError => k_is)
    (case tyAgainError => k_is)
    (case sbAgainError => k_is)
    (case xlAgainError => exact ⟨_, _, _, _, _, _, _, _, _, _, _, _, _, _, _, by k_is, by rfl⟩)
    (case gBadText => k_is)
    (case aBadText0 => k_is)
    (case lBadText0 => k_is)
    (case cBadText0 => k_is)
    (case kBadText0 => k_is)
    (case tBadText0 => k_is)
    (case nBadTextline => k_is)
    (case nBadTextword => k_is)
    (case saBadText => k_is)
    (case kcBadText => k_is)
    (case hdBadText => k_is)
    (case gaBadText => k_is)
    (case ggBadText => k_is)
    (case exBadText => k_is)
    (case tyBadText => k_is)
    (case sbBadText => k_is)
    (case xlBadText => exact ⟨_, _, _, _, _, _, _, _, _, _, _, _, _, _, _, by k_is, by rfl⟩)
    (case gBadRow => k_is)
    (case aBadRow0 => k_is)
    (case lBadRow0 => k_is)
    (case cBadRow0 => k_is)
    (case kBadRow0 => k_is)
    (case tBadRow0 => k_is)
    (case nBadRowwhat => k_is)
    (case nBadRowrow => k_is)
    (case saBadRow => k_is)
    (case kcBadRow => k_is)
    (case hdBadRow => k_is)
    (case gaBadRow => k_is)
    (case ggBadRow => k_is)
    (case exBadRow => k_is)
    (case tyBadRow => k_is)
    (case sbBadRow => k_is)
    (case xlBadRow => exact ⟨_, _, _, _, _, _, _, _, _, _, _, _, _, _, _, by k_is, by rfl⟩)
    (case gServer => k_is)
    (case aServer0 => k_is)
    (case lServer0 => k_is)
    (case cServer0 => k_is)
    (case kServer0 => k_is)
    (case iServer0 => k_is)
    (case aServer1 => k_is)
    (case lServer1 => k_is)
    (case cServer1 => k_is)
    (case kServer1 => k_is)
    (case iServer1 => k_is)
    (case aServer2 => k_is)
    (case lServer2 => k_is)
    (case cServer2 => k_is)
    (case kServer2 => k_is)
    (case iServer2 => k_is)
    (case aServer3 => k_is)
    (case lServer3 => k_is)
    (case cServer3 => k_is)
    (case kServer3 => k_is)
    (case iServer3 => k_is)
    (case aServer4 => k_is)
    (case lServer4 => k_is)
    (case cServer4 => k_is)
    (case kServer4 => k_is)
    (case iServer4 => k_is)
    (case aServer5 => k_is)
    (case lServer5 => k_is)
    (case cServer5 => k_is)
    (case kServer5 => k_is)
    (case iServer5 => k_is)
    (case aServer6 => k_is)
    (case lServer6 => k_is)
    (case cServer6 => k_is)
    (case kServer6 => k_is)
    (case iServer6 => k_is)
    (case aServer7 => k_is)
    (case lServer7 => k_is)
    (case cServer7 => k_is)
    (case kServer7 => k_is)
    (case iServer7 => k_is)
    (case aServer8 => k_is)
    (case lServer8 => k_is)
    (case cServer8 => k_is)
    (case kServer8 => k_is)
    (case iServer8 => k_is)
    (case aServer9 => k_is)
    (case lServer9 => k_is)
    (case cServer9 => k_is)
    (case kServer9 => k_is)
    (case iServer9 => k_is)
    (case aServer10 => k_is)
    (case lServer10 => k_is)
    (case cServer10 => k_is)
    (case kServer10 => k_is)
    (case iServer10 => k_is)
    (case aServer11 => k_is)
    (case lServer11 => k_is)
    (case cServer11 => k_is)
    (case kServer11 => k_is)
    (case iServer11 => k_is)
    (case nServerrows => k_is)
    (case nServer_answers => k_is)
    (case nServer_known => k_is)
    (case saServer => k_is)
    (case kcServer => k_is)
    (case hdServer => k_is)
    (case pgServer => k_is)
    (case poServer => k_is)
    (case miServer => k_is)
    (case eaServer => k_is)
    (case emServer => k_is)
    (case eN => k_is)
    (case eT => k_is)
    (case xtoc_Server_Add => refine ⟨by k_is, ⟨_, by k_is, by first | exact .inl rfl | exact .inr ⟨_, rfl⟩⟩, ?_⟩; intro T hT; simp only [Ag.tyNames, List.mem_cons, List.not_mem_nil, or_false] at hT; rcases hT with rfl | rfl | rfl | rfl | rfl | rfl <;> exact ⟨_, _, by k_is, by k_is, by k_is⟩)
    (case xtoc_Server_Sub => refine ⟨by k_is, ⟨_, by k_is, by first | exact .inl rfl | exact .inr ⟨_, rfl⟩⟩, ?_⟩; intro T hT; simp only [Ag.tyNames, List.mem_cons, List.not_mem_nil, or_false] at hT; rcases hT with rfl | rfl | rfl | rfl | rfl | rfl <;> exact ⟨_, _, by k_is, by k_is, by k_is⟩)
    (case xtoc_Server_BitOr => refine ⟨by k_is, ⟨_, by k_is, by first | exact .inl rfl | exact .inr ⟨_, rfl⟩⟩, ?_⟩; intro T hT; simp only [Ag.tyNames, List.mem_cons, List.not_mem_nil, or_false] at hT; rcases hT with rfl | rfl | rfl | rfl | rfl | rfl <;> exact ⟨_, _, by k_is, by k_is, by k_is⟩)
    (case xtns_Server => intro T hT; simp only [Ag.tyNames, List.mem_cons, List.not_mem_nil, or_false] at hT; rcases hT with rfl | rfl | rfl | rfl | rfl | rfl <;> k_is)
    (case xtnk_Server => intro T hT; simp only [Ag.tyNames, List.mem_cons, List.not_mem_nil, or_false] at hT; rcases hT with rfl | rfl | rfl | rfl | rfl | rfl <;> kernel_rfl)
    (case xtom_Server => k_is)
    (case xton_Server => k_is)
    (case kiServerServer => kernel_rfl)
    (case gFIGURES => k_is)
    (case gLETTERS => k_is)
    (case gLAST_NAME => k_is)
    (case btuple => k_is)
    (case ball => k_is)
    (case brange => k_is)
    (case bsorted => k_is)
    (case bisinstance => k_is)
    (case blen => k_is)
    (case bstr => k_is)
    (case blist => k_is)
    (case bset => k_is)
    (case bint => k_is)
    (case bmin => k_is)
#print axioms PySem.Challenge.cw_againnotes_k22_whole_first_wrong_places_holds
