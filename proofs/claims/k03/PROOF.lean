import PyProof.Rows.All
import Wide.All
import OpenK.AllK
import Wide.FinOn
import HandS.ForMost
import HandS.Set
import HandS.SetKeys
import HandS.TupSets
import PyProof.Rows.SortShellAny
import HandS.Strs
import HandS.IsInst
import HandS.TupAny
import HandS.TupMul
import HandS.TupLe
import HandS.Style
import HandS.Deep
import HandS.NoneIn
import HandS.Codes
import HandS.Zip
import PyProof.IsRules
import PyProof.AutoSeq1
import PyProof.NeData
import PyProof.StrBlock2
import PyProof.Rows.StrMul
import PySem.Challenge.RW_againnotes_k03_duties_judged
set_option Elab.async false
set_option linter.all false
set_option maxRecDepth 100000
set_option maxHeartbeats 4000000
/-! Sets of scannable keys of one kind, with what a walk over them asks for; set(list of texts), sorted of such a set. -/
namespace Ag
open PySem PySem.Spec PyProof.Rows L2

section gen
variable {P : Program} {w : World} {κ : Type} [DecidableEq κ] {kd : KeyKind P w κ}
/-- two entries have no key in common -/
def Apart (kd : KeyKind P w κ) (e f : Int × Value) : Prop := ∀ k, kd.is k e.2 = true → kd.is k f.2 = false
theorem Apart.symm {e f : Int × Value} (h : Apart kd e f) : Apart kd f e := fun k hf => by
  cases q : kd.is k e.2 with
  | false => rfl
  | true => have := h k q; rw [hf] at this; cases this

structure SetG (kd : KeyKind P w κ) (h : Heap) (a : Addr) (S : κ → Bool) (n : Nat) (o : Obj) (es : Array (Int × Value)) (ep : Nat) (t : SetTable) : Prop where
  at_ : h.get? a = some o
  ex : o.ExactSet
  dat : o.data = .set es ep t
  els : ElemsOf kd es.toList
  mem : ∀ k, S k = true ↔ ∃ e ∈ es.toList, kd.is k e.2 = true
  room : es.size < scanBound
  fit : t.fits es.size = true
  num : es.size = n
  ris : Ris t.place.toList
  led : w.params.followText "set-order" = true ∨ t.led = true
  nd : es.toList.Pairwise (Apart kd)

def SetAtG (kd : KeyKind P w κ) (h : Heap) (a : Addr) (S : κ → Bool) (n : Nat) : Prop := ∃ o es ep t, SetG kd h a S n o es ep t
theorem SetAtG.keep {h h' : Heap} {a : Addr} {S : κ → Bool} {n : Nat} (R : SetAtG kd h a S n) (k : ∀ o, h.get? a = some o → h'.get? a = some o) : SetAtG kd h' a S n := by
  obtain ⟨o, es, ep, t, r⟩ := R
  exact ⟨o, es, ep, t, ⟨k o r.at_, r.ex, r.dat, r.els, r.mem, r.room, r.fit, r.num, r.ris, r.led, r.nd⟩⟩
theorem SetAtG.fresh {h : Heap} {a : Addr} (ho : h.get? a = some { cls := .type "set", dict := none, data := .set #[] 0 (.fresh 0 0 (!w.params.followText "set-order")) }) : SetAtG kd h a (fun _ => false) 0 :=
  ⟨_, #[], 0, _, ⟨ho, ⟨rfl, rfl, rfl⟩, rfl, fun e he => (by simp at he), fun k => (by simp), (by decide), (by rfl), rfl, List.Pairwise.nil, by
    show _ ∨ (!w.params.followText "set-order") = true
    cases w.params.followText "set-order" <;> simp, List.Pairwise.nil⟩⟩

variable {A : Around} {E : Value → Shared → Prop} {s : Shared} {a : Addr} {S : κ → Bool} {n : Nat}

theorem addG_tail {g : Bool → Sem Unit} (hg : ∀ (b : Bool) (s₁ : Shared) (Q' : Unit → Shared → Prop), Q' () s₁ → wpAny (model P w) A (g b) Q' E s₁)
    {o : Obj} {es es1 : Array (Int × Value)} {ep : Nat} {t t2 : SetTable} {S' : κ → Bool} (ho : s.heap.get? a = some o) (hex : o.ExactSet) (hd : o.data = .set es ep t)
    (el1 : ElemsOf kd es1.toList) (m1 : ∀ k, S' k = true ↔ ∃ e ∈ es1.toList, kd.is k e.2 = true) (nd1 : es1.toList.Pairwise (Apart kd))
    (b1 : es1.size < scanBound) (f2 : t2.fits es1.size = true) (r2 : Ris t2.place.toList) (l2 : w.params.followText "set-order" = true ∨ t2.led = true) {wasD : Bool} {R : Option Bool → Shared → Prop}
    (hR : ∀ h', Heap.SameBut a s.heap h' → SetAtG kd h' a S' es1.size → R (some true) { s with heap := h' }) :
    wpAny (model P w) A (do
        storeSet a es1 t2
        if (!wasD && t2.tooFull) = true then do
            g (relayAll t2 es1 (SetTable.grown es1.size)).2.2
            storeSet a (relayAll t2 es1 (SetTable.grown es1.size)).1 (relayAll t2 es1 (SetTable.grown es1.size)).2.1
            pure (some true)
          else pure (some true)) R E s := by
  refine wpAny_bind (wpAny_storeSet_of ho hd ?_ (fits_of_scanBound b1))
  have q1 := store_at (es' := es1) (t' := t2) ho hd
  have k1 := Heap.SameBut.update s.heap a (Obj.putSet es1 t2)
  by_cases hc : (!wasD && t2.tooFull) = true
  · rw [if_pos hc]
    have pm := relayAll_perm t2 es1 (SetTable.grown es1.size)
    have f3 := relayAll_fits t2 es1 (SetTable.grown es1.size)
    have r3 := relayAll_ris t2 es1 (SetTable.grown es1.size)
    have l3 := relayAll_led t2 es1 (SetTable.grown es1.size)
    generalize relayAll t2 es1 (SetTable.grown es1.size) = Z at pm f3 r3 l3 ⊢
    obtain ⟨es2, t3, gv⟩ := Z
    dsimp only at pm f3 r3 l3 ⊢
    have z2 : es2.size = es1.size := by rw [← Array.length_toList, pm.length_eq, Array.length_toList]
    have b2 : es2.size < scanBound := z2 ▸ b1
    refine wpAny_bind (hg _ _ _ ?_)
    refine wpAny_bind (wpAny_storeSet_of q1 rfl ?_ (fits_of_scanBound b2))
    have q2 := store_at (es' := es2) (t' := t3) q1 rfl
    have m2 : ∀ k, S' k = true ↔ ∃ e ∈ es2.toList, kd.is k e.2 = true := fun k => (m1 k).trans ⟨fun ⟨e, he, q⟩ => ⟨e, pm.mem_iff.mpr he, q⟩, fun ⟨e, he, q⟩ => ⟨e, pm.mem_iff.mp he, q⟩⟩
    exact wpAny_pure (hR _ (k1.trans (Heap.SameBut.update _ a _)) ⟨_, es2, _, t3, ⟨q2, hex, rfl, el1.perm pm, m2, b2, f3, z2, r3, l2.imp id fun z => l3 ▸ z, (pm.pairwise_iff (fun h => Apart.symm h)).mpr nd1⟩⟩)
  · rw [if_neg hc]
    exact wpAny_pure (hR _ k1 ⟨_, es1, _, t2, ⟨q1, hex, rfl, el1, m1, b1, f2, rfl, r2, l2, nd1⟩⟩)

theorem addG {k : κ} {x : Value} {Q : Bool → Shared → Prop} (hk : kd.is k x = true) (hx : x.scannable = true) (R : SetAtG kd s.heap a S n) (hroom : n + 1 < scanBound)
    (hQ : ∀ h', Heap.SameBut a s.heap h' → SetAtG kd h' a (fun j => S j || decide (j = k)) (if S k = true then n else n + 1) → Q (!S k) { s with heap := h' }) :
    wpAny (model P w) A (setAddHashed a x (kd.hash k)) Q E s := by
  obtain ⟨o, es, ep, t, R⟩ := R
  have bz : es.size + 1 < scanBound := by rw [R.num]; exact hroom
  unfold setAddHashed setAddHashedIn
  refine wpAny_holding (wpAny_bind (wpAny_setState_of R.at_ R.dat R.fit ?_))
  dsimp only
  rw [byScan_of hx R.room R.els]
  simp only [↓reduceIte]
  unfold setAddByScan
  refine wpAny_bind (wpAny_bind (wpAny_rule (wpAny_bind (wpAny_setScan_of hk R.at_ R.dat R.fit R.els ?_))))
  cases hfi : List.findIdx? (fun e => kd.is k e.2) es.toList with
  | some j =>
    obtain ⟨hj, pj, _⟩ := List.findIdx?_eq_some_iff_getElem.mp hfi
    have hS : S k = true := (R.mem k).mpr ⟨_, List.getElem_mem hj, pj⟩
    refine wpAny_pure (wpAny_pure ?_)
    have q := hQ s.heap (Heap.SameBut.refl a s.heap) ⟨o, es, ep, t, ⟨R.at_, R.ex, R.dat, R.els, fun i => (by
      rw [Bool.or_eq_true, decide_eq_true_eq, ← R.mem i]
      exact ⟨fun z => z.elim id (fun e => e ▸ hS), .inl⟩), R.room, R.fit, (by rw [if_pos hS]; exact R.num), R.ris, R.led, R.nd⟩⟩
    rw [hS] at q
    exact q
  | none =>
    have hno : ∀ e ∈ es.toList, kd.is k e.2 = false := fun e he => by
      have c := List.findIdx?_eq_none_iff.mp hfi e he
      cases q : kd.is k e.2 with
      | false => rfl
      | true => rw [q] at c; cases c
    have hS : S k = false := by
      cases q : S k with
      | false => rfl
      | true =>
        obtain ⟨e, he, z⟩ := (R.mem k).mp q
        rw [hno e he] at z; cases z
    have pm := layNew_perm t es (kd.hash k) x
    have f1 := layNew_fits t es (kd.hash k) x
    have r1 := layNew_ris t es (kd.hash k) x R.ris
    have l1 := layNew_led t es (kd.hash k) x
    dsimp only
    generalize layNew t es (kd.hash k) x = Z at pm f1 r1 l1 ⊢
    obtain ⟨es1, t1, wasD, gv⟩ := Z
    dsimp only at pm f1 r1 l1 ⊢
    rw [Array.toList_push] at pm
    have el1 : ElemsOf kd es1.toList := (R.els.push hk hx).perm pm
    have m1 : ∀ i, (S i || decide (i = k)) = true ↔ ∃ e ∈ es1.toList, kd.is i e.2 = true := mem_push_iff hk R.mem pm
    have nd1 : es1.toList.Pairwise (Apart kd) := by
      refine (pm.pairwise_iff (fun h => Apart.symm h)).mpr (List.pairwise_append.mpr ⟨R.nd, List.pairwise_singleton _ _, fun e he f hf => ?_⟩)
      rw [List.mem_singleton.mp hf]
      refine Apart.symm fun j hj => ?_
      have : j = k := kd.inj x j k hj hk
      rw [this]; exact hno e he
    have z1 : es1.size = n + 1 := by rw [← Array.length_toList, pm.length_eq, List.length_append, Array.length_toList, R.num]; rfl
    have b1 : es1.size < scanBound := by rw [z1]; exact hroom
    have ld : w.params.followText "set-order" = true ∨ t1.led = true := R.led.imp id fun z => by rw [l1]; exact z
    have fin : ∀ h', Heap.SameBut a s.heap h' → SetAtG kd h' a (fun j => S j || decide (j = k)) es1.size → Q true { s with heap := h' } := fun h' sb r => by
      have q := hQ h' sb
      rw [hS] at q
      rw [z1] at r
      exact q r
    have gw : ∀ (b : Bool) {s₁ : Shared} {Q' : Unit → Shared → Prop}, Q' () s₁ → wpAny (model P w) A (match b with | true => rule "set.scan.the-table-gave-way" | false => pure ()) Q' E s₁ :=
      fun b s₁ Q' q => by cases b <;> first | exact wpAny_pure q | exact wpAny_rule q
    refine wpAny_bind (gw _ ?_)
    split
    · refine wpAny_bind ?_
      rw [hashByValue_scannable 8 hx]
      refine wpAny_pure (addG_tail (fun b s₁ Q' q => by cases b <;> first | exact wpAny_pure q | exact wpAny_rule q) R.at_ R.ex R.dat el1 m1 nd1 b1 ?_ ?_ ?_ ?_)
      · split <;> first | exact f1 | exact SetTable.fits_plain_off f1
      · split <;> exact r1
      · split <;> exact ld
      · intro h' sb r; dsimp only; exact wpAny_pure (fin h' sb r)
    · refine wpAny_bind (wpAny_pure ?_)
      simp only [↓reduceIte]
      refine addG_tail (fun b s₁ Q' q => by cases b <;> first | exact wpAny_pure q | exact wpAny_rule q) R.at_ R.ex R.dat el1 m1 nd1 b1 f1 r1 ld ?_
      intro h' sb r; dsimp only; exact wpAny_pure (fin h' sb r)
end gen
end Ag

set_option Elab.async false
set_option linter.all false
set_option maxRecDepth 100000
set_option maxHeartbeats 4000000
namespace Ag
open PySem PySem.Spec PyProof.Rows L2
section
variable {P : Program} {w : World} {A : Around} {E : Value → Shared → Prop}

/-- set.update's loop over texts -/
theorem upd_loop {I : Addr} {fp wr : List Addr} {G : Array GenState → Array GenState → Prop} {n : Nat} {Pv : Nat → Value → Prop} {St : Nat → Shared → Prop} {R : Result → Shared → Prop}
    (W : WalksS P w A.in1 I fp wr G n Pv St) (C : Addr) (hC : C ∉ fp) (xs : List Str) (hn : n = xs.length) (hb : xs.length + 1 < scanBound) (hv : ∀ i v, Pv i v → ∃ x t, xs[i]? = some x ∧ v = .str x t) :
    ∀ (j i : Nat) (s : Shared), n - i = j → i ≤ n → St i s → (∃ S m, SetAtG (PySem.strKind P w) s.heap C S m ∧ m ≤ i ∧ ∀ k, S k = true ↔ k ∈ xs.take i) →
      (∀ s' S m, Moved (C :: wr) G s s' → SetAtG (PySem.strKind P w) s'.heap C S m → m ≤ n → (∀ k, S k = true ↔ k ∈ xs) → R (.ok (.ret .none)) s') →
      codeAny (model P w) A (.builtin "set.update.loop" ⟨[.ref C, .ref I], []⟩) R s := by
  have hCw : C ∉ wr := fun z => hC (W.sub _ z)
  have wide : ∀ b ∈ wr, b ∈ C :: wr := fun b z => List.mem_cons_of_mem _ z
  intro j
  induction j with
  | zero =>
    intro i s hj hi st ⟨S, m, hS, hm, hk⟩ hR
    obtain rfl : i = n := by omega
    refine codeAny_builtin F.entry_set_update_loop ?_
    rw [Around.under_plainId F.plain_set_update_loop _]
    show wpAny _ A.in1 (pyNext (.ref I) >>= _) _ _ s
    refine wpAny_bind (W.done s _ _ st fun s' mv => ?_)
    show wpAny _ A.in1 (ret Value.none) _ _ s'
    refine wpAny_pure (hR s' S m (mv.mono wide) (hS.keep fun o e => mv.heap C o hCw e) hm fun k => ?_)
    rw [hk k, hn, List.take_length]
  | succ j ih =>
    intro i s hj hi st ⟨S, m, hS, hm, hk⟩ hR
    have lt : i < n := by omega
    refine codeAny_builtin F.entry_set_update_loop ?_
    rw [Around.under_plainId F.plain_set_update_loop _]
    show wpAny _ A.in1 (pyNext (.ref I) >>= _) _ _ s
    refine wpAny_bind (W.item i s _ _ lt st fun v s' pv st' mv => ?_)
    obtain ⟨x, tk, hx, rfl⟩ := hv i v pv
    have hS' := hS.keep (h' := s'.heap) fun o e => mv.heap C o hCw e
    show wpAny _ A.in1 (holding [Value.str x tk] (setAdd C (.str x tk)) >>= _) _ _ s'
    refine wpAny_bind (wpAny_holding ?_)
    unfold setAdd
    refine wpAny_holding (wpAny_bind ((PySem.strKind P w).pyHash (k := x) (strKind_is _ _ _ _) ?_))
    refine addG (kd := PySem.strKind P w) (s := { s' with toks := s'.toks + 1 }) (strKind_is _ _ _ _) rfl hS' (by omega) fun h' sb hS2 => ?_
    have tk1 : xs.take (i + 1) = xs.take i ++ [x] := by rw [List.take_succ, hx]; rfl
    refine wpAny_pure ⟨plainId_quiet F.plain_set_update_loop _, ih (i + 1) _ (by omega) lt (W.frame _ s' _ _ st' (Nat.le_succ _) fun b z o e => ?_) ⟨_, _, hS2, ?_, fun k => ?_⟩ fun s2 S2 m2 mv2 h2 l2 k2 => hR s2 S2 m2 ?_ h2 l2 k2⟩
    · rw [sb.2 b (fun q => hC (q ▸ z))]; exact e
    · split <;> omega
    · rw [tk1, Bool.or_eq_true, hk k, List.mem_append, List.mem_singleton, decide_eq_true_eq]
    · refine Moved.trans W.gtrans ((mv.mono wide).then_heap (Nat.le_succ _) fun b o z e => ?_) mv2
      rw [sb.2 b (fun q => z (q ▸ List.mem_cons_self))]; exact e

set_option maxHeartbeats 4000000 in
theorem set_of_strs {s : Shared} {l : Addr} {items : Array Value} {xs : List Str} {Q : Value → Shared → Prop} (hh : A.handled = none) (hl : s.heap.IsList l items) (hi : StrsAre items.toList xs) (hb : xs.length + 1 < scanBound)
    (hQ : ∀ (h' : Heap) (tk : Nat) S m, SetAtG (PySem.strKind P w) h' s.heap.objs.size S m → m ≤ xs.length → (∀ k, S k = true ↔ k ∈ xs) → (∀ b o, s.heap.get? b = some o → h'.get? b = some o) → Q (.ref s.heap.objs.size) { s with heap := h', toks := tk }) :
    wpAny (model P w) A (call (.type "set") [.ref l]) Q E s := by
  have isz : items.size = xs.length := by rw [← StrsAre.len_eq hi, Array.length_toList]
  obtain ⟨c, tl, hmro⟩ := F.called_set.mro
  have hmade := F.called_set.made
  have hsub := F.called_set.sub
  refine wpAny_call (codeAny_of_tree ?_)
  show wpAny _ _ (callAny (.type "set") _) _ _ _
  refine wpAny_pure ⟨Code.quiet_builtin _ (by decide +kernel), codeAny_builtin F.entry_type_call ?_⟩
  rw [Around.under_plain (weight_type_call_type "set" [.ref l] []) rfl]
  have h1 := F.called_set.notType
  have h2 := F.called_set.canCreate
  have hct := F.typeCall_set_1 (.ref l)
  repeat (any_goals (first | assumption | wp_step))
  refine codeAny_mono (code_set_led1 (.ref l) (E := E) (Q₁ := fun obj s₁ => obj = .ref s.heap.objs.size ∧ s₁ = { s with heap := s.heap.push ({ cls := .type "set", dict := none, data := .set #[] 0 (.fresh 0 0 (!w.params.followText "set-order")) } : Obj) }) ⟨rfl, rfl⟩) fun r s₁ hr => ?_
  cases r with
  | error e => exact hr
  | ok fl =>
    cases fl with
    | ret obj =>
      obtain ⟨rfl, rfl⟩ := hr
      have hS : (s.heap.push ({ cls := .type "set", dict := none, data := .set #[] 0 (.fresh 0 0 (!w.params.followText "set-order")) } : Obj)).get? s.heap.objs.size = some ({ cls := .type "set", dict := none, data := .set #[] 0 (.fresh 0 0 (!w.params.followText "set-order")) } : Obj) := Heap.get?_push_size _ rfl
      have hT : Shared.TypeIs { s with heap := s.heap.push ({ cls := .type "set", dict := none, data := .set #[] 0 (.fresh 0 0 (!w.params.followText "set-order")) } : Obj) } (.ref s.heap.objs.size) "set" := ⟨_, hS, rfl⟩
      have hli := F.called_set.init.lookup
      have hbi := F.called_set.init.bind (.ref s.heap.objs.size)
      repeat (any_goals (first | assumption | wp_step))
      refine codeAny_mono (codeAny_call_builtin (R := wants (fun r s₂ => r = .none ∧ ∃ h' tk S m, s₂ = { s with heap := h', toks := tk } ∧ SetAtG (PySem.strKind P w) h' s.heap.objs.size S m ∧ m ≤ xs.length ∧ (∀ k, S k = true ↔ k ∈ xs) ∧
          (∀ b o, s.heap.get? b = some o → h'.get? b = some o)) E) F.called_set.init.plain F.entry_set_init (check_set_init_1 hT ?_)) fun r₂ s₂ hr₂ => ?_
      · obtain ⟨ol, hol, hcl, nl, hdl⟩ := hl
        obtain ⟨ocls, odict, odata, oslots⟩ := ol
        simp only at hcl hdl
        subst hcl; subst hdl
        have hol1 : (s.heap.push ({ cls := .type "set", dict := none, data := .set #[] 0 (.fresh 0 0 (!w.params.followText "set-order")) } : Obj)).get? l = some { cls := .type "list", dict := odict, data := .seq items nl, slots := oslots } := Heap.get?_push_of_some _ hol
        have hsls := F.sub_list_set
        have hslf := F.sub_list_frozenset
        have hne : (Value.type "list" == Value.type "dict") = false := by decide
        have hl1 : (s.heap.push ({ cls := .type "set", dict := none, data := .set #[] 0 (.fresh 0 0 (!w.params.followText "set-order")) } : Obj)).IsList l items := ⟨_, hol1, rfl, nl, rfl⟩
        unfold Builtin.«set.__init__» noKeywords Builtin.Frozenset.updateFrom
        generalize hPI : pyIter = PI
        wp_walk
        subst hPI
        refine wpAny_pyIter_list hl1 ?_
        refine wpAny_bind (wpAny_runValue ?_)
        have llt : l < s.heap.objs.size := Heap.lt_size hol
        have hh3 : A.in1.in1.in1.handled = none := by simp [hh]
        have z1 : (s.heap.push ({ cls := .type "set", dict := none, data := .set #[] 0 (.fresh 0 0 (!w.params.followText "set-order")) } : Obj)).objs.size = s.heap.objs.size + 1 := Heap.size_push ..
        have ne1 : l ≠ (s.heap.push ({ cls := .type "set", dict := none, data := .set #[] 0 (.fresh 0 0 (!w.params.followText "set-order")) } : Obj)).objs.size := by rw [z1]; exact Nat.ne_of_lt (Nat.lt_succ_of_lt llt)
        have hnf : s.heap.objs.size ∉ [(s.heap.push ({ cls := .type "set", dict := none, data := .set #[] 0 (.fresh 0 0 (!w.params.followText "set-order")) } : Obj)).objs.size, l] := by
          rw [z1]; intro z
          rcases List.mem_cons.mp z with z | z
          · exact Nat.ne_of_lt (Nat.lt_succ_self _) z
          · exact Nat.ne_of_gt llt (List.mem_singleton.mp z)
        have hval : ∀ (i : Nat) (v : Value), items[i]? = some v → ∃ x t, xs[i]? = some x ∧ v = .str x t := fun i v q => by
          have q2 : items.toList[i]? = some v := by rw [Array.getElem?_toList]; exact q
          obtain ⟨t, e⟩ := SS.strs_at hi i v q2
          have il : i < xs.length := by rw [← isz, ← Array.length_toList]; exact (List.getElem?_eq_some_iff.mp q2).1
          refine ⟨_, t, ?_, e⟩
          rw [List.getD_eq_getElem?_getD, List.getElem?_eq_getElem il]; rfl
        refine upd_loop ((Walks.list hh3 _ l ne1 items).toS) s.heap.objs.size hnf xs isz hb hval (items.size - 0) 0 _ (by omega) (Nat.zero_le _)
          ⟨⟨_, Heap.get?_push_size _ rfl, rfl, rfl⟩, (hl1.push _)⟩ ⟨_, 0, SetAtG.fresh (kd := PySem.strKind P w) (Heap.get?_push_of_some _ hS), Nat.le_refl _, fun k => (by simp)⟩ fun s' S m mv hS' hm hk => ?_
        obtain ⟨h', g2, d', tk', os'⟩ := s'
        have eg : g2 = s.gens := mv.gens
        have ed : d' = s.drawn := mv.drawn
        have eo : os' = s.os := mv.os
        subst eg; subst ed; subst eo
        show wpAny _ _ _ _ _ _
        refine wpAny_pure ?_
        show wpAny _ _ (ret Value.none) _ _ _
        refine wpAny_pure ⟨rfl, h', tk', S, m, rfl, hS', by rw [← isz]; exact hm, hk, fun b o e => mv.heap b o (fun z => ?_) (Heap.get?_push_of_some _ (Heap.get?_push_of_some _ e))⟩
        have lb := Heap.lt_size e
        rcases List.mem_cons.mp z with z | z
        · exact Nat.ne_of_lt lb z
        · exact Nat.ne_of_lt (Nat.lt_succ_of_lt lb) ((List.mem_singleton.mp z).trans z1)
      · cases r₂ with
        | error e => exact hr₂
        | ok fl₂ =>
          cases fl₂ with
          | ret r =>
            obtain ⟨rfl, h', tk, S, m, rfl, hS', hm, hk, kp⟩ := hr₂
            repeat (any_goals (first | assumption | wp_step))
            exact hQ _ _ _ _ hS' hm hk kp
          | _ => exact hr₂.elim
    | _ => exact hr.elim
end
end Ag

set_option Elab.async false
set_option linter.all false
set_option maxRecDepth 100000
set_option maxHeartbeats 4000000
namespace Ag
open PySem PySem.Spec PyProof.Rows L2
section
variable {P : Program} {w : World} {A : Around} {E : Value → Shared → Prop} {s : Shared}

theorem strs_pick : ∀ (l : List (Int × Value)), ElemsOf (PySem.strKind P w) l → ∃ xs : List Str, StrsAre (l.map (·.2)) xs ∧ ∀ k, k ∈ xs ↔ ∃ e ∈ l, (PySem.strKind P w).is k e.2 = true
  | [], _ => ⟨[], .nil, fun k => by simp⟩
  | e :: l, h => by
    obtain ⟨xs, r, m⟩ := strs_pick l h.tail
    obtain ⟨⟨k, hk, _⟩, _⟩ := h.head
    obtain ⟨t, q⟩ := Value.isStrOf_shape (x := k) (v := e.2) hk
    refine ⟨k :: xs, ?_, fun j => ?_⟩
    · show StrsAre (e.2 :: l.map (·.2)) _
      rw [q]; exact .cons k t r
    · rw [List.mem_cons, m j]
      constructor
      · rintro (rfl | ⟨f, hf, z⟩)
        · exact ⟨e, List.mem_cons_self, hk⟩
        · exact ⟨f, List.mem_cons_of_mem _ hf, z⟩
      · rintro ⟨f, hf, z⟩
        rcases List.mem_cons.mp hf with rfl | hf
        · exact .inl ((PySem.strKind P w).inj _ _ _ z hk)
        · exact .inr ⟨f, hf, z⟩

theorem strs_of_perm : ∀ {us vs : List Value} {xs : List Str}, us.Perm vs → StrsAre vs xs → ∃ ys : List Str, StrsAre us ys ∧ ys.Perm xs := by
  intro us vs xs p
  induction p generalizing xs with
  | nil => intro h; cases h; exact ⟨[], .nil, .nil⟩
  | cons v _ ih =>
    intro h
    cases h with
    | cons x t r =>
      obtain ⟨ys, a, b⟩ := ih r
      exact ⟨x :: ys, .cons x t a, b.cons x⟩
  | swap v u l =>
    intro h
    cases h with
    | cons x t r =>
      cases r with
      | cons y t' r' => exact ⟨y :: x :: _, .cons y t' (.cons x t r'), .swap x y _⟩
  | trans _ _ ih1 ih2 =>
    intro h
    obtain ⟨ys, a, b⟩ := ih2 h
    obtain ⟨zs, c, d⟩ := ih1 a
    exact ⟨zs, c, d.trans b⟩

theorem strsAre_inj : ∀ {us : List Value} {xs ys : List Str}, StrsAre us xs → StrsAre us ys → xs = ys
  | _, _, _, .nil, h => by cases h; rfl
  | _, _, _, .cons x t r, h => by
    cases h with
    | cons y t' r' => rw [strsAre_inj r r']

theorem strs_nodup : ∀ {l : List (Int × Value)} {xs : List Str}, StrsAre (l.map (·.2)) xs → l.Pairwise (Apart (PySem.strKind P w)) → ElemsOf (PySem.strKind P w) l → xs.Nodup
  | [], _, .nil, _, _ => List.nodup_nil
  | e :: l, _, h, nd, el => by
    obtain ⟨v, hv⟩ : ∃ v, e.2 = v := ⟨_, rfl⟩
    rw [List.map_cons, hv] at h
    cases h with
    | cons x t r =>
      obtain ⟨n1, n2⟩ := List.pairwise_cons.mp nd
      refine List.nodup_cons.mpr ⟨fun hx => ?_, strs_nodup r n2 el.tail⟩
      obtain ⟨ys, r', m⟩ := strs_pick (P := P) (w := w) l el.tail
      have same : ys = _ := strsAre_inj r' r
      subst same
      obtain ⟨f, hf, z⟩ := (m x).mp hx
      have := n1 f hf x (by rw [hv]; exact strKind_is _ _ _ _)
      rw [z] at this; cases this

theorem sorted_of_strset {a : Addr} {S : Str → Bool} {m : Nat} {Q : Value → Shared → Prop} (R : SetAtG (PySem.strKind P w) s.heap a S m) (hh : A.handled = none)
    (hQ : ∀ s' p (out : Array Value) (c : Nat) (ys : List Str), (∀ b o, s.heap.get? b = some o → s'.heap.get? b = some o) → s'.gens = s.gens → s'.os = s.os → s.heap.objs.size ≤ p →
      s'.heap.get? p = some (seqObj "list" out c) → StrsAre out.toList ys → sortedS ys = true → ys.Nodup → (∀ k, k ∈ ys ↔ S k = true) → ys.length = m → Q (.ref p) s') :
    wpAny (model P w) A (call (.builtin "sorted") [.ref a]) Q E s := by
  obtain ⟨o, es, ep, t, R⟩ := R
  obtain ⟨xs, hxs, mx⟩ := strs_pick (P := P) (w := w) es.toList R.els
  have nx := strs_nodup hxs R.nd R.els
  refine Calls.call_function_entry kind_sorted plain_sorted entry_sorted (args_sorted1 _) ?_
  unfold Builtin.«sorted»
  refine wpAny_bind (m := checkCount "sorted" 1 1 _) (wpAny_pure ?_)
  refine wpAny_bind (collect_set (A := A.in1) hh ⟨o, R.at_, R.ex.1, R.dat⟩ R.fit R.room R.ris R.led fun s1 vs k1 hz g1 o1 pm => ?_)
  have vl : vs.length = m := by rw [pm.length_eq, List.length_map, Array.length_toList]; exact R.num
  obtain ⟨zs, hzs, pz⟩ := strs_of_perm pm hxs
  have mb : m < scanBound := R.num ▸ R.room
  have small : vs.length ≤ sizeLine := by rw [vl]; exact fits_of_scanBound mb
  refine wpAny_bind (wpAny_newList ?_ small)
  have hoL : (s1.heap.push (seqObj "list" vs.toArray 0)).get? s1.heap.objs.size = some (seqObj "list" vs.toArray 0) := Heap.get?_push_size _ rfl
  refine wpAny_bind (wpAny_holding (wpAny_call_entry slot_list_sort ⟨_, hoL, rfl⟩ entry_list_sort (list_sort_treeKAny strKind_oneLt hoL hzs.keysOf (fun v₁ v₂ rest e => keyKind_strs (by rw [← e]; exact hzs)) small fun st' hp hs => ⟨_, rfl, ?_⟩) (args_list_sort _)))
  obtain ⟨ys, a1, a2, a3⟩ := sorted_out_str hzs hp hs
  obtain ⟨c, hc⟩ := sortedHeap_at (vs := vs) (out := (arrOf st').map (·.2)) hoL
  have py : ys.Perm xs := a2.trans pz
  refine wpAny_pure ⟨_, rfl, hQ _ s1.heap.objs.size _ c ys (fun b u e => ?_) g1 o1 hz hc a1 a3 (py.nodup_iff.mpr nx) (fun k => by rw [py.mem_iff, mx k, ← R.mem k]) ?_⟩
  · have q := k1 b u e
    have lt := Heap.lt_size q
    show (sortedHeap (s1.heap.push (seqObj "list" vs.toArray 0)) s1.heap.objs.size vs _).get? b = some u
    rw [sortedHeap_old (Nat.ne_of_lt lt) (by rw [size_push']; exact Nat.lt_succ_of_lt lt)]
    exact Heap.get?_push_of_some _ q
  · have h1 := StrsAre.len_eq hzs
    rw [a2.length_eq, ← h1, vl]
end

/-! ### over the layer -/
/-- the set of the texts xs, at a -/
def StrSet (P : Program) (w : World) (a : Addr) (xs : List Str) : HO := .ext fun h => ∃ S m, SetAtG (PySem.strKind P w) h a S m ∧ m ≤ xs.length ∧ ∀ k, S k = true ↔ k ∈ xs
def rSetS (K : PySem.W.Frag) (P : Program) (w : World) : List V → Hp → VK → Prop := fun vs H Q => ∃ (a : Addr) (xs : List Str), vs = [V.ref a] ∧ (SqL K H a (xs.map V.str)) ∧ xs.length < 4000 ∧
  ∀ p, H p = none → Q (.ref p) (upd H p (StrSet P w p xs))
def rSortSetS (P : Program) (w : World) : List V → Hp → VK → Prop := fun vs H Q => ∃ (a : Addr) (xs : List Str), vs = [V.ref a] ∧ H a = some (StrSet P w a xs) ∧
  ∀ ys p, sortedS ys = true → ys.Nodup → (∀ k, k ∈ ys ↔ k ∈ xs) → H p = none → Q (.ref p) (upd H p (.lst (ys.map V.str)))
theorem cr_setS {X : Cx} (hc : X.calm = true) : CallR X (.type "set") (rSetS X.K X.prog X.w) := by
  intro pins s σ H vs us Q I r h
  obtain ⟨a, xs, rfl, hs, hb, q⟩ := h
  obtain ⟨its, rv, hl, _⟩ := I.list hs
  rw [Vals.ref1 r]
  have hn : H s.heap.objs.size = none := I.hok.fresh (Nat.le_refl _)
  refine set_of_strs (P := X.prog) (w := X.w) (I.ok.hd hc) hl.isList rv.strs (by unfold scanBound; omega) fun h' tk S m hS hm hk kp => ?_
  refine ⟨.ref s.heap.objs.size, upd H s.heap.objs.size (StrSet X.prog X.w s.heap.objs.size xs), I.laid (t' := tk) kp (Nat.le_refl _) ?_, rfl, q _ hn⟩
  refine ⟨⟨S, m, hS, hm, hk⟩, ?_, ?_⟩
  · obtain ⟨o, es, ep, t, R⟩ := hS
    exact ⟨o, R.at_⟩
  · rintro h1 h2 ⟨S, m, hS, hm, hk⟩ e
    exact ⟨S, m, hS.keep e, hm, hk⟩
theorem cr_sortSetS {X : Cx} (hc : X.calm = true) : CallR X (.builtin "sorted") (rSortSetS X.prog X.w) := by
  intro pins s σ H vs us Q I r h
  obtain ⟨a, xs, rfl, ha, q⟩ := h
  obtain ⟨⟨S, m, hS, hm, hk⟩, _⟩ := I.hok a _ ha
  rw [Vals.ref1 r]
  refine sorted_of_strset hS (I.ok.hd hc) fun s' p out c ys kp g o hp hg hout srt nd mem hlen => ?_
  have hn : H p = none := I.hok.fresh hp
  have mb : m < scanBound := by
    obtain ⟨o, es, ep, t, R⟩ := hS
    exact R.num ▸ R.room
  have small : (ys.map V.str).length ≤ sizeLine := by rw [List.length_map, hlen]; exact fits_of_scanBound mb
  have J : Inv X pins σ (upd H p (.lst (ys.map V.str))) { s with heap := s'.heap, gens := s'.gens, drawn := s'.drawn, toks := s'.toks } :=
    I.call (ch := []) (Un.laid kp hp hn) (I.hok.laid kp hp ⟨small, out.toList, c, vals_of_strs hout, hg⟩) (by rw [g]; exact I.bare) (fun _ z => nomatch z)
  have e : s' = { s with heap := s'.heap, gens := s'.gens, drawn := s'.drawn, toks := s'.toks } := by
    cases s'; cases s; cases o; rfl
  rw [e]
  exact ⟨.ref p, _, J, rfl, q ys p srt nd (fun k => (mem k).trans (hk k)) hn⟩
end Ag

set_option Elab.async false
set_option linter.all false
set_option maxRecDepth 100000
set_option maxHeartbeats 1000000
/-! Data: what a reading of an expression over plain values gives, with the heap only growing. -/
namespace Ag
open PySem PySem.Spec PyProof.Rows L2

/-! ### heaps that keep -/
theorem _root_.L2.Same.newA {H : Hp} {p : Addr} {o : HO} (h : H p = none) : Same H (upd H p o) := fun a u e => by
  rw [upd_ne (ne_of_none e h)]; exact e
theorem _root_.L2.Same.rdA {H H' : Hp} {a : Addr} {u : HO} (e : Same H H') (h : Rd H a u) : Rd H' a u :=
  h.elim (fun z => .inl (e _ _ z)) fun ⟨o, z⟩ => .inr ⟨o, e _ _ z⟩
theorem _root_.L2.Same.slA {K : PySem.W.Frag} {H H' : Hp} {a : Addr} {xs : List V} (e : Same H H') (h : SqL K H a xs) : SqL K H' a xs := h.imp e.rdA id
theorem _root_.L2.Same.stA {K : PySem.W.Frag} {H H' : Hp} {a : Addr} {xs : List V} (e : Same H H') (h : SqT K H a xs) : SqT K H' a xs := h.imp e.rdA id
theorem _root_.L2.Same.freshA {H H' : Hp} {p : Addr} (e : Same H H') (h : H' p = none) : H p = none := e.free h

/-! ### plain data -/
mutual
theorem dp_mono {K : PySem.W.Frag} {H H' : Hp} (e : Same H H') : ∀ {v : V} {d : PyData}, Dp K H v d → Dp K H' v d
  | _, _, .non => .non
  | _, _, .bl b => .bl b
  | _, _, .int i => .int i
  | _, _, .str x => .str x
  | _, _, .lst h r => .lst (e.slA h) (dps_mono e r)
  | _, _, .tup h r => .tup (e.stA h) (dps_mono e r)
theorem dps_mono {K : PySem.W.Frag} {H H' : Hp} (e : Same H H') : ∀ {vs : List V} {ds : List PyData}, DpAll K H vs ds → DpAll K H' vs ds
  | _, _, .nil => .nil
  | _, _, .cons h r => .cons (dp_mono e h) (dps_mono e r)
end
theorem dps_len {K : PySem.W.Frag} {H : Hp} : ∀ {vs : List V} {ds : List PyData}, DpAll K H vs ds → vs.length = ds.length
  | _, _, .nil => rfl
  | _, _, .cons _ r => by rw [List.length_cons, List.length_cons, dps_len r]
theorem dps_get {K : PySem.W.Frag} {H : Hp} : ∀ {vs : List V} {ds : List PyData} {i : Nat} {d : PyData}, DpAll K H vs ds → ds[i]? = some d → ∃ v, vs[i]? = some v ∧ Dp K H v d
  | _, _, _, _, .nil, h => by simp at h
  | _, _, 0, _, .cons a r, h => by simp at h; subst h; exact ⟨_, rfl, a⟩
  | _, _, i + 1, _, .cons a r, h => by
    obtain ⟨v, e, q⟩ := dps_get (i := i) r (by simpa using h)
    exact ⟨v, by simpa using e, q⟩
theorem dps_get' {K : PySem.W.Frag} {H : Hp} : ∀ {vs : List V} {ds : List PyData} {i : Nat} {v : V}, DpAll K H vs ds → vs[i]? = some v → ∃ d, ds[i]? = some d ∧ Dp K H v d
  | _, _, _, _, .nil, h => by simp at h
  | _, _, 0, _, .cons a r, h => by simp at h; subst h; exact ⟨_, rfl, a⟩
  | _, _, i + 1, _, .cons a r, h => by
    obtain ⟨v, e, q⟩ := dps_get' (i := i) r (by simpa using h)
    exact ⟨v, by simpa using e, q⟩
theorem dps_app {K : PySem.W.Frag} {H : Hp} : ∀ {vs us : List V} {ds es : List PyData}, DpAll K H vs ds → DpAll K H us es → DpAll K H (vs ++ us) (ds ++ es)
  | _, _, _, _, .nil, q => q
  | _, _, _, _, .cons a r, q => .cons a (dps_app r q)
theorem dps_take {K : PySem.W.Frag} {H : Hp} : ∀ {vs : List V} {ds : List PyData} (n : Nat), DpAll K H vs ds → DpAll K H (vs.take n) (ds.take n)
  | _, _, 0, _ => .nil
  | _, _, _ + 1, .nil => .nil
  | _, _, n + 1, .cons a r => .cons a (dps_take n r)
theorem dps_drop {K : PySem.W.Frag} {H : Hp} : ∀ {vs : List V} {ds : List PyData} (n : Nat), DpAll K H vs ds → DpAll K H (vs.drop n) (ds.drop n)
  | _, _, 0, h => h
  | _, _, _ + 1, .nil => .nil
  | _, _, n + 1, .cons _ r => dps_drop n r
theorem dps_strs {K : PySem.W.Frag} {H : Hp} : ∀ (xs : List Str), DpAll K H (xs.map V.str) (xs.map .str)
  | [] => .nil
  | x :: xs => .cons (.str x) (dps_strs xs)
theorem strs_dps {K : PySem.W.Frag} {H : Hp} : ∀ {xs : List Str} {vs : List V}, DpAll K H vs (xs.map .str) → vs = xs.map V.str
  | [], _, h => by cases h; rfl
  | x :: xs, _, h => by
    cases h with
    | cons a r => cases a; rw [strs_dps r]; rfl
theorem ints_dps {K : PySem.W.Frag} {H : Hp} : ∀ {xs : List Int} {vs : List V}, DpAll K H vs (xs.map .int) → vs = xs.map V.int
  | [], _, h => by cases h; rfl
  | x :: xs, _, h => by
    cases h with
    | cons a r => cases a; rw [ints_dps r]; rfl
theorem bls_dps {K : PySem.W.Frag} {H : Hp} : ∀ {xs : List Bool} {vs : List V}, DpAll K H vs (xs.map .bool) → vs = xs.map V.bl
  | [], _, h => by cases h; rfl
  | x :: xs, _, h => by
    cases h with
    | cons a r => cases a; rw [bls_dps r]; rfl


/-! ### data whose lists stand where F allows -/
def KL (K : PySem.W.Frag) (a : Addr) (xs : List V) : Prop := ∃ (o : Obj) (its : Array Value) (n : Nat), K.lookup a = some o ∧ o.cls = .type "list" ∧ o.dict = none ∧ o.data = .seq its n ∧ its.size ≤ sizeLine ∧ Vals xs its.toList
mutual
inductive Df (K : PySem.W.Frag) (F : Addr → Prop) (H : Hp) : V → PyData → Prop
  | non : Df K F H .non .none
  | bl (b : Bool) : Df K F H (.bl b) (.bool b)
  | int (i : Int) : Df K F H (.int i) (.int i)
  | str (x : Str) : Df K F H (.str x) (.str x)
  | lst {a : Addr} {xs : List V} {ds : List PyData} : (Rd H a (.lst xs) ∧ F a) ∨ KL K a xs → DfAll K F H xs ds → Df K F H (.ref a) (.list ds)
  | tup {a : Addr} {xs : List V} {ds : List PyData} : SqT K H a xs → DfAll K F H xs ds → Df K F H (.ref a) (.tuple ds)
inductive DfAll (K : PySem.W.Frag) (F : Addr → Prop) (H : Hp) : List V → List PyData → Prop
  | nil : DfAll K F H [] []
  | cons {v : V} {vs : List V} {d : PyData} {ds : List PyData} : Df K F H v d → DfAll K F H vs ds → DfAll K F H (v :: vs) (d :: ds)
end
section
variable {K : PySem.W.Frag} {F G : Addr → Prop} {H H' : Hp}
mutual
theorem df_dp : ∀ {v : V} {d : PyData}, Df K F H v d → Dp K H v d
  | _, _, .non => .non
  | _, _, .bl b => .bl b
  | _, _, .int i => .int i
  | _, _, .str x => .str x
  | _, _, .lst h r => .lst (h.imp (fun z => z.1) id) (dfs_dps r)
  | _, _, .tup h r => .tup h (dfs_dps r)
theorem dfs_dps : ∀ {vs : List V} {ds : List PyData}, DfAll K F H vs ds → DpAll K H vs ds
  | _, _, .nil => .nil
  | _, _, .cons h r => .cons (df_dp h) (dfs_dps r)
end
mutual
theorem dp_df : ∀ {v : V} {d : PyData}, Dp K H v d → Df K (fun a => H a ≠ none) H v d
  | _, _, .non => .non
  | _, _, .bl b => .bl b
  | _, _, .int i => .int i
  | _, _, .str x => .str x
  | _, _, .lst h r => .lst (h.imp (fun z => ⟨z, by rcases z with z | ⟨o, z⟩ <;> (rw [z]; exact fun q => nomatch q)⟩) id) (dps_dfs r)
  | _, _, .tup h r => .tup h (dps_dfs r)
theorem dps_dfs : ∀ {vs : List V} {ds : List PyData}, DpAll K H vs ds → DfAll K (fun a => H a ≠ none) H vs ds
  | _, _, .nil => .nil
  | _, _, .cons h r => .cons (dp_df h) (dps_dfs r)
end
mutual
theorem df_mono (e : Same H H') (f : ∀ a, F a → G a) : ∀ {v : V} {d : PyData}, Df K F H v d → Df K G H' v d
  | _, _, .non => .non
  | _, _, .bl b => .bl b
  | _, _, .int i => .int i
  | _, _, .str x => .str x
  | _, _, .lst h r => .lst (h.imp (fun z => ⟨e.rdA z.1, f _ z.2⟩) id) (dfs_mono e f r)
  | _, _, .tup h r => .tup (e.stA h) (dfs_mono e f r)
theorem dfs_mono (e : Same H H') (f : ∀ a, F a → G a) : ∀ {vs : List V} {ds : List PyData}, DfAll K F H vs ds → DfAll K G H' vs ds
  | _, _, .nil => .nil
  | _, _, .cons h r => .cons (df_mono e f h) (dfs_mono e f r)
end
theorem rd_other {a D : Addr} {u o : HO} (h : Rd H a u) (n : a ≠ D) : Rd (upd H D o) a u := by
  rcases h with h | ⟨x, h⟩
  · exact .inl (by rw [upd_ne n]; exact h)
  · exact .inr ⟨x, by rw [upd_ne n]; exact h⟩
mutual
/-- a list that the data does not hold is changed -/
theorem df_upd {D : Addr} {ys : List V} {o : HO} (hD : H D = some (.lst ys)) (nf : ¬ F D) : ∀ {v : V} {d : PyData}, Df K F H v d → Df K F (upd H D o) v d
  | _, _, .non => .non
  | _, _, .bl b => .bl b
  | _, _, .int i => .int i
  | _, _, .str x => .str x
  | _, _, .lst h r => .lst (h.imp (fun z => ⟨rd_other z.1 (fun q => nf (q ▸ z.2)), z.2⟩) id) (dfs_upd hD nf r)
  | _, _, .tup h r => .tup (h.imp (fun z => rd_other z (fun q => by
      subst q
      rcases z with z | ⟨x, z⟩ <;> (rw [hD] at z; cases z))) id) (dfs_upd hD nf r)
theorem dfs_upd {D : Addr} {ys : List V} {o : HO} (hD : H D = some (.lst ys)) (nf : ¬ F D) : ∀ {vs : List V} {ds : List PyData}, DfAll K F H vs ds → DfAll K F (upd H D o) vs ds
  | _, _, .nil => .nil
  | _, _, .cons h r => .cons (df_upd hD nf h) (dfs_upd hD nf r)
end
theorem dfs_len : ∀ {vs : List V} {ds : List PyData}, DfAll K F H vs ds → vs.length = ds.length
  | _, _, .nil => rfl
  | _, _, .cons _ r => by rw [List.length_cons, List.length_cons, dfs_len r]
theorem dfs_get : ∀ {vs : List V} {ds : List PyData} {i : Nat} {d : PyData}, DfAll K F H vs ds → ds[i]? = some d → ∃ v, vs[i]? = some v ∧ Df K F H v d
  | _, _, _, _, .nil, h => by simp at h
  | _, _, 0, _, .cons a r, h => by simp at h; subst h; exact ⟨_, rfl, a⟩
  | _, _, i + 1, _, .cons a r, h => by
    obtain ⟨v, e, q⟩ := dfs_get (i := i) r (by simpa using h)
    exact ⟨v, by simpa using e, q⟩
theorem dfs_get' : ∀ {vs : List V} {ds : List PyData} {i : Nat} {v : V}, DfAll K F H vs ds → vs[i]? = some v → ∃ d, ds[i]? = some d ∧ Df K F H v d
  | _, _, _, _, .nil, h => by simp at h
  | _, _, 0, _, .cons a r, h => by simp at h; subst h; exact ⟨_, rfl, a⟩
  | _, _, i + 1, _, .cons a r, h => by
    obtain ⟨d, e, q⟩ := dfs_get' (i := i) r (by simpa using h)
    exact ⟨d, by simpa using e, q⟩
theorem dfs_app : ∀ {vs us : List V} {ds es : List PyData}, DfAll K F H vs ds → DfAll K F H us es → DfAll K F H (vs ++ us) (ds ++ es)
  | _, _, _, _, .nil, q => q
  | _, _, _, _, .cons a r, q => .cons a (dfs_app r q)
theorem dfs_take : ∀ {vs : List V} {ds : List PyData} (n : Nat), DfAll K F H vs ds → DfAll K F H (vs.take n) (ds.take n)
  | _, _, 0, _ => .nil
  | _, _, _ + 1, .nil => .nil
  | _, _, n + 1, .cons a r => .cons a (dfs_take n r)
theorem dfs_drop : ∀ {vs : List V} {ds : List PyData} (n : Nat), DfAll K F H vs ds → DfAll K F H (vs.drop n) (ds.drop n)
  | _, _, 0, h => h
  | _, _, _ + 1, .nil => .nil
  | _, _, n + 1, .cons _ r => dfs_drop n r
theorem dfs_strs : ∀ (xs : List Str), DfAll K F H (xs.map V.str) (xs.map .str)
  | [] => .nil
  | x :: xs => .cons (.str x) (dfs_strs xs)
end
/-- what F allows, or is younger than H1 -/
def Fr (F : Addr → Prop) (H1 : Hp) : Addr → Prop := fun a => F a ∨ H1 a = none
theorem Fr.to {F : Addr → Prop} {H1 H2 : Hp} (s : Same H1 H2) : ∀ a, Fr F H2 a → Fr F H1 a := fun a z => z.imp id fun q => s.freshA q
theorem Fr.base {F : Addr → Prop} {H1 : Hp} : ∀ a, F a → Fr F H1 a := fun a z => .inl z
/-- what stands -/
def nn (H : Hp) : Addr → Prop := fun a => H a ≠ none
/-- all but lists that F does not allow are kept -/
def isLst : HO → Bool | .lst _ => true | _ => false
def SameF (F : Addr → Prop) (H H' : Hp) : Prop := ∀ a u, H a = some u → (F a ∨ isLst u = false) → H' a = some u
theorem SameF.refl {F : Addr → Prop} {H : Hp} : SameF F H H := fun _ _ h _ => h
theorem SameF.trans {F : Addr → Prop} {H H1 H2 : Hp} (a : SameF F H H1) (b : SameF F H1 H2) : SameF F H H2 := fun x u h z => b x u (a x u h z) z
theorem SameF.sub {F G : Addr → Prop} {H H1 : Hp} (a : SameF F H H1) (f : ∀ x, G x → F x) : SameF G H H1 := fun x u h z => a x u h (z.imp (f x) id)
theorem _root_.L2.Same.F {F : Addr → Prop} {H H1 : Hp} (a : Same H H1) : SameF F H H1 := fun x u h _ => a x u h
theorem SameF.upd {F : Addr → Prop} {H : Hp} {D : Addr} {ys : List V} {o : HO} (hD : H D = some (.lst ys)) (nf : ¬ F D) : SameF F H (upd H D o) := fun x u h z => by
  rw [upd_ne (fun q => ?_)]
  · exact h
  · subst q
    rw [hD] at h; cases h
    exact z.elim nf (fun q => nomatch q)
theorem rd_lstF {F : Addr → Prop} {H H1 : Hp} {a : Addr} {xs : List V} (s : SameF F H H1) (h : Rd H a (.lst xs)) (f : F a) : Rd H1 a (.lst xs) := h.elim (fun z => .inl (s _ _ z (.inl f))) fun ⟨o, z⟩ => .inr ⟨o, s _ _ z (.inl f)⟩
theorem sqt_F {K : PySem.W.Frag} {F : Addr → Prop} {H H1 : Hp} {a : Addr} {xs : List V} (s : SameF F H H1) (h : SqT K H a xs) : SqT K H1 a xs := h.imp (fun z => z.elim (fun z => .inl (s _ _ z (.inr rfl))) fun ⟨o, z⟩ => .inr ⟨o, s _ _ z (.inr rfl)⟩) id
mutual
theorem df_monoF {K : PySem.W.Frag} {F : Addr → Prop} {H H1 : Hp} (s : SameF F H H1) : ∀ {v : V} {d : PyData}, Df K F H v d → Df K F H1 v d
  | _, _, .non => .non
  | _, _, .bl b => .bl b
  | _, _, .int i => .int i
  | _, _, .str x => .str x
  | _, _, .lst h r => .lst (h.imp (fun z => ⟨rd_lstF s z.1 z.2, z.2⟩) id) (dfs_monoF s r)
  | _, _, .tup h r => .tup (sqt_F s h) (dfs_monoF s r)
theorem dfs_monoF {K : PySem.W.Frag} {F : Addr → Prop} {H H1 : Hp} (s : SameF F H H1) : ∀ {vs : List V} {ds : List PyData}, DfAll K F H vs ds → DfAll K F H1 vs ds
  | _, _, .nil => .nil
  | _, _, .cons h r => .cons (df_monoF s h) (dfs_monoF s r)
end
/-- a later heap, whose lists allow what stood -/
structure Ext (F : Addr → Prop) (H : Hp) (F2 : Addr → Prop) (H2 : Hp) : Prop where
  same : SameF F H H2
  ok : ∀ a, F a → H a ≠ none → F2 a
theorem Ext.refl {F : Addr → Prop} {H : Hp} : Ext F H F H := ⟨SameF.refl, fun _ h _ => h⟩
mutual
theorem df_in {K : PySem.W.Frag} {F : Addr → Prop} {H : Hp} : ∀ {v : V} {d : PyData}, Df K F H v d → Df K (fun a => F a ∧ H a ≠ none) H v d
  | _, _, .non => .non
  | _, _, .bl b => .bl b
  | _, _, .int i => .int i
  | _, _, .str x => .str x
  | _, _, .lst h r => .lst (h.imp (fun z => ⟨z.1, z.2, by rcases z.1 with z | ⟨o, z⟩ <;> (rw [z]; exact fun q => nomatch q)⟩) id) (dfs_in r)
  | _, _, .tup h r => .tup h (dfs_in r)
theorem dfs_in {K : PySem.W.Frag} {F : Addr → Prop} {H : Hp} : ∀ {vs : List V} {ds : List PyData}, DfAll K F H vs ds → DfAll K (fun a => F a ∧ H a ≠ none) H vs ds
  | _, _, .nil => .nil
  | _, _, .cons h r => .cons (df_in h) (dfs_in r)
end
theorem df_ext {K : PySem.W.Frag} {F F2 : Addr → Prop} {H H2 : Hp} {v : V} {d : PyData} (e : Ext F H F2 H2) (h : Df K F H v d) : Df K F2 H2 v d := df_mono (Same.refl _) (fun a z => e.ok a z.1 z.2) (df_monoF (e.same.sub fun _ z => z.1) (df_in h))
theorem dfs_ext {K : PySem.W.Frag} {F F2 : Addr → Prop} {H H2 : Hp} {v : List V} {d : List PyData} (e : Ext F H F2 H2) (h : DfAll K F H v d) : DfAll K F2 H2 v d := dfs_mono (Same.refl _) (fun a z => e.ok a z.1 z.2) (dfs_monoF (e.same.sub fun _ z => z.1) (dfs_in h))

theorem small5 {n : Nat} (h : n ≤ 100000) : n ≤ sizeLine := Nat.le_trans h (by decide)
theorem lt5 {n : Nat} (h : n < 100000) : n < sizeLine := Nat.lt_of_lt_of_le h (by decide)

/-! ### what evaluates to what, the heap growing -/
def ED (K : PySem.W.Frag) (te : TE) (σ : L2.St) (F : Addr → Prop) (H : Hp) (d : PyData) : Prop := ∀ H1, Same H H1 → ∀ Q : VK, (∀ v H2, Same H1 H2 → Df K (Fr F H1) H2 v d → Q v H2) → te σ H1 Q
def ET (tt : TT) (σ : L2.St) (H : Hp) (b : Bool) : Prop := ∀ H1, Same H H1 → ∀ Q : Bool → Hp → Prop, (∀ H2, Same H1 H2 → Q b H2) → tt σ H1 Q
def EA (K : PySem.W.Frag) (ta : TA) (σ : L2.St) (F : Addr → Prop) (H : Hp) (ds : List PyData) : Prop := ∀ H1, Same H H1 → ∀ Q : List V → Hp → Prop, (∀ vs H2, Same H1 H2 → DfAll K (Fr F H1) H2 vs ds → Q vs H2) → ta σ H1 Q
def EO (to : TO) (σ : L2.St) (H : Hp) (o : Option Int) : Prop := ∀ H1, Same H H1 → ∀ Q : Option Int → Hp → Prop, (∀ H2, Same H1 H2 → Q o H2) → to σ H1 Q

section
variable {K : PySem.W.Frag} {σ : L2.St} {F : Addr → Prop} {H H' : Hp} {ta tb te tc : TE} {t u : TT} {d e : PyData}
theorem ED.mono (s : Same H H') (h : ED K te σ F H d) : ED K te σ F H' d := fun H1 a Q q => h H1 (s.trans a) Q q
theorem ET.mono {b : Bool} (s : Same H H') (h : ET t σ H b) : ET t σ H' b := fun H1 a Q q => h H1 (s.trans a) Q q
theorem ed_var {i : Nat} {v : V} (h : σ[i]? = some (some v)) (hd : Df K F H v d) : ED K (tVar i) σ F H d := fun H1 s Q q => ⟨v, h, q v H1 (Same.refl _) (df_mono s Fr.base hd)⟩
theorem ed_c {v : V} (hd : ∀ F H, Df K F H v d) : ED K (tC v) σ F H d := fun H1 _ _ q => q v H1 (Same.refl _) (hd _ H1)
theorem ed_int {i : Int} : ED K (tC (.int i)) σ F H (.int i) := ed_c fun _ _ => .int i
theorem ed_str {x : Str} : ED K (tC (.str x)) σ F H (.str x) := ed_c fun _ _ => .str x
theorem ed_bl {b : Bool} : ED K (tC (.bl b)) σ F H (.bool b) := ed_c fun _ _ => .bl b
theorem ed_non : ED K (tC .non) σ F H .none := ed_c fun _ _ => .non
theorem ea_nil : EA K tNil σ F H [] := fun H1 _ _ q => q [] H1 (Same.refl _) .nil
theorem ea_cons {tr : TA} {ds : List PyData} (h : ED K te σ F H d) (r : EA K tr σ F H ds) : EA K (tCons te tr) σ F H (d :: ds) := fun H1 s Q q =>
  h H1 s _ fun v H2 s2 hv => r H2 (s.trans s2) _ fun vs H3 s3 hvs => q (v :: vs) H3 (s2.trans s3) (.cons (df_mono s3 (fun _ z => z) hv) (dfs_mono (Same.refl _) (Fr.to s2) hvs))
theorem ed_tup {ta : TA} {ds : List PyData} (h : EA K ta σ F H ds) (hl : ds.length ≤ 100000) : ED K (tTup ta) σ F H (.tuple ds) := fun H1 s Q q =>
  h H1 s _ fun vs H2 s2 hv => ⟨by rw [dfs_len hv]; exact small5 hl, fun p hp => q _ _ (s2.trans (Same.newA hp)) (.tup (.of upd_same) (dfs_mono (Same.newA hp) (fun _ z => z) hv))⟩
theorem ed_lst {ta : TA} {ds : List PyData} (h : EA K ta σ F H ds) (hl : ds.length ≤ 100000) : ED K (tLst ta) σ F H (.list ds) := fun H1 s Q q =>
  h H1 s _ fun vs H2 s2 hv => ⟨by rw [dfs_len hv]; exact small5 hl, fun p hp => q _ _ (s2.trans (Same.newA hp)) (.lst (.inl ⟨.inl upd_same, .inr (s2.freshA hp)⟩) (dfs_mono (Same.newA hp) (fun _ z => z) hv))⟩

/-- an operation of two values, read by its rule -/
def RD (K : PySem.W.Frag) (r : R2) (d e f : PyData) : Prop := ∀ (F : Addr → Prop) x y H1, Df K F H1 x d → Df K F H1 y e → ∀ Q : VK, (∀ v H2, Same H1 H2 → Df K (fun a => F a ∨ H1 a = none) H2 v f → Q v H2) → r x y H1 Q
theorem ed_op {r : R2} {f : PyData} (ha : ED K ta σ F H d) (hb : ED K tb σ F H e) (hr : RD K r d e f) : ED K (tOp r ta tb) σ F H f := fun H1 s Q q =>
  ha H1 s _ fun x H2 s2 hx => hb H2 (s.trans s2) _ fun y H3 s3 hy => hr (Fr F H1) x y H3 (df_mono s3 (fun _ z => z) hx) (df_mono (Same.refl _) (Fr.to s2) hy) Q fun v H4 s4 hv =>
    q v H4 ((s2.trans s3).trans s4) (df_mono (Same.refl _) (fun _ z => z.elim id fun e => .inr ((s2.trans s3).freshA e)) hv)
theorem rd_int {C : Int → Int → Prop} {g : Int → Int → Int} {i j : Int} (hc : C i j) : RD K (rI C fun i j => .int (g i j)) (.int i) (.int j) (.int (g i j)) := fun F x y H1 hx hy Q q => by
  cases hx; cases hy; exact ⟨i, j, rfl, rfl, hc, q _ _ (Same.refl _) (.int _)⟩
theorem rd_int0 {g : Int → Int → Int} {i j : Int} : RD K (rI0 fun i j => .int (g i j)) (.int i) (.int j) (.int (g i j)) := fun F x y H1 hx hy Q q => by
  cases hx; cases hy; exact ⟨i, j, rfl, rfl, q _ _ (Same.refl _) (.int _)⟩
theorem rd_cmp {g : Int → Int → Bool} {i j : Int} : RD K (rI0 fun i j => .bl (g i j)) (.int i) (.int j) (.bool (g i j)) := fun F x y H1 hx hy Q q => by
  cases hx; cases hy; exact ⟨i, j, rfl, rfl, q _ _ (Same.refl _) (.bl _)⟩
theorem ed_add {i j : Int} (ha : ED K ta σ F H (.int i)) (hb : ED K tb σ F H (.int j)) : ED K (tOp (rI0 fun i j => .int (i + j)) ta tb) σ F H (.int (i + j)) := ed_op ha hb rd_int0
theorem ed_sub {i j : Int} (ha : ED K ta σ F H (.int i)) (hb : ED K tb σ F H (.int j)) : ED K (tOp (rI0 fun i j => .int (i - j)) ta tb) σ F H (.int (i - j)) := ed_op ha hb rd_int0
theorem ed_lt {i j : Int} (ha : ED K ta σ F H (.int i)) (hb : ED K tb σ F H (.int j)) : ED K (tOp (rI0 fun i j => .bl (decide (i < j))) ta tb) σ F H (.bool (decide (i < j))) := ed_op ha hb rd_cmp
theorem ed_le {i j : Int} (ha : ED K ta σ F H (.int i)) (hb : ED K tb σ F H (.int j)) : ED K (tOp (rI0 fun i j => .bl (decide (i ≤ j))) ta tb) σ F H (.bool (decide (i ≤ j))) := ed_op ha hb rd_cmp
theorem ed_gt {i j : Int} (ha : ED K ta σ F H (.int i)) (hb : ED K tb σ F H (.int j)) : ED K (tOp (rI0 fun i j => .bl (decide (j < i))) ta tb) σ F H (.bool (decide (j < i))) := ed_op ha hb rd_cmp
theorem ed_ge {i j : Int} (ha : ED K ta σ F H (.int i)) (hb : ED K tb σ F H (.int j)) : ED K (tOp (rI0 fun i j => .bl (decide (j ≤ i))) ta tb) σ F H (.bool (decide (j ≤ i))) := ed_op ha hb rd_cmp
theorem ed_eqD (ha : ED K ta σ F H d) (hb : ED K tb σ F H e) (h1 : SeqAt.shaped d = true) (h2 : SeqAt.shaped e = true) : ED K (tOp (rEqD K) ta tb) σ F H (.bool (PyData.eqv d e)) :=
  ed_op ha hb fun F x y H1 hx hy Q q => ⟨d, e, df_dp hx, df_dp hy, h1, h2, q _ _ (Same.refl _) (.bl _)⟩
theorem ed_neD (ha : ED K ta σ F H d) (hb : ED K tb σ F H e) (h1 : SeqAt.shaped d = true) (h2 : SeqAt.shaped e = true) : ED K (tOp (rNeD K) ta tb) σ F H (.bool (!PyData.eqv d e)) :=
  ed_op ha hb fun F x y H1 hx hy Q q => ⟨d, e, df_dp hx, df_dp hy, h1, h2, q _ _ (Same.refl _) (.bl _)⟩
theorem ed_eqS {x y : Str} (ha : ED K ta σ F H (.str x)) (hb : ED K tb σ F H (.str y)) : ED K (tOp rEq ta tb) σ F H (.bool (decide (x = y))) :=
  ed_op ha hb fun F a b H1 hx hy Q q => by
    cases hx; cases hy
    refine ⟨rfl, ?_⟩
    have e : decide (V.str x = V.str y) = decide (x = y) := by
      by_cases z : x = y
      · rw [decide_eq_true z, decide_eq_true (congrArg V.str z)]
      · rw [decide_eq_false z, decide_eq_false (fun q => z (V.str.inj q))]
    rw [e]; exact q _ _ (Same.refl _) (.bl _)
theorem ed_eqI {x y : Int} (ha : ED K ta σ F H (.int x)) (hb : ED K tb σ F H (.int y)) : ED K (tOp rEq ta tb) σ F H (.bool (decide (x = y))) :=
  ed_op ha hb fun F a b H1 hx hy Q q => by
    cases hx; cases hy
    refine ⟨rfl, ?_⟩
    have e : decide (V.int x = V.int y) = decide (x = y) := by
      by_cases z : x = y
      · rw [decide_eq_true z, decide_eq_true (congrArg V.int z)]
      · rw [decide_eq_false z, decide_eq_false (fun q => z (V.int.inj q))]
    rw [e]; exact q _ _ (Same.refl _) (.bl _)
theorem ed_neS {x y : Str} (ha : ED K ta σ F H (.str x)) (hb : ED K tb σ F H (.str y)) : ED K (tOp rNe ta tb) σ F H (.bool (!decide (x = y))) :=
  ed_op ha hb fun F a b H1 hx hy Q q => by
    cases hx; cases hy
    refine ⟨rfl, ?_⟩
    have e : decide (V.str x = V.str y) = decide (x = y) := by
      by_cases z : x = y
      · rw [decide_eq_true z, decide_eq_true (congrArg V.str z)]
      · rw [decide_eq_false z, decide_eq_false (fun q => z (V.str.inj q))]
    rw [e]; exact q _ _ (Same.refl _) (.bl _)
theorem ed_neI {x y : Int} (ha : ED K ta σ F H (.int x)) (hb : ED K tb σ F H (.int y)) : ED K (tOp rNe ta tb) σ F H (.bool (!decide (x = y))) :=
  ed_op ha hb fun F a b H1 hx hy Q q => by
    cases hx; cases hy
    refine ⟨rfl, ?_⟩
    have e : decide (V.int x = V.int y) = decide (x = y) := by
      by_cases z : x = y
      · rw [decide_eq_true z, decide_eq_true (congrArg V.int z)]
      · rw [decide_eq_false z, decide_eq_false (fun q => z (V.int.inj q))]
    rw [e]; exact q _ _ (Same.refl _) (.bl _)
theorem ed_catS {x y : Str} (ha : ED K ta σ F H (.str x)) (hb : ED K tb σ F H (.str y)) (hl : x.length + y.length ≤ 100000) :
    ED K (tOp (fun x y H Q => ∃ i j, x = .str i ∧ y = .str j ∧ i.length + j.length ≤ sizeLine ∧ Q (.str (i ++ j)) H) ta tb) σ F H (.str (x ++ y)) :=
  ed_op ha hb fun F a b H1 hx hy Q q => by
    cases hx; cases hy; exact ⟨x, y, rfl, rfl, small5 hl, q _ _ (Same.refl _) (.str _)⟩
/-- x is None -/
def isNone : PyData → Bool | .none => true | _ => false
theorem isN_of {F : Addr → Prop} {H : Hp} {x : V} (h : Df K F H x d) : decide (x = .non) = isNone d := by cases h <;> rfl
theorem ed_isN (ha : ED K ta σ F H d) : ED K (tOp (fun x y H Q => y = .non ∧ Q (.bl (decide (x = .non))) H) ta (tC .non)) σ F H (.bool (isNone d)) :=
  ed_op ha ed_non fun F a b H1 hx hy Q q => by
    cases hy; refine ⟨rfl, ?_⟩; rw [isN_of hx]; exact q _ _ (Same.refl _) (.bl _)
/-- a written item of a list, a tuple, a text -/
theorem ed_ixT {ds : List PyData} {j : Nat} (ha : ED K ta σ F H (.tuple ds)) (hb : ED K tb σ F H (.int j)) (h : ds[j]? = some d) : ED K (tOp (rIx K) ta tb) σ F H d :=
  ed_op ha hb fun F a b H1 hx hy Q q => by
    cases hy
    cases hx with
    | tup hs r =>
      obtain ⟨v, e, hv⟩ := dfs_get r h
      exact .inr (.inl ⟨_, _, _, v, rfl, rfl, hs, atI_nat e, q _ _ (Same.refl _) (df_mono (Same.refl _) (fun _ z => .inl z) hv)⟩)
theorem ed_ixL {ds : List PyData} {j : Nat} (ha : ED K ta σ F H (.list ds)) (hb : ED K tb σ F H (.int j)) (h : ds[j]? = some d) : ED K (tOp (rIx K) ta tb) σ F H d :=
  ed_op ha hb fun F a b H1 hx hy Q q => by
    cases hy
    cases hx with
    | lst hs r =>
      obtain ⟨v, e, hv⟩ := dfs_get r h
      exact .inl ⟨_, _, _, v, rfl, rfl, hs.imp (fun z => z.1) id, atI_nat e, q _ _ (Same.refl _) (df_mono (Same.refl _) (fun _ z => .inl z) hv)⟩
theorem ed_ixS {x : Str} {j c : Nat} (ha : ED K ta σ F H (.str x)) (hb : ED K tb σ F H (.int j)) (hl : x.length ≤ 100000) (h : x.cps.toList[j]? = some c) : ED K (tOp (rIx K) ta tb) σ F H (.str ⟨#[c]⟩) :=
  ed_op ha hb fun F a b H1 hx hy Q q => by
    cases hy; cases hx
    exact .inr (.inr ⟨_, _, c, rfl, rfl, small5 hl, atI_nat h, q _ _ (Same.refl _) (.str _)⟩)

/-! ### tests -/
theorem et_test {b : Bool} (h : ED K te σ F H (.bool b)) : ET (tTest te) σ H b := fun H1 s Q q => h H1 s _ fun v H2 s2 hv => by
  cases hv; exact ⟨b, rfl, q H2 s2⟩
theorem et_B {b : Bool} (h : ED K te σ F H (.bool b)) : ET (tB te) σ H b := fun H1 s Q q => h H1 s _ fun v H2 s2 hv => by
  cases hv; exact ⟨b, rfl, q H2 s2⟩
theorem et_and {a b : Bool} (h1 : ET t σ H a) (h2 : a = true → ET u σ H b) : ET (tAnd t u) σ H (a && b) := fun H1 s Q q => h1 H1 s _ fun H2 s2 => by
  cases a with
  | true => exact h2 rfl H2 (s.trans s2) Q fun H3 s3 => q H3 (s2.trans s3)
  | false => exact q H2 s2
theorem et_or {a b : Bool} (h1 : ET t σ H a) (h2 : a = false → ET u σ H b) : ET (tOr t u) σ H (a || b) := fun H1 s Q q => h1 H1 s _ fun H2 s2 => by
  cases a with
  | true => exact q H2 s2
  | false => exact h2 rfl H2 (s.trans s2) Q fun H3 s3 => q H3 (s2.trans s3)
theorem et_not {a : Bool} (h1 : ET t σ H a) : ET (tNot t) σ H (!a) := fun H1 s Q q => h1 H1 s _ fun H2 s2 => q H2 s2
theorem et_is {a b : Bool} (h : ET t σ H a) (e : a = b) : ET t σ H b := e ▸ h
theorem ed_is (h : ED K te σ F H d) (z : d = e) : ED K te σ F H e := z ▸ h
theorem ed_andV {a b : Bool} (h1 : ED K ta σ F H (.bool a)) (h2 : a = true → ED K tb σ F H (.bool b)) : ED K (tAndV ta tb) σ F H (.bool (a && b)) := fun H1 s Q q => h1 H1 s _ fun v H2 s2 hv => by
  cases hv
  refine ⟨a, rfl, ?_⟩
  cases a with
  | true => exact h2 rfl H2 (s.trans s2) Q fun v H3 s3 hv => q v H3 (s2.trans s3) (df_mono (Same.refl _) (Fr.to s2) hv)
  | false => exact q _ H2 s2 (.bl _)
theorem ed_orV {a b : Bool} (h1 : ED K ta σ F H (.bool a)) (h2 : a = false → ED K tb σ F H (.bool b)) : ED K (tOrV ta tb) σ F H (.bool (a || b)) := fun H1 s Q q => h1 H1 s _ fun v H2 s2 hv => by
  cases hv
  refine ⟨a, rfl, ?_⟩
  cases a with
  | true => exact q _ H2 s2 (.bl _)
  | false => exact h2 rfl H2 (s.trans s2) Q fun v H3 s3 hv => q v H3 (s2.trans s3) (df_mono (Same.refl _) (Fr.to s2) hv)
theorem ed_notV {a : Bool} (h1 : ED K ta σ F H (.bool a)) : ED K (tNotV ta) σ F H (.bool (!a)) := fun H1 s Q q => h1 H1 s _ fun v H2 s2 hv => by
  cases hv; exact ⟨a, rfl, q _ H2 s2 (.bl _)⟩
theorem ed_if {b : Bool} (h : ET t σ H b) (h1 : b = true → ED K ta σ F H d) (h2 : b = false → ED K tb σ F H d) : ED K (tIf t ta tb) σ F H d := fun H1 s Q q => h H1 s _ fun H2 s2 => by
  cases b with
  | true => exact h1 rfl H2 (s.trans s2) Q fun v H3 s3 hv => q v H3 (s2.trans s3) (df_mono (Same.refl _) (Fr.to s2) hv)
  | false => exact h2 rfl H2 (s.trans s2) Q fun v H3 s3 hv => q v H3 (s2.trans s3) (df_mono (Same.refl _) (Fr.to s2) hv)
theorem ed_chain {r r' : R2} {a b : Bool} {f : PyData} (ha : ED K ta σ F H d) (hb : ED K tb σ F H e) (hc : ED K tc σ F H f) (h1 : RD K r d e (.bool a)) (h2 : a = true → RD K r' e f (.bool b)) :
    ED K (tChain r r' ta tb tc) σ F H (.bool (a && b)) := fun H1 s Q q =>
  ha H1 s _ fun x H2 s2 hx => hb H2 (s.trans s2) _ fun y H3 s3 hy => h1 (fun _ => True) x y H3 (df_mono s3 (fun _ _ => trivial) hx) (df_mono (Same.refl _) (fun _ _ => trivial) hy) _ fun z H4 s4 hz => by
    cases hz
    refine ⟨a, rfl, ?_⟩
    cases a with
    | true =>
      refine hc H4 (((s.trans s2).trans s3).trans s4) _ fun w H5 s5 hw => h2 rfl (fun _ => True) y w H5 (df_mono (s4.trans s5) (fun _ _ => trivial) hy) (df_mono (Same.refl _) (fun _ _ => trivial) hw) Q fun v H6 s6 hv => ?_
      cases hv
      exact q _ H6 ((((s2.trans s3).trans s4).trans s5).trans s6) (.bl _)
    | false => exact q _ H4 ((s2.trans s3).trans s4) (.bl _)

/-! ### built-in calls -/
def RDC (K : PySem.W.Frag) (r : List V → Hp → VK → Prop) (ds : List PyData) (f : PyData) : Prop := ∀ (F : Addr → Prop) vs H1, DfAll K F H1 vs ds → ∀ Q : VK, (∀ v H2, Same H1 H2 → Df K (fun a => F a ∨ H1 a = none) H2 v f → Q v H2) → r vs H1 Q
theorem ed_cb {r : List V → Hp → VK → Prop} {ta : TA} {ds : List PyData} (h : EA K ta σ F H ds) (hr : RDC K r ds d) : ED K (tCB r ta) σ F H d := fun H1 s Q q =>
  h H1 s _ fun vs H2 s2 hv => hr (Fr F H1) vs H2 hv Q fun v H3 s3 hv3 => q v H3 (s2.trans s3) (df_mono (Same.refl _) (fun _ z => z.elim id fun e => .inr (s2.freshA e)) hv3)
theorem ed_call {sp : Sp} {E : XK} {ta : TA} {ds : List PyData} (h : EA K ta σ F H ds) (hr : RDC K (fun vs H Q => sp vs H Q E) ds d) : ED K (tCall sp [] E ta) σ F H d := fun H1 s Q q =>
  h H1 s _ fun vs H2 s2 hv => by
    show sp (vs ++ []) H2 Q E
    rw [List.append_nil]
    exact hr (Fr F H1) vs H2 hv Q fun v H3 s3 hv3 => q v H3 (s2.trans s3) (df_mono (Same.refl _) (fun _ z => z.elim id fun e => .inr (s2.freshA e)) hv3)
/-- len of data -/
def lenP : PyData → Nat | .list ds => ds.length | .tuple ds => ds.length | .str x => x.length | _ => 0
def hasLen : PyData → Bool | .list _ => true | .tuple _ => true | .str x => decide (x.length ≤ 100000) | _ => false
theorem rdc_len (h : hasLen d = true) : RDC K (fun xs H Q => ∃ x n, xs = [x] ∧ LenV K x H n ∧ Q (.int n) H) [d] (.int (lenP d : Int)) := fun F vs H1 hv Q q => by
  cases hv with
  | cons a r =>
    cases r
    refine ⟨_, lenP d, rfl, ?_, q _ _ (Same.refl _) (.int _)⟩
    cases a with
    | lst hs r => exact .inl ⟨_, hs.imp (fun z => z.1) id, (dfs_len r).symm⟩
    | tup hs r => exact .inr ⟨_, hs, (dfs_len r).symm⟩
    | str x => exact ⟨small5 (of_decide_eq_true h), rfl⟩
    | _ => cases h
theorem ed_len (ha : ED K ta σ F H d) (h : hasLen d = true) : ED K (tCB (fun xs H Q => ∃ x n, xs = [x] ∧ LenV K x H n ∧ Q (.int n) H) (tCons ta tNil)) σ F H (.int (lenP d : Int)) := ed_cb (ea_cons ha ea_nil) (rdc_len h)
/-- isinstance of data -/
def tyName : PyData → String | .none => "NoneType" | .bool _ => "bool" | .int _ => "int" | .str _ => "str" | .list _ => "list" | .tuple _ => "tuple" | .dict _ => "dict"
theorem tyx_of {H : Hp} {x : V} (h : Dp K H x d) : TyX K H x (.type (tyName d)) := by
  cases h with
  | non => exact .base .non
  | bl b => exact .base (.bl b)
  | int i => exact .base (.int i)
  | str x => exact .base (.str x)
  | lst hs r =>
    rcases hs with (h | ⟨o, h⟩) | ⟨o, its, n, hk, hc, _⟩
    · exact .base (.lst h)
    · exact .base (.frz h)
    · exact .kList hk hc
  | tup hs r =>
    rcases hs with (h | ⟨o, h⟩) | ⟨o, its, n, hk, hc, _⟩
    · exact .base (.tup h)
    · exact .fTuple h
    · exact .kTuple hk hc
def isiB (T : String) : PyData → Bool
  | .none => false | .bool _ => T == "bool" || T == "int" | .int _ => T == "int" | .str _ => T == "str" | .list _ => T == "list" | .tuple _ => T == "tuple" | .dict _ => T == "dict"
theorem kit_all {T : String} (hT : T = "str" ∨ T = "tuple" ∨ T = "list" ∨ T = "int" ∨ T = "bool") {H : Hp} {x : V} (h : Dp K H x d) : PySem.W.kitOne K (.type (tyName d)) (.type T) = some (isiB T d) := by
  rcases hT with rfl | rfl | rfl | rfl | rfl
  · cases h with
    | non => exact kit_ty (show kitB "NoneType" "str" = some false by decide +kernel)
    | bl b => exact kit_ty (show kitB "bool" "str" = some false by decide +kernel)
    | int i => exact kit_ty (show kitB "int" "str" = some false by decide +kernel)
    | str x => exact kit_ty (show kitB "str" "str" = some true by decide +kernel)
    | lst hs r => exact kit_ty (show kitB "list" "str" = some false by decide +kernel)
    | tup hs r => exact kit_ty (show kitB "tuple" "str" = some false by decide +kernel)
  · cases h with
    | non => exact kit_ty (show kitB "NoneType" "tuple" = some false by decide +kernel)
    | bl b => exact kit_ty (show kitB "bool" "tuple" = some false by decide +kernel)
    | int i => exact kit_ty (show kitB "int" "tuple" = some false by decide +kernel)
    | str x => exact kit_ty (show kitB "str" "tuple" = some false by decide +kernel)
    | lst hs r => exact kit_ty (show kitB "list" "tuple" = some false by decide +kernel)
    | tup hs r => exact kit_ty (show kitB "tuple" "tuple" = some true by decide +kernel)
  · cases h with
    | non => exact kit_ty (show kitB "NoneType" "list" = some false by decide +kernel)
    | bl b => exact kit_ty (show kitB "bool" "list" = some false by decide +kernel)
    | int i => exact kit_ty (show kitB "int" "list" = some false by decide +kernel)
    | str x => exact kit_ty (show kitB "str" "list" = some false by decide +kernel)
    | lst hs r => exact kit_ty (show kitB "list" "list" = some true by decide +kernel)
    | tup hs r => exact kit_ty (show kitB "tuple" "list" = some false by decide +kernel)
  · cases h with
    | non => exact kit_ty (show kitB "NoneType" "int" = some false by decide +kernel)
    | bl b => exact kit_ty (show kitB "bool" "int" = some true by decide +kernel)
    | int i => exact kit_ty (show kitB "int" "int" = some true by decide +kernel)
    | str x => exact kit_ty (show kitB "str" "int" = some false by decide +kernel)
    | lst hs r => exact kit_ty (show kitB "list" "int" = some false by decide +kernel)
    | tup hs r => exact kit_ty (show kitB "tuple" "int" = some false by decide +kernel)
  · cases h with
    | non => exact kit_ty (show kitB "NoneType" "bool" = some false by decide +kernel)
    | bl b => exact kit_ty (show kitB "bool" "bool" = some true by decide +kernel)
    | int i => exact kit_ty (show kitB "int" "bool" = some false by decide +kernel)
    | str x => exact kit_ty (show kitB "str" "bool" = some false by decide +kernel)
    | lst hs r => exact kit_ty (show kitB "list" "bool" = some false by decide +kernel)
    | tup hs r => exact kit_ty (show kitB "tuple" "bool" = some false by decide +kernel)
theorem ed_isi {T : String} (ha : ED K ta σ F H d) (hT : T = "str" ∨ T = "tuple" ∨ T = "list" ∨ T = "int" ∨ T = "bool") : ED K (tCB (rIsi K) (tCons ta (tCons (tC (.ty T)) tNil))) σ F H (.bool (isiB T d)) := fun H1 s Q q =>
  ha H1 s _ fun x H2 s2 hx => ⟨x, .ty T, _, _, _, rfl, .ty T, tyx_of (df_dp hx), kit_all hT (df_dp hx), q _ _ s2 (.bl _)⟩
/-- all, any of bools -/
theorem ed_all {bs : List Bool} (ha : ED K ta σ F H (.list (bs.map .bool))) : ED K (tCB (rAll K) (tCons ta tNil)) σ F H (.bool (bs.all id)) := ed_cb (ea_cons ha ea_nil) fun F vs H1 hv Q q => by
  cases hv with
  | cons a r =>
    cases r
    cases a with
    | lst hs r => rw [bls_dps (dfs_dps r)] at hs; exact ⟨_, bs, rfl, hs.imp (fun z => z.1) id, q _ _ (Same.refl _) (.bl _)⟩
theorem ed_sum {ns : List Int} (ha : ED K ta σ F H (.list (ns.map .int))) : ED K (tCB (rSum K) (tCons ta tNil)) σ F H (.int ns.sum) := ed_cb (ea_cons ha ea_nil) fun F vs H1 hv Q q => by
  cases hv with
  | cons a r =>
    cases r
    cases a with
    | lst hs r => rw [ints_dps (dfs_dps r)] at hs; exact ⟨_, ns, rfl, hs.imp (fun z => z.1) id, q _ _ (Same.refl _) (.int _)⟩
/-- tuple(xs), list(xs) -/
def seqOf : PyData → List PyData | .list ds => ds | .tuple ds => ds | _ => []
def isSeq : PyData → Bool | .list _ => true | .tuple _ => true | _ => false
theorem ed_tupleOf (ha : ED K ta σ F H d) (h : isSeq d = true) : ED K (tCB (fun xs H Q => ∃ p ys, xs = [.ref p] ∧ ((SqL K H p ys ∧ ∀ l, H l = none → Q (.ref l) (upd H l (.tup ys))) ∨ (SqT K H p ys ∧ Q (.ref p) H))) (tCons ta tNil)) σ F H (.tuple (seqOf d)) := ed_cb (ea_cons ha ea_nil) fun F vs H1 hv Q q => by
  cases hv with
  | cons a r =>
    cases r
    cases a with
    | lst hs r => exact ⟨_, _, rfl, .inl ⟨hs.imp (fun z => z.1) id, fun l hl => q _ _ (Same.newA hl) (.tup (.of upd_same) (dfs_mono (Same.newA hl) (fun _ z => .inl z) r))⟩⟩
    | tup hs r => exact ⟨_, _, rfl, .inr ⟨hs, q _ _ (Same.refl _) (.tup hs (dfs_mono (Same.refl _) (fun _ z => .inl z) r))⟩⟩
    | _ => cases h
theorem ed_listOf (ha : ED K ta σ F H d) (h : isSeq d = true) : ED K (tCB (fun xs H Q => ∃ p ys, xs = [.ref p] ∧ (SqL K H p ys ∨ SqT K H p ys) ∧ ∀ l, H l = none → Q (.ref l) (upd H l (.lst ys))) (tCons ta tNil)) σ F H (.list (seqOf d)) := ed_cb (ea_cons ha ea_nil) fun F vs H1 hv Q q => by
  cases hv with
  | cons a r =>
    cases r
    cases a with
    | lst hs r => exact ⟨_, _, rfl, .inl (hs.imp (fun z => z.1) id), fun l hl => q _ _ (Same.newA hl) (.lst (.inl ⟨.inl upd_same, .inr hl⟩) (dfs_mono (Same.newA hl) (fun _ z => .inl z) r))⟩
    | tup hs r => exact ⟨_, _, rfl, .inr hs, fun l hl => q _ _ (Same.newA hl) (.lst (.inl ⟨.inl upd_same, .inr hl⟩) (dfs_mono (Same.newA hl) (fun _ z => .inl z) r))⟩
    | _ => cases h
end
end Ag

set_option Elab.async false
set_option linter.all false
set_option maxRecDepth 100000
set_option maxHeartbeats 1000000
/-! The pen: a dict of five written keys; what a draw leaves. -/
namespace Ag
open PySem PySem.Spec PyProof.Rows L2

abbrev ck (s : Str) : Key := Sum.inr s
def penKV (c : Addr) (at_ dig cnt fold : Int) : List (Key × V) :=
  [(ck "cells", .ref c), (ck "at", .int at_), (ck "digits", .int dig), (ck "count", .int cnt), (ck "fold", .int fold)]
theorem kn1 : ¬ ck "cells" = ck "at" := by decide +kernel
theorem kn2 : ¬ ck "cells" = ck "digits" := by decide +kernel
theorem kn3 : ¬ ck "cells" = ck "count" := by decide +kernel
theorem kn4 : ¬ ck "cells" = ck "fold" := by decide +kernel
theorem kn5 : ¬ ck "at" = ck "digits" := by decide +kernel
theorem kn6 : ¬ ck "at" = ck "count" := by decide +kernel
theorem kn7 : ¬ ck "at" = ck "fold" := by decide +kernel
theorem kn8 : ¬ ck "digits" = ck "count" := by decide +kernel
theorem kn9 : ¬ ck "digits" = ck "fold" := by decide +kernel
theorem kn0 : ¬ ck "count" = ck "fold" := by decide +kernel
theorem sn_cells_at : ¬ Str.ofString "cells" = Str.ofString "at" := by decide +kernel
theorem sn_cells_digits : ¬ Str.ofString "cells" = Str.ofString "digits" := by decide +kernel
theorem sn_cells_count : ¬ Str.ofString "cells" = Str.ofString "count" := by decide +kernel
theorem sn_cells_fold : ¬ Str.ofString "cells" = Str.ofString "fold" := by decide +kernel
theorem sn_at_cells : ¬ Str.ofString "at" = Str.ofString "cells" := by decide +kernel
theorem sn_at_digits : ¬ Str.ofString "at" = Str.ofString "digits" := by decide +kernel
theorem sn_at_count : ¬ Str.ofString "at" = Str.ofString "count" := by decide +kernel
theorem sn_at_fold : ¬ Str.ofString "at" = Str.ofString "fold" := by decide +kernel
theorem sn_digits_cells : ¬ Str.ofString "digits" = Str.ofString "cells" := by decide +kernel
theorem sn_digits_at : ¬ Str.ofString "digits" = Str.ofString "at" := by decide +kernel
theorem sn_digits_count : ¬ Str.ofString "digits" = Str.ofString "count" := by decide +kernel
theorem sn_digits_fold : ¬ Str.ofString "digits" = Str.ofString "fold" := by decide +kernel
theorem sn_count_cells : ¬ Str.ofString "count" = Str.ofString "cells" := by decide +kernel
theorem sn_count_at : ¬ Str.ofString "count" = Str.ofString "at" := by decide +kernel
theorem sn_count_digits : ¬ Str.ofString "count" = Str.ofString "digits" := by decide +kernel
theorem sn_count_fold : ¬ Str.ofString "count" = Str.ofString "fold" := by decide +kernel
theorem sn_fold_cells : ¬ Str.ofString "fold" = Str.ofString "cells" := by decide +kernel
theorem sn_fold_at : ¬ Str.ofString "fold" = Str.ofString "at" := by decide +kernel
theorem sn_fold_digits : ¬ Str.ofString "fold" = Str.ofString "digits" := by decide +kernel
theorem sn_fold_count : ¬ Str.ofString "fold" = Str.ofString "count" := by decide +kernel
section
variable {c : Addr} {a d n f x : Int}
theorem pen_cells : valV (penKV c a d n f) (ck "cells") = some (.ref c) := valV_pos rfl
theorem pen_at : valV (penKV c a d n f) (ck "at") = some (.int a) := by unfold penKV; rw [valV_neg kn1]; exact valV_pos rfl
theorem pen_dig : valV (penKV c a d n f) (ck "digits") = some (.int d) := by unfold penKV; rw [valV_neg kn2, valV_neg kn5]; exact valV_pos rfl
theorem pen_cnt : valV (penKV c a d n f) (ck "count") = some (.int n) := by unfold penKV; rw [valV_neg kn3, valV_neg kn6, valV_neg kn8]; exact valV_pos rfl
theorem pen_fold : valV (penKV c a d n f) (ck "fold") = some (.int f) := by unfold penKV; rw [valV_neg kn4, valV_neg kn7, valV_neg kn9, valV_neg kn0]; exact valV_pos rfl
theorem put_at : putK (penKV c a d n f) (ck "at") (.int x) = penKV c x d n f := by
  unfold putK; rw [valV_any, pen_at]
  simp [penKV, ck, sn_cells_at, sn_cells_digits, sn_cells_count, sn_cells_fold, sn_at_cells, sn_at_digits, sn_at_count, sn_at_fold, sn_digits_cells, sn_digits_at, sn_digits_count, sn_digits_fold, sn_count_cells, sn_count_at, sn_count_digits, sn_count_fold, sn_fold_cells, sn_fold_at, sn_fold_digits, sn_fold_count]
theorem put_dig : putK (penKV c a d n f) (ck "digits") (.int x) = penKV c a x n f := by
  unfold putK; rw [valV_any, pen_dig]
  simp [penKV, ck, sn_cells_at, sn_cells_digits, sn_cells_count, sn_cells_fold, sn_at_cells, sn_at_digits, sn_at_count, sn_at_fold, sn_digits_cells, sn_digits_at, sn_digits_count, sn_digits_fold, sn_count_cells, sn_count_at, sn_count_digits, sn_count_fold, sn_fold_cells, sn_fold_at, sn_fold_digits, sn_fold_count]
theorem put_cnt : putK (penKV c a d n f) (ck "count") (.int x) = penKV c a d x f := by
  unfold putK; rw [valV_any, pen_cnt]
  simp [penKV, ck, sn_cells_at, sn_cells_digits, sn_cells_count, sn_cells_fold, sn_at_cells, sn_at_digits, sn_at_count, sn_at_fold, sn_digits_cells, sn_digits_at, sn_digits_count, sn_digits_fold, sn_count_cells, sn_count_at, sn_count_digits, sn_count_fold, sn_fold_cells, sn_fold_at, sn_fold_digits, sn_fold_count]
theorem put_fold : putK (penKV c a d n f) (ck "fold") (.int x) = penKV c a d n x := by
  unfold putK; rw [valV_any, pen_fold]
  simp [penKV, ck, sn_cells_at, sn_cells_digits, sn_cells_count, sn_cells_fold, sn_at_cells, sn_at_digits, sn_at_count, sn_at_fold, sn_digits_cells, sn_digits_at, sn_digits_count, sn_digits_fold, sn_count_cells, sn_count_at, sn_count_digits, sn_count_fold, sn_fold_cells, sn_fold_at, sn_fold_digits, sn_fold_count]
end
/-- the pen at p, its cells at c; n bounds how often it has been drawn -/
def Pen (p c : Addr) (n : Nat) (H : Hp) : Prop :=
  ∃ (cells : List Int) (a d k f : Int), H p = some (.dK (penKV c a d k f)) ∧ Rd H c (.lst (cells.map V.int)) ∧ 0 ≤ a ∧ 0 ≤ d ∧ 0 ≤ k ∧ k ≤ n ∧ 0 ≤ f ∧ f < 2147483648
/-- all but the pen is kept -/
def But (p : Addr) (H H' : Hp) : Prop := ∀ a o, a ≠ p → H a = some o → H' a = some o
theorem But.refl (p : Addr) (H : Hp) : But p H H := fun _ _ _ h => h
theorem But.trans {p : Addr} {H H1 H2 : Hp} (a : But p H H1) (b : But p H1 H2) : But p H H2 := fun x o n h => b x o n (a x o n h)
theorem But.of {p : Addr} {H H1 : Hp} (a : Same H H1) : But p H H1 := fun x o _ h => a x o h
theorem But.free {p a : Addr} {H H1 : Hp} (b : But p H H1) (h : H1 a = none) (n : a ≠ p) : H a = none := by
  cases q : H a with
  | none => rfl
  | some o => rw [b a o n q] at h; cases h
section
variable {K : PySem.W.Frag} {p c : Addr} {n : Nat} {H H' : Hp}
theorem Pen.ne {a : Addr} {o : HO} (h : Pen p c n H) (e : H a = some o) (no : ∀ kvs, o ≠ .dK kvs) : a ≠ p := by
  obtain ⟨cells, a', d, k, f, hp, _⟩ := h
  exact ne_of e hp (no _)
theorem Pen.rd {a : Addr} {u : HO} (h : Pen p c n H) (b : But p H H') (r : Rd H a u) (no : ∀ kvs, u ≠ .dK kvs) : Rd H' a u := by
  rcases r with r | ⟨o, r⟩
  · exact .inl (b _ _ (h.ne r no) r)
  · exact .inr ⟨o, b _ _ (h.ne r (fun _ z => nomatch z)) r⟩
theorem Pen.sl {a : Addr} {xs : List V} (h : Pen p c n H) (b : But p H H') (r : SqL K H a xs) : SqL K H' a xs := r.imp (fun z => h.rd b z (fun _ z => nomatch z)) id
theorem Pen.st {a : Addr} {xs : List V} (h : Pen p c n H) (b : But p H H') (r : SqT K H a xs) : SqT K H' a xs := r.imp (fun z => h.rd b z (fun _ z => nomatch z)) id
mutual
theorem Pen.dp (h : Pen p c n H) (b : But p H H') : ∀ {v : V} {d : PyData}, Dp K H v d → Dp K H' v d
  | _, _, .non => .non
  | _, _, .bl b => .bl b
  | _, _, .int i => .int i
  | _, _, .str x => .str x
  | _, _, .lst q r => .lst (h.sl b q) (Pen.dps h b r)
  | _, _, .tup q r => .tup (h.st b q) (Pen.dps h b r)
theorem Pen.dps (h : Pen p c n H) (b : But p H H') : ∀ {vs : List V} {ds : List PyData}, DpAll K H vs ds → DpAll K H' vs ds
  | _, _, .nil => .nil
  | _, _, .cons q r => .cons (Pen.dp h b q) (Pen.dps h b r)
end
theorem Pen.same (h : Pen p c n H) (s : Same H H') : Pen p c n H' := by
  obtain ⟨cells, a, d, k, f, hp, hc, r⟩ := h
  exact ⟨cells, a, d, k, f, s _ _ hp, s.rdA hc, r⟩
theorem Pen.more {m : Nat} (h : Pen p c n H) (l : n ≤ m) : Pen p c m H := by
  obtain ⟨cells, a, d, k, f, hp, hc, h1, h2, h3, h4, r⟩ := h
  exact ⟨cells, a, d, k, f, hp, hc, h1, h2, h3, Int.le_trans h4 (by omega), r⟩
theorem Pen.some_p (h : Pen p c n H) : ∃ o, H p = some o := by
  obtain ⟨cells, a, d, k, f, hp, _⟩ := h; exact ⟨_, hp⟩
theorem Pen.some_c (h : Pen p c n H) : ∃ o, H c = some o := by
  obtain ⟨cells, a, d, k, f, hp, hc, _⟩ := h
  rcases hc with hc | ⟨o, hc⟩ <;> exact ⟨_, hc⟩
/-- an own object is changed or made: the pen stands -/
theorem Pen.upd {l : Addr} {o : HO} (h : Pen p c n H) (h1 : l ≠ p) (h2 : l ≠ c) : Pen p c n (L2.upd H l o) := by
  obtain ⟨cells, a, d, k, f, hp, hc, r⟩ := h
  refine ⟨cells, a, d, k, f, by rw [upd_ne (Ne.symm h1)]; exact hp, ?_, r⟩
  rcases hc with hc | ⟨o, hc⟩
  · exact .inl (by rw [upd_ne (Ne.symm h2)]; exact hc)
  · exact .inr ⟨o, by rw [upd_ne (Ne.symm h2)]; exact hc⟩
theorem Pen.ne_p {l : Addr} (h : Pen p c n H) (hl : H l = none) : l ≠ p := by
  obtain ⟨o, e⟩ := h.some_p
  exact Ne.symm (ne_of_none e hl)
theorem Pen.ne_c {l : Addr} (h : Pen p c n H) (hl : H l = none) : l ≠ c := by
  obtain ⟨o, e⟩ := h.some_c
  exact Ne.symm (ne_of_none e hl)
end

section
variable {H : Hp} {p c : Addr} {a d n f x : Int}
theorem pg_cells (h : H p = some (.dK (penKV c a d n f))) : DGet H p (.str "cells") (some (.ref c)) := by
  have q := DGet.k (k := ck "cells") h
  rw [pen_cells] at q; exact q
theorem pg_at (h : H p = some (.dK (penKV c a d n f))) : DGet H p (.str "at") (some (.int a)) := by
  have q := DGet.k (k := ck "at") h
  rw [pen_at] at q; exact q
theorem pg_dig (h : H p = some (.dK (penKV c a d n f))) : DGet H p (.str "digits") (some (.int d)) := by
  have q := DGet.k (k := ck "digits") h
  rw [pen_dig] at q; exact q
theorem pg_cnt (h : H p = some (.dK (penKV c a d n f))) : DGet H p (.str "count") (some (.int n)) := by
  have q := DGet.k (k := ck "count") h
  rw [pen_cnt] at q; exact q
theorem pg_fold (h : H p = some (.dK (penKV c a d n f))) : DGet H p (.str "fold") (some (.int f)) := by
  have q := DGet.k (k := ck "fold") h
  rw [pen_fold] at q; exact q
theorem pp_at (h : H p = some (.dK (penKV c a d n f))) : DPut H p (.str "at") (.int x) (upd H p (.dK (penKV c x d n f))) := by
  have q := DPut.k (k := ck "at") (v := .int x) h (by show 5 < sizeLine; decide)
  rw [put_at] at q; exact q
theorem pp_dig (h : H p = some (.dK (penKV c a d n f))) : DPut H p (.str "digits") (.int x) (upd H p (.dK (penKV c a x n f))) := by
  have q := DPut.k (k := ck "digits") (v := .int x) h (by show 5 < sizeLine; decide)
  rw [put_dig] at q; exact q
theorem pp_cnt (h : H p = some (.dK (penKV c a d n f))) : DPut H p (.str "count") (.int x) (upd H p (.dK (penKV c a d x f))) := by
  have q := DPut.k (k := ck "count") (v := .int x) h (by show 5 < sizeLine; decide)
  rw [put_cnt] at q; exact q
theorem pp_fold (h : H p = some (.dK (penKV c a d n f))) : DPut H p (.str "fold") (.int x) (upd H p (.dK (penKV c a d n x))) := by
  have q := DPut.k (k := ck "fold") (v := .int x) h (by show 5 < sizeLine; decide)
  rw [put_fold] at q; exact q
end
/-- the promise of a draw -/
def spDraw : Sp := fun vs H Q _ => ∃ (p c : Addr) (many : Int) (n : Nat), vs = [.ref p, .int many] ∧ Pen p c n H ∧ 0 < many ∧ many < 1000000 ∧ n < 1000000000000 ∧
  ∀ (d : Int) H', 0 ≤ d → d < many → But p H H' → Pen p c (n + 1) H' → Q (.int d) H'
end Ag

set_option Elab.async false
set_option linter.all false
set_option maxRecDepth 100000
set_option maxHeartbeats 1000000
/-! Comprehensions over data, statements over data. -/
namespace Ag
open PySem PySem.Spec PyProof.Rows L2
/-- a walk that hands out the data ds, as long as what stood at H stands -/
structure Wk (K : PySem.W.Frag) (F : Addr → Prop) (H : Hp) (J : It) (ds : List PyData) : Prop where
  go : ∀ i H', SameF F H H' → i < ds.length → J.go i H'
  stop : ∀ H', SameF F H H' → J.stop ds.length H'
  yld : ∀ i H' x H'', SameF F H H' → J.yld i H' x H'' → ∃ d, ds[i]? = some d ∧ Same H' H'' ∧ Df K (fun a => F a ∧ H a ≠ none) H'' x d
def EI (K : PySem.W.Frag) (wi : TI) (σ : L2.St) (F : Addr → Prop) (H : Hp) (ds : List PyData) : Prop := ∀ H1, Same H H1 → ∀ R : It → Hp → Prop, (∀ J H2, Same H1 H2 → Wk K (Fr F H1) H2 J ds → R J H2) → wi σ H1 R
section
variable {K : PySem.W.Frag} {σ : L2.St} {F : Addr → Prop} {H : Hp} {te tl : TE} {ds : List PyData}
theorem slF {a : Addr} {xs : List V} {H' : Hp} (s : SameF F H H') (h : (Rd H a (.lst xs) ∧ F a) ∨ KL K a xs) : SqL K H' a xs := h.imp (fun z => rd_lstF s z.1 z.2) id
theorem wk_list {a : Addr} {xs : List V} (h : (Rd H a (.lst xs) ∧ F a) ∨ KL K a xs) (r : DfAll K F H xs ds) : Wk K F H (Itl K a) ds where
  go := fun i H' s hi => by
    obtain ⟨d, e⟩ : ∃ d, ds[i]? = some d := ⟨_, List.getElem?_eq_getElem hi⟩
    obtain ⟨v, q, _⟩ := dfs_get r e
    exact ⟨xs, v, slF s h, q⟩
  stop := fun H' s => ⟨xs, slF s h, by rw [dfs_len r]; exact Nat.le_refl _⟩
  yld := fun i H' x H'' s y => by
    obtain ⟨rfl, y⟩ := y
    obtain ⟨d, e, hd⟩ := dfs_get' (dfs_monoF (s.sub fun _ z => z.1) (dfs_in r)) (y xs (slF s h))
    exact ⟨d, e, Same.refl _, hd⟩
theorem wk_tup {a : Addr} {xs : List V} (h : SqT K H a xs) (r : DfAll K F H xs ds) : Wk K F H (Itt K a) ds where
  go := fun i H' s hi => by
    obtain ⟨d, e⟩ : ∃ d, ds[i]? = some d := ⟨_, List.getElem?_eq_getElem hi⟩
    obtain ⟨v, q, _⟩ := dfs_get r e
    exact ⟨xs, v, sqt_F s h, q⟩
  stop := fun H' s => ⟨xs, sqt_F s h, by rw [dfs_len r]; exact Nat.le_refl _⟩
  yld := fun i H' x H'' s y => by
    obtain ⟨rfl, y⟩ := y
    obtain ⟨d, e, hd⟩ := dfs_get' (dfs_monoF (s.sub fun _ z => z.1) (dfs_in r)) (y xs (sqt_F s h))
    exact ⟨d, e, Same.refl _, hd⟩
theorem ei_list (h : ED K tl σ F H (.list ds)) : EI K (iList K tl) σ F H ds := fun H1 s R q => h H1 s _ fun v H2 s2 hv => by
  cases hv with
  | lst hs r => exact ⟨_, rfl, ⟨_, hs.imp (fun z => z.1) id⟩, q _ H2 s2 (wk_list hs r)⟩
theorem ei_tup (h : ED K tl σ F H (.tuple ds)) : EI K (iTup K tl) σ F H ds := fun H1 s R q => h H1 s _ fun v H2 s2 hv => by
  cases hv with
  | tup hs r => exact ⟨_, rfl, ⟨_, hs⟩, q _ H2 s2 (wk_tup hs r)⟩
def signs (x : Str) : List PyData := x.cps.toList.map fun c => .str ⟨#[c]⟩
theorem ei_str {x : Str} (h : ED K te σ F H (.str x)) : EI K (iStr te) σ F H (signs x) := fun H1 s R q => h H1 s _ fun v H2 s2 hv => by
  cases hv
  refine ⟨x, rfl, q _ H2 s2 ⟨fun i H' _ hi => ?_, fun H' _ => ?_, fun i H' y H'' _ z => ?_⟩⟩
  · show i < x.cps.size
    rw [← Array.length_toList]; unfold signs at hi; rw [List.length_map] at hi; exact hi
  · show x.cps.size ≤ (signs x).length
    unfold signs; rw [List.length_map, Array.length_toList]; exact Nat.le_refl _
  · obtain ⟨rfl, c, e, rfl⟩ := z
    refine ⟨.str ⟨#[c]⟩, ?_, Same.refl _, .str _⟩
    unfold signs
    rw [List.getElem?_map, Array.getElem?_toList, e]; rfl
def zipD (xs ys : List PyData) : List PyData := List.zipWith (fun a b => .tuple [a, b]) xs ys
theorem ei_zip {ta : TA} {xs ys : List PyData} (h : EA K ta σ F H [.tuple xs, .tuple ys]) : EI K (RZ.iZipA K ta) σ F H (zipD xs ys) := fun H1 s R q => h H1 s _ fun vs H2 s2 hv => by
  cases hv with
  | cons a r =>
    cases r with
    | cons b r =>
      cases r
      cases a with
      | tup ha ra =>
        cases b with
        | tup hb rb =>
          refine ⟨_, _, _, _, rfl, .inr ⟨ha, hb, q _ H2 s2 ⟨fun i H' s3 hi => ?_, fun H' s3 => ?_, fun i H' y H'' s3 z => ?_⟩⟩⟩
          · have hi' : i < xs.length ∧ i < ys.length := by
              unfold zipD at hi; rw [List.length_zipWith] at hi; omega
            obtain ⟨v, e, _⟩ := dfs_get ra (List.getElem?_eq_getElem hi'.1)
            obtain ⟨v2, e2, _⟩ := dfs_get rb (List.getElem?_eq_getElem hi'.2)
            exact ⟨_, _, v, v2, sqt_F s3 ha, sqt_F s3 hb, e, e2⟩
          · refine ⟨_, _, sqt_F s3 ha, sqt_F s3 hb, ?_⟩
            unfold zipD; rw [List.length_zipWith, dfs_len ra, dfs_len rb]; omega
          · obtain ⟨T, x, x2, rfl, hT, rfl, e1, e2⟩ := z
            obtain ⟨d, q1, hd⟩ := dfs_get' (dfs_in ra) (e1 _ (sqt_F s3 ha))
            obtain ⟨d2, q2, hd2⟩ := dfs_get' (dfs_in rb) (e2 _ (sqt_F s3 hb))
            refine ⟨.tuple [d, d2], ?_, Same.newA hT, .tup (.of upd_same) (.cons (df_mono (Same.newA hT) (fun _ z => z) (df_monoF (s3.sub fun _ z => z.1) hd)) (.cons (df_mono (Same.newA hT) (fun _ z => z) (df_monoF (s3.sub fun _ z => z.1) hd2)) .nil))⟩
            unfold zipD; rw [List.getElem?_zipWith, q1, q2]
/-- a comprehension over data: the list made -/
theorem lc_run {wi : TI} {g : TG} {tt : TT} {vs : List Nat} {f : PyData → Bool} {m : PyData → PyData} (hi : EI K wi σ F H ds) (hl : ds.length ≤ 50000)
    (ht : ∀ F2 H1, Ext F H F2 H1 → ∀ v d, d ∈ ds → Df K F2 H1 v d → ∃ σ2, (∀ Q : L2.St → Hp → Prop, Q σ2 H1 → g v (wipe σ vs) H1 Q) ∧ wipe σ2 vs = wipe σ vs ∧ ET tt σ2 H1 (f d) ∧ (f d = true → ED K te σ2 F2 H1 (m d))) :
    ∀ H1, Same H H1 → ∀ Q : VK, (∀ D ys H', Same H1 H' → H1 D = none → H' D = some (.lst ys) → DfAll K (fun a => Fr F H1 a ∧ a ≠ D) H' ys ((ds.filter f).map m) → Q (.ref D) H') → tLc wi g tt te vs σ H1 Q := fun H1 s Q q => hi H1 s _ fun J H2 s2 W D hD => by
  have out : ∀ i, i ≤ ds.length → (((ds.take i).filter f).map m).length < 100000 := fun i hi => by
    rw [List.length_map]
    have := List.length_filter_le f (ds.take i)
    rw [List.length_take] at this
    omega
  have hD1 : H1 D = none := s2.freshA hD
  -- what items may be: lists not at D
  let F2 : Addr → Prop := fun a => Fr F H1 a ∧ a ≠ D
  have nF : ¬ F2 D := fun z => z.2 rfl
  refine ⟨fun i k H' => k = ds.length - i ∧ i ≤ ds.length ∧ Same H2 H' ∧ ∃ ys, H' D = some (.lst ys) ∧ DfAll K F2 H' ys (((ds.take i).filter f).map m), ⟨ds.length, by simp, Nat.zero_le _, Same.newA hD, [], upd_same, by simp; exact .nil⟩, ?_⟩
  rintro i k H' ⟨rfl, hi, s3, ys, e, r⟩
  by_cases lt : i < ds.length
  · refine .inr ⟨W.go i H' s3.F lt, fun H5 => Same H2 H5 ∧ ∃ ys, H5 D = some (.lst ys) ∧ DfAll K F2 H5 ys (((ds.take (i + 1)).filter f).map m), fun H5 ⟨a, b⟩ => ⟨ds.length - (i + 1), by omega, rfl, lt, a, b⟩, fun x H3 y => ?_⟩
    obtain ⟨d, hd, s4, hx⟩ := W.yld i H' x H3 s3.F y
    have hx2 : Df K F2 H3 x d := df_mono (Same.refl _) (fun a z => ⟨z.1, fun q => z.2 (q ▸ hD)⟩) hx
    obtain ⟨σ2, hg, hw, htt, hte⟩ := ht F2 H3 ⟨(((s.trans s2).trans s3).trans s4).F, fun a z n => ⟨.inl z, fun q => n (s.freshA (q ▸ hD1))⟩⟩ x d (List.mem_of_getElem? hd) hx2
    have tk : ds.take (i + 1) = ds.take i ++ [d] := by rw [List.take_succ, hd]; rfl
    refine hg _ ⟨hw, htt H3 (Same.refl _) _ fun H4 s5 => ?_⟩
    cases hf : f d with
    | true =>
      refine hte hf H4 s5 _ fun v H5 s6 hv => ?_
      have e4 : H4 D = some (.lst ys) := s5 _ _ (s4 _ _ e)
      have e5 : H5 D = some (.lst ys) := s6 _ _ e4
      have s45 := (s4.trans s5).trans s6
      have r5 : DfAll K F2 H5 ys (((ds.take i).filter f).map m) := dfs_mono s45 (fun _ z => z) r
      have v5 : Df K F2 H5 v (m d) := df_mono (Same.refl _) (fun a z => by
        rcases z with z | z
        · exact z
        · exact ⟨.inr (s2.freshA (s3.freshA ((s4.trans s5).freshA z))), fun q => by rw [q, e4] at z; cases z⟩) hv
      refine ⟨ys, e5, lt5 (by rw [dfs_len r5]; exact out i hi), fun a u h => ?_, ys ++ [v], upd_same, ?_⟩
      · rw [upd_ne (ne_of_none h hD)]; exact s45 _ _ (s3 _ _ h)
      · rw [tk, List.filter_append, List.map_append]
        have e1 : ([d].filter f).map m = [m d] := by simp [hf]
        rw [e1]
        exact dfs_app (dfs_upd e5 nF r5) (.cons (df_upd e5 nF v5) .nil)
    | false =>
      refine ⟨fun a u h => s5 _ _ (s4 _ _ (s3 _ _ h)), ys, s5 _ _ (s4 _ _ e), ?_⟩
      rw [tk, List.filter_append, List.map_append]
      have e1 : ([d].filter f).map m = [] := by simp [hf]
      rw [e1, List.append_nil]
      exact dfs_mono (s4.trans s5) (fun _ z => z) r
  · have : i = ds.length := by omega
    subst this
    refine .inl ⟨W.stop H' s3.F, q D ys H' (s2.trans s3) hD1 e ?_⟩
    rw [List.take_length] at r; exact r
/-- a comprehension over data -/
theorem ed_lc {wi : TI} {g : TG} {tt : TT} {vs : List Nat} {f : PyData → Bool} {m : PyData → PyData} (hi : EI K wi σ F H ds) (hl : ds.length ≤ 50000)
    (ht : ∀ F2 H1, Ext F H F2 H1 → ∀ v d, d ∈ ds → Df K F2 H1 v d → ∃ σ2, (∀ Q : L2.St → Hp → Prop, Q σ2 H1 → g v (wipe σ vs) H1 Q) ∧ wipe σ2 vs = wipe σ vs ∧ ET tt σ2 H1 (f d) ∧ (f d = true → ED K te σ2 F2 H1 (m d))) :
    ED K (tLc wi g tt te vs) σ F H (.list ((ds.filter f).map m)) := fun H1 s Q q => lc_run hi hl ht H1 s Q fun D ys H' s2 n e r => q _ _ s2 (.lst (.inl ⟨.inl e, .inr n⟩) (dfs_mono (Same.refl _) (fun _ z => z.1) r))
theorem et_yes : ET tYes σ H true := fun H1 _ _ q => q H1 (Same.refl _)
end
/-! ### statements over data -/
section
variable {K : PySem.W.Frag} {σ : L2.St} {F : Addr → Prop} {H : Hp} {te ta tb : TE} {t : TT} {d e : PyData} {D : Ends} {tu tw : TS}
theorem s_ret (h : ED K te σ F H d) (k : ∀ v H1, Same H H1 → Df K (Fr F H) H1 v d → D.rt v H1) : tRet te D σ H := h H (Same.refl _) _ k
theorem s_set {i : Nat} (h : ED K te σ F H d) (k : ∀ v H1, Same H H1 → Df K (Fr F H) H1 v d → D.nx (σ.set i (some v)) H1) : tAsg te (gName i) D σ H := h H (Same.refl _) _ k
theorem s_if {b : Bool} (h : ET t σ H b) (h1 : b = true → ∀ H1, Same H H1 → tu D σ H1) (h2 : b = false → ∀ H1, Same H H1 → tw D σ H1) : tIfS t tu tw D σ H := h H (Same.refl _) _ fun H1 s => by
  cases b with
  | true => exact h1 rfl H1 s
  | false => exact h2 rfl H1 s
theorem ed_notInS {c : Nat} {z : Str} (ha : ED K ta σ F H (.str ⟨#[c]⟩)) (hb : ED K tb σ F H (.str z)) :
    ED K (tOp (fun x y H Q => ∃ (c : Nat) (z : Str), x = .str ⟨#[c]⟩ ∧ y = .str z ∧ Q (.bl (!decide (c ∈ z.cps.toList))) H) ta tb) σ F H (.bool (!decide (c ∈ z.cps.toList))) :=
  ed_op ha hb fun F a b H1 hx hy Q q => by
    cases hx; cases hy; exact ⟨c, z, rfl, rfl, q _ _ (Same.refl _) (.bl _)⟩
theorem ed_inS {c : Nat} {z : Str} (ha : ED K ta σ F H (.str ⟨#[c]⟩)) (hb : ED K tb σ F H (.str z)) :
    ED K (tOp (fun x y H Q => ∃ (c : Nat) (z : Str), x = .str ⟨#[c]⟩ ∧ y = .str z ∧ Q (.bl (decide (c ∈ z.cps.toList))) H) ta tb) σ F H (.bool (decide (c ∈ z.cps.toList))) :=
  ed_op ha hb fun F a b H1 hx hy Q q => by
    cases hx; cases hy; exact ⟨c, z, rfl, rfl, q _ _ (Same.refl _) (.bl _)⟩
end
end Ag

set_option Elab.async false
set_option linter.all false
set_option maxRecDepth 100000
set_option maxHeartbeats 1000000
/-! More rules over data: x is True, in of texts, slices and sums of tuples, list.extend of a tuple. -/
namespace Ag
open PySem PySem.Spec PyProof.Rows L2
/-- a value of data -/
def isDat : V → Bool | .non | .bl _ | .int _ | .str _ | .ref _ => true | _ => false
def rIsX (neg : Bool) : R2 := fun x y H Q => ∃ b, y = .bl b ∧ isDat x = true ∧ Q (.bl (if neg then !decide (x = .bl b) else decide (x = .bl b))) H
theorem is_dat {v : Value} {x : V} {b : Bool} (r : RelV x v) (h : isDat x = true) : plainIs v (.bool b) = true ∧ (v == Value.bool b) = decide (x = .bl b) := by
  cases x with
  | non => cases r; exact ⟨rfl, by rw [decide_eq_false (fun z => nomatch z)]; rfl⟩
  | bl c => cases r; exact ⟨rfl, by cases c <;> cases b <;> decide⟩
  | int i => obtain ⟨t, rfl⟩ := r; exact ⟨rfl, by rw [decide_eq_false (fun z => nomatch z)]; rfl⟩
  | str i => obtain ⟨t, rfl⟩ := r; exact ⟨rfl, by rw [decide_eq_false (fun z => nomatch z)]; rfl⟩
  | ref a => cases r; exact ⟨rfl, by rw [decide_eq_false (fun z => nomatch z)]; rfl⟩
  | _ => cases h
theorem op_isB {X : Cx} : OpR X (compareOp .Is) (rIsX false) := by
  intro pins s σ H x y v u Q I rx ry h
  obtain ⟨b, rfl, hd, q⟩ := h
  cases (show u = Value.bool b from ry)
  obtain ⟨h1, h2⟩ := is_dat (b := b) rx hd
  exact wpAny_is_plain h1 ⟨.bl _, H, I, rfl, by rw [h2]; exact q⟩
theorem op_isnotB {X : Cx} : OpR X (compareOp .IsNot) (rIsX true) := by
  intro pins s σ H x y v u Q I rx ry h
  obtain ⟨b, rfl, hd, q⟩ := h
  cases (show u = Value.bool b from ry)
  obtain ⟨h1, h2⟩ := is_dat (b := b) rx hd
  exact wpAny_isNot_plain h1 ⟨.bl _, H, I, rfl, by rw [h2]; exact q⟩
end Ag
namespace PySem.AutoSeq1
open PySem PySem.Spec PyProof.Rows
set_option maxRecDepth 8000 in
theorem list_extend_tup (l : Addr) (items : Array Value) (n : Nat) (b : Addr) (items2 : Array Value) (n2 : Nat) (dd : Option Addr) (sl : Array (Option Value)) (hs0 : ¬(!items.isEmpty && Builtin.List.listTooLong (items.size + items2.size)) = true) (hs1 : items.size ≤ sizeLine) (hs2 : items.size + items2.size ≤ sizeLine + 1) :
    Meets (Builtin.«list.extend» ⟨[.ref l, .ref b], []⟩) (fun _ R s => s.heap.get? l = some { cls := .type "list", dict := none, data := .seq items n, slots := #[] } ∧ s.heap.get? b = some { cls := .type "tuple", dict := dd, data := .seq items2 n2, slots := sl } ∧ R (.ok (.ret Value.none)) { s with heap := s.heap.update l (Obj.mapSeq fun x => x ++ items2), toks := s.toks }) :=
  .of_wp fun prog w A R s h => by
    obtain ⟨hp, g, d, tk, os⟩ := s; obtain ⟨hl, hb, h⟩ := h; have f1 := idx_int; have f2 := sub_tuple_tuple; have f3 := sub_list_list; have f4 := sub_tuple_list; have f5 := sub_list_tuple;
    have hz' : (items ++ items2).size ≤ sizeLine + 1 := by rw [Array.size_append]; exact hs2
    wp_walk using (wpAny_updateSeq hl rfl (hz := hs1) (_hz' := hz')), wpAny_loadPart' hl, wpAny_loadPart' hb; exact ⟨_, rfl, h⟩
end PySem.AutoSeq1
namespace Ag
open PySem PySem.Spec PyProof.Rows L2
/-- l.extend(tuple) -/
def rExtendT (K : PySem.W.Frag) : V → List V → Hp → VK → Prop := fun x vs H Q => ∃ l b xs zs, x = .ref l ∧ vs = [.ref b] ∧ H l = some (.lst xs) ∧ SqT K H b zs ∧ xs.length + zs.length ≤ sizeLine ∧ Q .non (upd H l (.lst (xs ++ zs)))
theorem mt_extendT {X : Cx} : MtM X "list.extend" (rExtendT X.K) := by
  intro pins s σ H x vs v us Q I rx rv h
  obtain ⟨l, b, xs, zs, rfl, rfl, hH, hB, hz, q⟩ := h
  cases rx
  obtain ⟨u, rfl, ru⟩ := rv.one
  cases ru
  obtain ⟨z, its, n, r, hl, e⟩ := I.lstM hH
  obtain ⟨its2, r2, ⟨⟨oc, od, odt, osl⟩, e2, ec, n2, ed⟩, hz2⟩ := I.tuple hB
  simp only at ec ed
  subst ec ed
  have hl2 := r2.length
  have hsz : its.toArray.size + its2.toArray.size ≤ sizeLine := by rw [List.size_toArray, List.size_toArray]; omega
  have hlong : ¬ (!its.toArray.isEmpty && Builtin.List.listTooLong (its.toArray.size + its2.toArray.size)) = true := by
    rw [notLongL hsz, Bool.and_false]
    exact Bool.false_ne_true
  refine call_meets F.slot_list_extend ⟨_, e, rfl⟩ F.entry_list_extend (F.args_list_extend_2 _ _)
    (PySem.AutoSeq1.list_extend_tup l its.toArray n b its2.toArray n2 od osl hlong (by rw [List.size_toArray]; omega) (by omega)) ⟨e, e2, ?_⟩
  refine ⟨.non, _, I.lset (its' := its ++ its2) hH e (by simp) (r.append r2) ?_, rfl, q⟩
  rw [List.length_append]
  omega

section
variable {K : PySem.W.Frag} {σ : L2.St} {F : Addr → Prop} {H : Hp} {te ta tb : TE} {d e : PyData}
theorem df_isDat {x : V} (h : Df K F H x d) : isDat x = true := by cases h <;> rfl
def isB (b : Bool) : PyData → Bool | .bool c => c == b | _ => false
theorem isB_of {b : Bool} {x : V} (h : Df K F H x d) : decide (x = .bl b) = isB b d := by
  cases h with
  | bl c => cases c <;> cases b <;> decide
  | _ => exact decide_eq_false (fun z => nomatch z)
theorem ed_isB {b : Bool} (ha : ED K ta σ F H d) : ED K (tOp (rIsX false) ta (tC (.bl b))) σ F H (.bool (isB b d)) :=
  ed_op ha ed_bl fun F x y H1 hx hy Q q => by
    cases hy; refine ⟨b, rfl, df_isDat hx, ?_⟩
    show Q (.bl (decide (x = .bl b))) H1
    rw [isB_of hx]; exact q _ _ (Same.refl _) (.bl _)
theorem ed_isnotB {b : Bool} (ha : ED K ta σ F H d) : ED K (tOp (rIsX true) ta (tC (.bl b))) σ F H (.bool (!isB b d)) :=
  ed_op ha ed_bl fun F x y H1 hx hy Q q => by
    cases hy; refine ⟨b, rfl, df_isDat hx, ?_⟩
    show Q (.bl (!decide (x = .bl b))) H1
    rw [isB_of hx]; exact q _ _ (Same.refl _) (.bl _)
theorem inV_strs (x : Str) : ∀ (xs : List Str), inV (.str x) (xs.map V.str) = decide (x ∈ xs)
  | [] => rfl
  | y :: ys => by
    have ih := inV_strs x ys
    unfold inV at ih ⊢
    rw [List.map_cons, List.any_cons, ih]
    have e : eqV (.str y) (.str x) = decide (y = x) := rfl
    rw [e]
    by_cases h : x = y
    · subst h; simp
    · have h' : ¬ y = x := fun q => h q.symm
      simp [h, h']
theorem flat_strs : ∀ (xs : List Str), (xs.map V.str).all flatV = true
  | [] => rfl
  | y :: ys => by rw [List.map_cons, List.all_cons, flat_strs ys]; rfl
theorem ed_inSeq {x : Str} {xs : List Str} (ha : ED K ta σ F H (.str x)) (hb : ED K tb σ F H e) (he : e = .tuple (xs.map .str) ∨ e = .list (xs.map .str)) : ED K (tOp (rIn K false) ta tb) σ F H (.bool (decide (x ∈ xs))) :=
  ed_op ha hb fun F a b H1 hx hy Q q => by
    cases hx
    have h : ∃ p, b = .ref p ∧ (SqL K H1 p (xs.map V.str) ∨ SqT K H1 p (xs.map V.str)) := by
      rcases he with rfl | rfl
      · cases hy with
        | tup h r => rw [strs_dps (dfs_dps r)] at h; exact ⟨_, rfl, .inr h⟩
      · cases hy with
        | lst h r => rw [strs_dps (dfs_dps r)] at h; exact ⟨_, rfl, .inl (h.imp (fun z => z.1) id)⟩
    obtain ⟨p, rfl, h⟩ := h
    refine ⟨p, _, rfl, h, rfl, flat_strs xs, ?_⟩
    show Q (.bl (inV (.str x) (xs.map V.str))) H1
    rw [inV_strs]; exact q _ _ (Same.refl _) (.bl _)
theorem ed_notInSeq {x : Str} {xs : List Str} (ha : ED K ta σ F H (.str x)) (hb : ED K tb σ F H e) (he : e = .tuple (xs.map .str) ∨ e = .list (xs.map .str)) : ED K (tOp (rIn K true) ta tb) σ F H (.bool (!decide (x ∈ xs))) :=
  ed_op ha hb fun F a b H1 hx hy Q q => by
    cases hx
    have h : ∃ p, b = .ref p ∧ (SqL K H1 p (xs.map V.str) ∨ SqT K H1 p (xs.map V.str)) := by
      rcases he with rfl | rfl
      · cases hy with
        | tup h r => rw [strs_dps (dfs_dps r)] at h; exact ⟨_, rfl, .inr h⟩
      · cases hy with
        | lst h r => rw [strs_dps (dfs_dps r)] at h; exact ⟨_, rfl, .inl (h.imp (fun z => z.1) id)⟩
    obtain ⟨p, rfl, h⟩ := h
    refine ⟨p, _, rfl, h, rfl, flat_strs xs, ?_⟩
    show Q (.bl (!inV (.str x) (xs.map V.str))) H1
    rw [inV_strs]; exact q _ _ (Same.refl _) (.bl _)
theorem ed_catT {xs ys : List PyData} (ha : ED K ta σ F H (.tuple xs)) (hb : ED K tb σ F H (.tuple ys)) (hl : xs.length + ys.length ≤ 100000) : ED K (tOp (rCatA K) ta tb) σ F H (.tuple (xs ++ ys)) :=
  ed_op ha hb fun F a b H1 hx hy Q q => by
    cases hx with
    | tup h r =>
      cases hy with
      | tup h2 r2 =>
        refine ⟨_, _, _, _, rfl, rfl, h, h2, by rw [dfs_len r, dfs_len r2]; exact small5 hl, fun z => ?_, fun _ z => ?_, fun _ _ p hp => ?_⟩
        · subst z; cases r; exact q _ _ (Same.refl _) (.tup h2 (dfs_mono (Same.refl _) (fun _ z => .inl z) r2))
        · subst z; cases r2; exact q _ _ (Same.refl _) (by rw [List.append_nil]; exact .tup h (dfs_mono (Same.refl _) (fun _ z => .inl z) r))
        · exact q _ _ (Same.newA hp) (.tup (.of upd_same) (dfs_mono (Same.newA hp) (fun _ z => .inl z) (dfs_app r r2)))
def cutD (xs : List PyData) (lo hi : Option Int) : List PyData := (xs.drop (HT.sIx xs.length 0 lo)).take (HT.sIx xs.length xs.length hi - HT.sIx xs.length 0 lo)
theorem dfs_cut {vs : List V} {ds : List PyData} {lo hi : Option Int} (h : DfAll K F H vs ds) : DfAll K F H (cutV vs lo hi) (cutD ds lo hi) := by
  unfold cutV cutD; rw [dfs_len h]; exact dfs_take _ (dfs_drop _ h)
theorem cutD_all {ds : List PyData} {lo hi : Option Int} (h : HT.sIx ds.length 0 lo = 0 ∧ HT.sIx ds.length ds.length hi = ds.length) : cutD ds lo hi = ds := by
  unfold cutD; rw [h.1, h.2, List.drop_zero, Nat.sub_zero, List.take_length]
theorem eo_none : EO tNoPart σ H none := fun H1 s Q q => q H1 (Same.refl _)
theorem eo_some {i : Int} (h : ED K te σ F H (.int i)) : EO (tPart te) σ H (some i) := fun H1 s Q q => h H1 s _ fun v H2 s2 hv => by
  cases hv; exact ⟨i, rfl, q H2 s2⟩
theorem ed_slT {xs : List PyData} {tl th : TO} {lo hi : Option Int} (h : ED K te σ F H (.tuple xs)) (hl : EO tl σ H lo) (hh : EO th σ H hi) : ED K (tSl (rSlA K) te tl th) σ F H (.tuple (cutD xs lo hi)) := fun H1 s Q q =>
  h H1 s _ fun v H2 s2 hv => hl H2 (s.trans s2) _ fun H3 s3 => hh H3 ((s.trans s2).trans s3) _ fun H4 s4 => by
    cases hv with
    | tup ht r =>
      have s34 := s3.trans s4
      have s24 := s2.trans s34
      refine ⟨_, _, rfl, s34.stA ht, fun z => ?_, fun _ p hp => ?_⟩
      · rw [dfs_len r] at z
        exact q _ _ s24 (by rw [cutD_all z]; exact .tup (s34.stA ht) (dfs_mono s34 (fun _ z => z) r))
      · exact q _ _ (s24.trans (Same.newA hp)) (.tup (.of upd_same) (dfs_mono (s34.trans (Same.newA hp)) (fun _ z => z) (dfs_cut r)))
theorem ed_slL {xs : List PyData} {tl th : TO} {lo hi : Option Int} (h : ED K te σ F H (.list xs)) (hl : EO tl σ H lo) (hh : EO th σ H hi) : ED K (tSl (rSlL K) te tl th) σ F H (.list (cutD xs lo hi)) := fun H1 s Q q =>
  h H1 s _ fun v H2 s2 hv => hl H2 (s.trans s2) _ fun H3 s3 => hh H3 ((s.trans s2).trans s3) _ fun H4 s4 => by
    cases hv with
    | lst ht r =>
      have s34 := s3.trans s4
      have s24 := s2.trans s34
      refine ⟨_, _, rfl, s34.slA (ht.imp (fun z => z.1) id), fun p hp => ?_⟩
      exact q _ _ (s24.trans (Same.newA hp)) (.lst (.inl ⟨.inl upd_same, .inr (s24.freshA hp)⟩) (dfs_mono (s34.trans (Same.newA hp)) (fun _ z => z) (dfs_cut r)))
theorem filt_tt {α : Type} (l : List α) : l.filter (fun _ => true) = l := List.filter_eq_self.mpr fun _ _ => rfl
end
end Ag

set_option Elab.async false
set_option linter.all false
set_option maxRecDepth 100000
set_option maxHeartbeats 1000000
/-! A list beside the empty list, whatever its depth. -/
namespace Ag
open PySem PySem.Spec PyProof.Rows L2
def rNeE (K : PySem.W.Frag) : R2 := fun x y H Q => ∃ ds, Dp K H x (.list ds) ∧ Dp K H y (.list []) ∧ PyData.canLayAll0 ds = true ∧ Q (.bl (!ds.isEmpty)) H
def rEqE (K : PySem.W.Frag) : R2 := fun x y H Q => ∃ ds, Dp K H x (.list ds) ∧ Dp K H y (.list []) ∧ PyData.canLayAll0 ds = true ∧ Q (.bl ds.isEmpty) H
theorem eqv_empty : ∀ (ds : List PyData), PyData.eqv (.list ds) (.list []) = ds.isEmpty
  | [] => by simp [PyData.eqv, PyData.eqvAll]
  | _ :: _ => by simp [PyData.eqv, PyData.eqvAll]
theorem room_empty {A : Around} {d : PyData} (hu : A.units + 64 < cLine) : A.units + min d.depth (PyData.list []).depth < cLine := by
  have h : (PyData.list []).depth ≤ 64 := by decide
  have h2 : min d.depth (PyData.list []).depth ≤ (PyData.list []).depth := Nat.min_le_right _ _
  omega
theorem op_neE {X : Cx} (hu : X.A.units + 64 < cLine) : OpR X (compareOp .NotEq) (rNeE X.K) := by
  intro pins s σ H x y v u Q I rx ry h
  obtain ⟨ds, hd, he, sd, q⟩ := h
  obtain ⟨as, r1⟩ := Dp.reads I (.list ds) x v hd rx
  obtain ⟨bs, r2⟩ := Dp.reads I (.list []) y u he ry
  exact SeqAt.compareNe_reads r1 r2 (by simpa [PyData.canLay0] using sd) (by simp [PyData.canLay0, PyData.canLayAll0]) (room_empty hu) ⟨.bl _, H, I, rfl, by rw [eqv_empty]; exact q⟩
theorem op_eqE {X : Cx} (hu : X.A.units + 64 < cLine) : OpR X (compareOp .Eq) (rEqE X.K) := by
  intro pins s σ H x y v u Q I rx ry h
  obtain ⟨ds, hd, he, sd, q⟩ := h
  obtain ⟨as, r1⟩ := Dp.reads I (.list ds) x v hd rx
  obtain ⟨bs, r2⟩ := Dp.reads I (.list []) y u he ry
  exact SeqAt.compareEq_reads r1 r2 (by simpa [PyData.canLay0] using sd) (by simp [PyData.canLay0, PyData.canLayAll0]) (room_empty hu) ⟨.bl _, H, I, rfl, by rw [eqv_empty]; exact q⟩
section
variable {K : PySem.W.Frag} {σ : L2.St} {F : Addr → Prop} {H : Hp} {te ta tb : TE} {ds : List PyData}
theorem ed_neE (ha : ED K ta σ F H (.list ds)) (hb : ED K tb σ F H (.list [])) (hl : PyData.canLayAll0 ds = true) : ED K (tOp (rNeE K) ta tb) σ F H (.bool (!ds.isEmpty)) :=
  ed_op ha hb fun F a b H1 hx hy Q q => ⟨ds, df_dp hx, df_dp hy, hl, q _ _ (Same.refl _) (.bl _)⟩
theorem ed_eqE (ha : ED K ta σ F H (.list ds)) (hb : ED K tb σ F H (.list [])) (hl : PyData.canLayAll0 ds = true) : ED K (tOp (rEqE K) ta tb) σ F H (.bool ds.isEmpty) :=
  ed_op ha hb fun F a b H1 hx hy Q q => ⟨ds, df_dp hx, df_dp hy, hl, q _ _ (Same.refl _) (.bl _)⟩
theorem ed_emp : ED K (tLst tNil) σ F H (.list []) := ed_lst ea_nil (by decide)
/-- a comprehension of two clauses over data: the list made -/
theorem lc2_run {wi wi1 : TI} {g g1 : TG} {tt tt1 : TT} {vs vs1 : List Nat} {es : PyData → List PyData} {m : PyData → PyData} (hi : EI K wi σ F H ds) (hl : (ds.flatMap es).length ≤ 50000)
    (ht : ∀ F2 H1, Ext F H F2 H1 → ∀ v d, d ∈ ds → Df K F2 H1 v d → ∃ σ2, (∀ Q : L2.St → Hp → Prop, Q σ2 H1 → g v (wipe σ vs) H1 Q) ∧ wipe σ2 vs = wipe σ vs ∧ ET tt σ2 H1 true ∧ EI K wi1 σ2 F2 H1 (es d) ∧
      ∀ F3 H2, Ext F2 H1 F3 H2 → ∀ v2 d2, d2 ∈ es d → Df K F3 H2 v2 d2 → ∃ σ3, (∀ Q : L2.St → Hp → Prop, Q σ3 H2 → g1 v2 (wipe σ2 vs1) H2 Q) ∧ wipe σ3 vs1 = wipe σ2 vs1 ∧ ET tt1 σ3 H2 true ∧ ED K te σ3 F3 H2 (m d2)) :
    ∀ H1, Same H H1 → ∀ Q : VK, (∀ D ys H', Same H1 H' → H1 D = none → H' D = some (.lst ys) → DfAll K (fun a => Fr F H1 a ∧ a ≠ D) H' ys ((ds.flatMap es).map m) → Q (.ref D) H') → tLc2 wi g tt wi1 g1 tt1 te vs vs1 σ H1 Q := fun H1 s Q q => hi H1 s _ fun J H2 s2 W D hD => by
  have hD1 : H1 D = none := s2.freshA hD
  let F2 : Addr → Prop := fun a => Fr F H1 a ∧ a ≠ D
  have nF : ¬ F2 D := fun z => z.2 rfl
  refine ⟨fun i k H' => k = ds.length - i ∧ i ≤ ds.length ∧ Same H2 H' ∧ ∃ ys, H' D = some (.lst ys) ∧ DfAll K F2 H' ys (((ds.take i).flatMap es).map m), ⟨ds.length, by simp, Nat.zero_le _, Same.newA hD, [], upd_same, by simp; exact .nil⟩, ?_⟩
  rintro i k H' ⟨rfl, hi, s3, ys, e, r⟩
  by_cases lt : i < ds.length
  · refine .inr ⟨W.go i H' s3.F lt, fun H5 => Same H2 H5 ∧ ∃ ys, H5 D = some (.lst ys) ∧ DfAll K F2 H5 ys (((ds.take (i + 1)).flatMap es).map m), fun H5 ⟨a, b⟩ => ⟨ds.length - (i + 1), by omega, rfl, lt, a, b⟩, fun x H3 y => ?_⟩
    obtain ⟨d, hd, s4, hx⟩ := W.yld i H' x H3 s3.F y
    have hx2 : Df K F2 H3 x d := df_mono (Same.refl _) (fun a z => ⟨z.1, fun q => z.2 (q ▸ hD)⟩) hx
    obtain ⟨σ2, hg, hw, htt, hin, hte⟩ := ht F2 H3 ⟨(((s.trans s2).trans s3).trans s4).F, fun a z n => ⟨.inl z, fun q => n (s.freshA (q ▸ hD1))⟩⟩ x d (List.mem_of_getElem? hd) hx2
    have tk : ds.take (i + 1) = ds.take i ++ [d] := by rw [List.take_succ, hd]; rfl
    have tkf : (ds.take (i + 1)).flatMap es = (ds.take i).flatMap es ++ es d := by rw [tk, List.flatMap_append]; simp
    have bnd : ((ds.take i).flatMap es ++ es d).length ≤ 50000 := by
      rw [← tkf]
      refine Nat.le_trans ?_ hl
      conv => rhs; rw [← List.take_append_drop (i + 1) ds, List.flatMap_append, List.length_append]
      exact Nat.le_add_right _ _
    refine hg _ ⟨hw, htt H3 (Same.refl _) _ fun H4 s5 => ?_⟩
    have e4 : H4 D = some (.lst ys) := s5 _ _ (s4 _ _ e)
    refine hin H4 s5 _ fun J1 H6 s6 W1 => ?_
    have e6 := s6 _ _ e4
    have s36 := (s4.trans s5).trans s6
    have nF4 : ¬ Fr F2 H4 D := fun z => z.elim nF (fun z => by rw [e4] at z; cases z)
    have to2 : ∀ a, Fr F2 H4 a → F2 a := fun a z => z.elim id fun z => ⟨.inr (s2.freshA (s3.freshA ((s4.trans s5).freshA z))), fun q => by rw [q, e4] at z; cases z⟩
    refine ⟨fun j k H' => k = (es d).length - j ∧ j ≤ (es d).length ∧ Same H2 H' ∧ SameF (Fr F2 H4) H6 H' ∧ ∃ ys, H' D = some (.lst ys) ∧ DfAll K F2 H' ys (((ds.take i).flatMap es ++ (es d).take j).map m), ⟨(es d).length, by simp, Nat.zero_le _, s3.trans s36, SameF.refl, ys, e6, by simp only [List.take_zero, List.append_nil]; exact dfs_mono s36 (fun _ z => z) r⟩, ?_⟩
    rintro j k H' ⟨rfl, hj, t3, tF, zs, ez, rz⟩
    by_cases lj : j < (es d).length
    · refine .inr ⟨W1.go j H' tF lj, fun H5 => Same H2 H5 ∧ SameF (Fr F2 H4) H6 H5 ∧ ∃ ys, H5 D = some (.lst ys) ∧ DfAll K F2 H5 ys (((ds.take i).flatMap es ++ (es d).take (j + 1)).map m), fun H5 ⟨a, b, c⟩ => ⟨(es d).length - (j + 1), by omega, rfl, lj, a, b, c⟩, fun x2 H7 y2 => ?_⟩
      obtain ⟨d2, hd2, t4, hx3⟩ := W1.yld j H' x2 H7 tF y2
      have hx4 : Df K F2 H7 x2 d2 := df_mono (Same.refl _) (fun a z => to2 a z.1) hx3
      have F37 : SameF F2 H3 H7 := ((s5.trans s6).F.trans (tF.sub fun a z => .inl z)).trans t4.F
      obtain ⟨σ3, hg3, hw3, htt3, hte3⟩ := hte F2 H7 ⟨F37, fun a z _ => z⟩ x2 d2 (List.mem_of_getElem? hd2) hx4
      have tk2 : (es d).take (j + 1) = (es d).take j ++ [d2] := by rw [List.take_succ, hd2]; rfl
      refine hg3 _ ⟨hw3, htt3 H7 (Same.refl _) _ fun H8 t5 => ?_⟩
      refine hte3 H8 t5 _ fun v H9 t6 hv => ?_
      have t46 := (t4.trans t5).trans t6
      have e9 : H9 D = some (.lst zs) := t46 _ _ ez
      have r9 : DfAll K F2 H9 zs (((ds.take i).flatMap es ++ (es d).take j).map m) := dfs_mono t46 (fun _ z => z) rz
      have v9 : Df K F2 H9 v (m d2) := df_mono (Same.refl _) (fun a z => by
        rcases z with z | z
        · exact z
        · exact ⟨.inr (s2.freshA (t3.freshA ((t4.trans t5).freshA z))), fun q => by
            have := (t4.trans t5) _ _ ez
            rw [q, this] at z; cases z⟩) hv
      have len9 := dfs_len r9
      rw [List.length_map, List.length_append, List.length_take] at len9
      rw [List.length_append] at bnd
      refine ⟨zs, e9, lt5 (by omega), fun a u h => ?_, (tF.trans t46.F).trans (SameF.upd e9 nF4), zs ++ [v], upd_same, ?_⟩
      · rw [upd_ne (ne_of_none h hD)]; exact t46 _ _ (t3 _ _ h)
      · rw [tk2, ← List.append_assoc, List.map_append]
        exact dfs_app (dfs_upd e9 nF r9) (.cons (df_upd e9 nF v9) .nil)
    · have : j = (es d).length := by omega
      subst this
      refine .inl ⟨W1.stop H' tF, t3, zs, ez, ?_⟩
      rw [tkf]; rw [List.take_length] at rz; exact rz
  · have : i = ds.length := by omega
    subst this
    refine .inl ⟨W.stop H' s3.F, q D ys H' (s2.trans s3) hD1 e ?_⟩
    rw [List.take_length] at r; exact r
end
end Ag

set_option Elab.async false
set_option linter.all false
set_option maxRecDepth 100000
set_option maxHeartbeats 1000000
/-! A text times an int; data that is good, made without naming it. -/
namespace Ag
open PySem PySem.Spec PyProof.Rows L2
def rRepS : R2 := fun x y H Q => ∃ (z : Str) (n : Nat), x = .str z ∧ y = .int (n : Int) ∧ z.length ≤ 1000 ∧ n ≤ 1000 ∧ Q (.str (Txt.mul z n)) H
theorem op_repS {X : Cx} : OpR X (binaryOp .Mult) rRepS := by
  intro pins s σ H x y v u Q I rx ry h
  obtain ⟨z, n, rfl, rfl, h1, h2, q⟩ := h
  obtain ⟨t, rfl⟩ := rx
  obtain ⟨t', rfl⟩ := ry
  exact SB.mul (mulOk_of 1000 1000 h1 (by omega) (by omega) (by decide) (by decide)) fun t' k => ⟨.str _, H, I.tok _, ⟨_, rfl⟩, q⟩
end Ag

set_option Elab.async false
set_option linter.all false
set_option maxRecDepth 100000
set_option maxHeartbeats 1000000
namespace Ag
open PySem PySem.Spec PyProof.Rows L2
/-! ### the text by places -/
def top (i : Nat) : Stmt := PySem.Challenge.pw_againnotes_k03_duties_judged.main.body.getD i (.Pass ⟨0, 0, 0, 0⟩)
abbrev s_ascending : Stmt := top 1
abbrev s_is_name : Stmt := top 5
abbrev s_is_word : Stmt := top 6
abbrev s_is_plain : Stmt := top 13
abbrev s_is_duty : Stmt := top 14
abbrev s_names_in : Stmt := top 15
abbrev s_plain_ones : Stmt := top 16
abbrev s_duty_names : Stmt := top 17
abbrev s_law_pen : Stmt := top 19
abbrev s_law_draw : Stmt := top 20
abbrev s_law_pick : Stmt := top 21
abbrev s_law_shuffled : Stmt := top 22
abbrev s_law_name : Stmt := top 23
abbrev s_law_names : Stmt := top 24
abbrev s_law_same : Stmt := top 25
abbrev s_law_is_name : Stmt := top 26
abbrev s_law_calls : Stmt := top 27
abbrev s_law_some_plain : Stmt := top 28
abbrev s_law_some_duty : Stmt := top 29
abbrev s_law_plain_names : Stmt := top 30
abbrev s_law_plain_ones : Stmt := top 31
abbrev s_law_plain_many : Stmt := top 32
abbrev s_law_bent : Stmt := top 33
abbrev s_law : Stmt := top 34
structure DefAt (K : PySem.W.Frag) (mg : Str → Option Value) (x : Str) (st : Stmt) (ps : List Str) (a : Addr) (fd : FuncData) : Prop where
  fn : Fun K x x st a fd
  mg : mg x = some (.ref a)
  bd : Binds K fd ps []
theorem bt_tuple : bootBuiltins ("tuple" : Str) = some (.type "tuple") := by decide +kernel
theorem bt_all : bootBuiltins ("all" : Str) = some (.builtin "all") := by decide +kernel
theorem bt_range : bootBuiltins ("range" : Str) = some (.type "range") := by decide +kernel
theorem bt_isinstance : bootBuiltins ("isinstance" : Str) = some (.builtin "isinstance") := by decide +kernel
theorem bt_int : bootBuiltins ("int" : Str) = some (.type "int") := by decide +kernel
theorem bt_sorted : bootBuiltins ("sorted" : Str) = some (.builtin "sorted") := by decide +kernel
theorem bt_len : bootBuiltins ("len" : Str) = some (.builtin "len") := by decide +kernel
theorem bt_list : bootBuiltins ("list" : Str) = some (.type "list") := by decide +kernel
theorem bt_str : bootBuiltins ("str" : Str) = some (.type "str") := by decide +kernel
theorem bt_sum : bootBuiltins ("sum" : Str) = some (.builtin "sum") := by decide +kernel
theorem bt_set : bootBuiltins ("set" : Str) = some (.type "set") := by decide +kernel
theorem bt_bool : bootBuiltins ("bool" : Str) = some (.type "bool") := by decide +kernel
theorem bt_zip : bootBuiltins ("zip" : Str) = some (.type "zip") := by decide +kernel
structure Txt (w : World) (K : PySem.W.Frag) (mg : Str → Option Value) where
  a_ascending : Addr
  d_ascending : FuncData
  D_ascending : DefAt K mg "ascending" s_ascending ["names"] a_ascending d_ascending
  a_is_name : Addr
  d_is_name : FuncData
  D_is_name : DefAt K mg "is_name" s_is_name ["value"] a_is_name d_is_name
  a_is_word : Addr
  d_is_word : FuncData
  D_is_word : DefAt K mg "is_word" s_is_word ["value"] a_is_word d_is_word
  a_is_plain : Addr
  d_is_plain : FuncData
  D_is_plain : DefAt K mg "is_plain" s_is_plain ["value"] a_is_plain d_is_plain
  a_is_duty : Addr
  d_is_duty : FuncData
  D_is_duty : DefAt K mg "is_duty" s_is_duty ["value"] a_is_duty d_is_duty
  a_names_in : Addr
  d_names_in : FuncData
  D_names_in : DefAt K mg "names_in" s_names_in ["duty"] a_names_in d_names_in
  a_plain_ones : Addr
  d_plain_ones : FuncData
  D_plain_ones : DefAt K mg "plain_ones" s_plain_ones ["duty"] a_plain_ones d_plain_ones
  a_duty_names : Addr
  d_duty_names : FuncData
  D_duty_names : DefAt K mg "duty_names" s_duty_names ["duty"] a_duty_names d_duty_names
  a_law_pen : Addr
  d_law_pen : FuncData
  D_law_pen : DefAt K mg "_law_pen" s_law_pen ["script"] a_law_pen d_law_pen
  a_law_draw : Addr
  d_law_draw : FuncData
  D_law_draw : DefAt K mg "_law_draw" s_law_draw ["pen", "many"] a_law_draw d_law_draw
  a_law_pick : Addr
  d_law_pick : FuncData
  D_law_pick : DefAt K mg "_law_pick" s_law_pick ["pen", "some"] a_law_pick d_law_pick
  a_law_shuffled : Addr
  d_law_shuffled : FuncData
  D_law_shuffled : DefAt K mg "_law_shuffled" s_law_shuffled ["pen", "some"] a_law_shuffled d_law_shuffled
  a_law_name : Addr
  d_law_name : FuncData
  D_law_name : DefAt K mg "_law_name" s_law_name ["pen", "index"] a_law_name d_law_name
  a_law_names : Addr
  d_law_names : FuncData
  D_law_names : DefAt K mg "_law_names" s_law_names ["pen", "many"] a_law_names d_law_names
  a_law_same : Addr
  d_law_same : FuncData
  D_law_same : DefAt K mg "_law_same" s_law_same ["told", "due"] a_law_same d_law_same
  a_law_is_name : Addr
  d_law_is_name : FuncData
  D_law_is_name : DefAt K mg "_law_is_name" s_law_is_name ["value"] a_law_is_name d_law_is_name
  a_law_calls : Addr
  d_law_calls : FuncData
  D_law_calls : DefAt K mg "_law_calls" s_law_calls ["pen", "many"] a_law_calls d_law_calls
  a_law_some_plain : Addr
  d_law_some_plain : FuncData
  D_law_some_plain : DefAt K mg "_law_some_plain" s_law_some_plain ["pen", "calls"] a_law_some_plain d_law_some_plain
  a_law_some_duty : Addr
  d_law_some_duty : FuncData
  D_law_some_duty : DefAt K mg "_law_some_duty" s_law_some_duty ["pen", "calls", "many", "deep"] a_law_some_duty d_law_some_duty
  a_law_plain_names : Addr
  d_law_plain_names : FuncData
  D_law_plain_names : DefAt K mg "_law_plain_names" s_law_plain_names ["duty"] a_law_plain_names d_law_plain_names
  a_law_plain_ones : Addr
  d_law_plain_ones : FuncData
  D_law_plain_ones : DefAt K mg "_law_plain_ones" s_law_plain_ones ["duty"] a_law_plain_ones d_law_plain_ones
  a_law_plain_many : Addr
  d_law_plain_many : FuncData
  D_law_plain_many : DefAt K mg "_law_plain_many" s_law_plain_many ["value", "around"] a_law_plain_many d_law_plain_many
  a_law_bent : Addr
  d_law_bent : FuncData
  D_law_bent : DefAt K mg "_law_bent" s_law_bent ["pen", "duty", "calls"] a_law_bent d_law_bent
  a_law : Addr
  d_law : FuncData
  D_law : DefAt K mg "law" s_law ["script"] a_law d_law
  t_FIGURES : Tok
  g_FIGURES : mg "FIGURES" = some (.str "0123456789" t_FIGURES)
  t_LETTERS : Tok
  g_LETTERS : mg "LETTERS" = some (.str "abcdefghijklmnopqrstuvwxyz" t_LETTERS)
  t_MOST_PLAIN : Tok
  g_MOST_PLAIN : mg "MOST_PLAIN" = some (.int 4 t_MOST_PLAIN)
  t_MOST_AROUND : Tok
  g_MOST_AROUND : mg "MOST_AROUND" = some (.int 4 t_MOST_AROUND)
  a_LEAST_CALLS : Addr
  g_LEAST_CALLS : mg "LEAST_CALLS" = some (.ref a_LEAST_CALLS)
  es_LEAST_CALLS : Array DictEntry
  n_LEAST_CALLS : Nat
  kd_LEAST_CALLS : KDict K w a_LEAST_CALLS es_LEAST_CALLS n_LEAST_CALLS
  in_LEAST_CALLS : ∀ z : Str, ∃ r, PySem.W.nsIn K a_LEAST_CALLS z = some r ∧ r.isSome = decide (z ∈ (["call", "row", "steps", "answer", "never"] : List Str))
  at_LEAST_CALLS : ∀ (z : Str) (i : Int), (z, i) ∈ ([("call", 1), ("row", 2), ("steps", 2), ("answer", 2), ("never", 1)] : List (Str × Int)) → KDct K w a_LEAST_CALLS z (.int i)
  a_MOST_CALLS : Addr
  g_MOST_CALLS : mg "MOST_CALLS" = some (.ref a_MOST_CALLS)
  es_MOST_CALLS : Array DictEntry
  n_MOST_CALLS : Nat
  kd_MOST_CALLS : KDict K w a_MOST_CALLS es_MOST_CALLS n_MOST_CALLS
  in_MOST_CALLS : ∀ z : Str, ∃ r, PySem.W.nsIn K a_MOST_CALLS z = some r ∧ r.isSome = decide (z ∈ (["call", "row", "steps", "answer", "never"] : List Str))
  at_MOST_CALLS : ∀ (z : Str) (i : Int), (z, i) ∈ ([("call", 1), ("row", 4), ("steps", 4), ("answer", 2), ("never", 4)] : List (Str × Int)) → KDct K w a_MOST_CALLS z (.int i)
  a_JOINTS : Addr
  g_JOINTS : mg "JOINTS" = some (.ref a_JOINTS)
  sq_JOINTS : ∀ H, SqT K H a_JOINTS [.str "all", .str "any"]
  b_tuple : mg "tuple" = none
  b_all : mg "all" = none
  b_range : mg "range" = none
  b_isinstance : mg "isinstance" = none
  b_int : mg "int" = none
  b_sorted : mg "sorted" = none
  b_len : mg "len" = none
  b_list : mg "list" = none
  b_str : mg "str" = none
  b_sum : mg "sum" = none
  b_set : mg "set" = none
  b_bool : mg "bool" = none
  b_zip : mg "zip" = none
theorem sc_ascending : FnScope ["names"] ["names"] (defScope s_ascending) := ⟨rfl, rfl, rfl, by decide +kernel, rfl, by decide +kernel, by decide +kernel⟩
theorem sc_is_name : FnScope ["value", "sign"] ["value"] (defScope s_is_name) := ⟨rfl, rfl, rfl, by decide +kernel, rfl, by decide +kernel, by decide +kernel⟩
theorem sc_is_word : FnScope ["value", "call"] ["value"] (defScope s_is_word) := ⟨rfl, rfl, rfl, by decide +kernel, rfl, by decide +kernel, by decide +kernel⟩
theorem sc_is_plain : FnScope ["value", "kind"] ["value"] (defScope s_is_plain) := ⟨rfl, rfl, rfl, by decide +kernel, rfl, by decide +kernel, by decide +kernel⟩
theorem sc_is_duty : FnScope ["value", "line", "plain", "one", "around", "part"] ["value"] (defScope s_is_duty) := ⟨rfl, rfl, rfl, by decide +kernel, rfl, by decide +kernel, by decide +kernel⟩
theorem sc_names_in : FnScope ["duty"] ["duty"] (defScope s_names_in) := ⟨rfl, rfl, rfl, by decide +kernel, rfl, by decide +kernel, by decide +kernel⟩
theorem sc_plain_ones : FnScope ["duty", "line", "found", "one"] ["duty"] (defScope s_plain_ones) := ⟨rfl, rfl, rfl, by decide +kernel, rfl, by decide +kernel, by decide +kernel⟩
theorem sc_duty_names : FnScope ["duty", "one", "name"] ["duty"] (defScope s_duty_names) := ⟨rfl, rfl, rfl, by decide +kernel, rfl, by decide +kernel, by decide +kernel⟩
theorem sc_law_pen : FnScope ["script", "fold", "cell"] ["script"] (defScope s_law_pen) := ⟨rfl, rfl, rfl, by decide +kernel, rfl, by decide +kernel, by decide +kernel⟩
theorem sc_law_draw : FnScope ["pen", "many", "cell", "digit", "blend"] ["pen", "many"] (defScope s_law_draw) := ⟨rfl, rfl, rfl, by decide +kernel, rfl, by decide +kernel, by decide +kernel⟩
theorem sc_law_pick : FnScope ["pen", "some"] ["pen", "some"] (defScope s_law_pick) := ⟨rfl, rfl, rfl, by decide +kernel, rfl, by decide +kernel, by decide +kernel⟩
theorem sc_law_shuffled : FnScope ["pen", "some", "left", "found", "lap"] ["pen", "some"] (defScope s_law_shuffled) := ⟨rfl, rfl, rfl, by decide +kernel, rfl, by decide +kernel, by decide +kernel⟩
theorem sc_law_name : FnScope ["pen", "index", "word", "spot", "place"] ["pen", "index"] (defScope s_law_name) := ⟨rfl, rfl, rfl, by decide +kernel, rfl, by decide +kernel, by decide +kernel⟩
theorem sc_law_names : FnScope ["pen", "many", "index"] ["pen", "many"] (defScope s_law_names) := ⟨rfl, rfl, rfl, by decide +kernel, rfl, by decide +kernel, by decide +kernel⟩
theorem sc_law_same : FnScope ["told", "due", "one", "two"] ["told", "due"] (defScope s_law_same) := ⟨rfl, rfl, rfl, by decide +kernel, rfl, by decide +kernel, by decide +kernel⟩
theorem sc_law_is_name : FnScope ["value", "sign"] ["value"] (defScope s_law_is_name) := ⟨rfl, rfl, rfl, by decide +kernel, rfl, by decide +kernel, by decide +kernel⟩
theorem sc_law_calls : FnScope ["pen", "many"] ["pen", "many"] (defScope s_law_calls) := ⟨rfl, rfl, rfl, by decide +kernel, rfl, by decide +kernel, by decide +kernel⟩
theorem sc_law_some_plain : FnScope ["pen", "calls", "kind", "spot"] ["pen", "calls"] (defScope s_law_some_plain) := ⟨rfl, rfl, rfl, by decide +kernel, rfl, by decide +kernel, by decide +kernel⟩
theorem sc_law_some_duty : FnScope ["pen", "calls", "many", "deep", "first", "parts"] ["pen", "calls", "many", "deep"] (defScope s_law_some_duty) := ⟨rfl, rfl, rfl, by decide +kernel, rfl, by decide +kernel, by decide +kernel⟩
theorem sc_law_plain_names : FnScope ["duty"] ["duty"] (defScope s_law_plain_names) := ⟨rfl, rfl, rfl, by decide +kernel, rfl, by decide +kernel, by decide +kernel⟩
theorem sc_law_plain_ones : FnScope ["duty", "found", "part"] ["duty"] (defScope s_law_plain_ones) := ⟨rfl, rfl, rfl, by decide +kernel, rfl, by decide +kernel, by decide +kernel⟩
theorem sc_law_plain_many : FnScope ["value", "around", "part", "least", "call"] ["value", "around"] (defScope s_law_plain_many) := ⟨rfl, rfl, rfl, by decide +kernel, rfl, by decide +kernel, by decide +kernel⟩
theorem sc_law_bent : FnScope ["pen", "duty", "calls", "call", "other", "word", "spot", "some", "deep", "lap", "many"] ["pen", "duty", "calls"] (defScope s_law_bent) := ⟨rfl, rfl, rfl, by decide +kernel, rfl, by decide +kernel, by decide +kernel⟩
theorem sc_law : FnScope ["script", "pen", "lap", "calls", "duty", "names", "one", "turn", "value"] ["script"] (defScope s_law) := ⟨rfl, rfl, rfl, by decide +kernel, rfl, by decide +kernel, by decide +kernel⟩
end Ag

set_option Elab.async false
set_option linter.all false
set_option maxRecDepth 100000
set_option maxHeartbeats 1000000
namespace Ag
open PySem PySem.Spec PyProof.Rows L2
theorem rd_but {H : Hp} {p : Addr} {o : HO} : But p H (upd H p o) := fun a u n h => by rw [upd_ne n]; exact h
theorem rd_upd {H : Hp} {p c : Addr} {o : HO} {xs : List V} {kvs : List (Key × V)} (hp : H p = some (.dK kvs)) (h : Rd H c (.lst xs)) : Rd (upd H p o) c (.lst xs) := by
  rcases h with h | ⟨u, h⟩
  · exact .inl (by rw [upd_ne (ne_of h hp (fun z => nomatch z))]; exact h)
  · exact .inr ⟨u, by rw [upd_ne (ne_of h hp (fun z => nomatch z))]; exact h⟩
section
variable {P : Program} {w : World} {K : PySem.W.Frag} {mg : Str → Option Value} {base : Heap} (T : Txt w K mg)
theorem ok_draw : FnOk P w K mg base CX0 1 T.a_law_draw T.d_law_draw ["pen", "many"] spDraw := by
  refine T.D_law_draw.fn.ok sc_law_draw (fun vs H Q E h => ?_) (fun cdv A outer s H vs Q E hr h => ?_)
  · obtain ⟨p, c, many, n, rfl, _⟩ := h; rfl
  · obtain ⟨p, c, many, n, rfl, hP, m0, m1, n1, k⟩ := h
    refine ⟨_, (pss_cons (ps_dput (hu_of hr) (pv 0) pe_str (pe_op op_add (pe_dget (hu_of hr) (pv 0) pe_str (fun _ _ => rfl)) pe_int) rfl)
      (C8.pss_cut (ps_if (PW.pt (pw_and (pt_cmpR op_eq (pe_dget (hu_of hr) (pv 0) pe_str (fun _ _ => rfl)) pe_int (nomark _)) (pw_and1 (pt_cmpR op_lt (pe_dget (hu_of hr) (pv 0) pe_str (fun _ _ => rfl)) (pe_callB call_len (by rfl) T.b_len bt_len (pa_cons (pe_dget (hu_of hr) (pv 0) pe_str (fun _ _ => rfl)) pa_nil)) (nomark _))))) (pss_cons (ps_set (i := 2) sc_law_draw.nd rfl (by first | exact Or.inl rfl | exact Or.inr rfl) (pe_ix ix_seq (pe_dget (hu_of hr) (pv 0) pe_str (fun _ _ => rfl)) (pe_dget (hu_of hr) (pv 0) pe_str (fun _ _ => rfl)) (fun _ _ => rfl)))
      (pss_cons (ps_dput (hu_of hr) (pv 0) pe_str (pe_op op_add (pe_dget (hu_of hr) (pv 0) pe_str (fun _ _ => rfl)) pe_int) rfl)
      (pss_one (ps_if (pt_cmpR op_ge (pv 2) (pe_op op_pow pe_int pe_int) (nomark _)) (pss_one (ps_dput (hu_of hr) (pv 0) pe_str (pe_op op_sub (pv 2) (pe_op op_pow pe_int pe_int)) rfl)) (pss_one (ps_dput (hu_of hr) (pv 0) pe_str (pe_op op_mod (pe_callTy call_int1 (by rfl) T.b_int bt_int (pa_cons (pe_op op_add (pe_op op_mul (pe_dget (hu_of hr) (pv 0) pe_str (fun _ _ => rfl)) pe_int) (pv 2)) pa_nil)) pe_int) rfl)))))) pss_nil)
      (pss_cons (ps_if (pt_cmpR op_gt (pe_dget (hu_of hr) (pv 0) pe_str (fun _ _ => rfl)) pe_int (nomark _)) (pss_cons (ps_set (i := 3) sc_law_draw.nd rfl (by first | exact Or.inl rfl | exact Or.inr rfl) (pe_op op_mod (pe_callTy call_int1 (by rfl) T.b_int bt_int (pa_cons (pe_dget (hu_of hr) (pv 0) pe_str (fun _ _ => rfl)) pa_nil)) (pv 1)))
      (pss_cons (ps_dput (hu_of hr) (pv 0) pe_str (pe_op op_fdiv (pe_dget (hu_of hr) (pv 0) pe_str (fun _ _ => rfl)) (pv 1)) rfl)
      (pss_one (ps_ret (pv 3))))) pss_nil)
      (pss_cons (ps_set (i := 4) sc_law_draw.nd rfl (by first | exact Or.inl rfl | exact Or.inr rfl) (pe_op op_add (pe_op op_add (pe_dget (hu_of hr) (pv 0) pe_str (fun _ _ => rfl)) (pe_op op_mul (pe_dget (hu_of hr) (pv 0) pe_str (fun _ _ => rfl)) pe_int)) pe_int))
      (pss_one (ps_ret (pe_op op_mod (pe_op op_fdiv (pe_callTy call_int1 (by rfl) T.b_int bt_int (pa_cons (pe_op op_mod (pe_op op_pow (pv 4) pe_int) pe_int) pa_nil)) pe_int) (pv 1)))))))), ?_⟩
    obtain ⟨cells, a, d, cn, f, hp, hc, a0, d0, c0, cnn, f0, f1⟩ := hP
    -- pen["count"] = pen["count"] + 1
    refine ⟨_, rfl, p, _, rfl, pg_cnt hp, _, _, rfl, rfl, _, rfl, p, _, rfl, pp_cnt hp, ?_⟩
    have b1 : But p H (upd H p (.dK (penKV c a d (cn + 1) f))) := rd_but
    have c1 := rd_upd (o := .dK (penKV c a d (cn + 1) f)) hp hc
    have p1 : (upd H p (.dK (penKV c a d (cn + 1) f))) p = some (.dK (penKV c a d (cn + 1) f)) := upd_same
    generalize upd H p (.dK (penKV c a d (cn + 1) f)) = H1 at b1 c1 p1
    refine ⟨fun σ' H' => ∃ (a' d' f' : Int) (o : Option V), σ' = [some (.ref p), some (.int many), o, none, none] ∧ 0 ≤ a' ∧ 0 ≤ d' ∧ 0 ≤ f' ∧ f' < 2147483648 ∧ H' p = some (.dK (penKV c a' d' (cn + 1) f')) ∧ Rd H' c (.lst (cells.map V.int)) ∧ But p H H', ?_, ?_⟩
    · -- if pen["digits"] == 0 and pen["at"] < len(pen["cells"]):
      refine ⟨_, rfl, p, _, rfl, pg_dig p1, rfl, _, rfl, ?_⟩
      refine ite2 (fun hz => ?_) (fun hz => ?_)
      · refine ⟨_, rfl, p, _, rfl, pg_at p1, _, rfl, p, _, rfl, pg_cells p1, _, _, rfl, .inl ⟨_, .inl c1, rfl⟩, _, _, rfl, rfl, _, rfl, ?_⟩
        refine ite2 (fun hl => ?_) (fun hl => ?_)
        · -- the next cell
          have hl := of_decide_eq_true hl
          obtain ⟨x, hx⟩ : ∃ x, cells[a.toNat]? = some x := ⟨_, List.getElem?_eq_getElem (by rw [List.length_map] at hl; omega)⟩
          have hx' : (cells.map V.int)[a.toNat]? = some (V.int x) := by rw [List.getElem?_map, hx]; rfl
          have ea : ((a.toNat : Nat) : Int) = a := by omega
          refine ⟨_, rfl, p, _, rfl, pg_cells p1, _, rfl, p, _, rfl, pg_at p1, .inl ⟨_, _, _, _, rfl, rfl, .inl c1, by rw [← ea]; exact atI_nat hx', ?_⟩⟩
          refine ⟨_, rfl, p, _, rfl, pg_at p1, _, _, rfl, rfl, _, rfl, p, _, rfl, pp_at p1, ?_⟩
          have b2 : But p H (upd H1 p (.dK (penKV c (a + 1) d (cn + 1) f))) := b1.trans rd_but
          have c2 := rd_upd (o := .dK (penKV c (a + 1) d (cn + 1) f)) p1 c1
          have p2 : (upd H1 p (.dK (penKV c (a + 1) d (cn + 1) f))) p = some (.dK (penKV c (a + 1) d (cn + 1) f)) := upd_same
          generalize upd H1 p (.dK (penKV c (a + 1) d (cn + 1) f)) = H2 at b2 c2 p2
          refine ⟨_, rfl, _, _, rfl, rfl, ⟨by decide, by decide, by decide⟩, _, _, rfl, rfl, _, rfl, ?_⟩
          refine ite2 (fun hg => ?_) (fun hg => ?_)
          · refine ⟨_, rfl, _, _, rfl, rfl, ⟨by decide, by decide, by decide⟩, _, _, rfl, rfl, _, rfl, p, _, rfl, pp_dig p2, ?_⟩
            exact ⟨a + 1, _, f, _, rfl, by omega, by have := of_decide_eq_true hg; omega, f0, f1, upd_same, rd_upd p2 c2, b2.trans rd_but⟩
          · refine ⟨_, rfl, p, _, rfl, pg_fold p2, _, _, rfl, rfl, .inl ⟨by omega, by omega⟩, _, rfl, _, _, rfl, rfl, .inl ⟨_, rfl, _, _, rfl, rfl, (by show (0 : Int) < 2147483269; decide), _, rfl, p, _, rfl, pp_fold p2, ?_⟩⟩
            exact ⟨a + 1, d, _, _, rfl, by omega, d0, Int.emod_nonneg _ (by decide), Int.lt_trans (Int.emod_lt_of_pos _ (by decide)) (by decide), upd_same, rd_upd p2 c2, b2.trans rd_but⟩
        · exact ⟨a, d, f, _, rfl, a0, d0, f0, f1, p1, c1, b1⟩
      · exact ⟨a, d, f, _, rfl, a0, d0, f0, f1, p1, c1, b1⟩
    · rintro σ' H' ⟨a', d', f', o, rfl, a0, d0, f0, f1, p1, c1, b1⟩
      refine ⟨_, rfl, p, _, rfl, pg_dig p1, _, _, rfl, rfl, _, rfl, ?_⟩
      refine ite2 (fun hg => ?_) (fun hg => ?_)
      · -- a digit
        refine ⟨_, rfl, p, _, rfl, pg_dig p1, .inl ⟨_, rfl, _, rfl, _, _, rfl, rfl, m0, ?_⟩⟩
        refine ⟨_, rfl, p, _, rfl, pg_dig p1, _, rfl, _, _, rfl, rfl, ⟨m0, by omega⟩, _, rfl, p, _, rfl, pp_dig p1, ?_⟩
        refine ⟨_, rfl, ?_⟩
        exact k _ _ (Int.emod_nonneg _ (by omega)) (Int.emod_lt_of_pos _ m0) (b1.trans rd_but) ⟨cells, a', _, cn + 1, f', upd_same, rd_upd p1 c1, a0, Int.ediv_nonneg d0 (by omega), by omega, by omega, f0, f1⟩
      · -- the mix
        refine ⟨_, rfl, p, _, rfl, pg_fold p1, _, rfl, p, _, rfl, pg_cnt p1, _, _, rfl, rfl, .inr ⟨by decide, by decide⟩, _, _, rfl, rfl, _, _, rfl, rfl, ?_⟩
        refine ⟨_, rfl, _, _, rfl, rfl, ⟨by decide, by decide, by omega⟩, _, _, rfl, rfl, (by show (0 : Int) < 2305843009213693951; decide), .inl ⟨_, rfl, _, _, rfl, rfl, ⟨by decide, by decide⟩, _, rfl, _, _, rfl, rfl, m0, ?_⟩⟩
        exact k _ _ (Int.emod_nonneg _ (by omega)) (Int.emod_lt_of_pos _ m0) b1 ⟨cells, a', d', cn + 1, f', p1, c1, a0, d0, by omega, by omega, f0, f1⟩
end
end Ag

set_option Elab.async false
set_option linter.all false
set_option maxRecDepth 100000
set_option maxHeartbeats 1000000
set_option exponentiation.threshold 2000
namespace Ag
open PySem PySem.Spec PyProof.Rows L2
theorem atI_int {α : Type} {xs : List α} {i : Int} {v : α} (h0 : 0 ≤ i) (h : xs[i.toNat]? = some v) : atI xs i = some v := by
  obtain ⟨k, rfl⟩ : ∃ k : Nat, i = k := ⟨i.toNat, by omega⟩
  exact atI_nat h

/-! ### names, as texts -/
abbrev S (l : List Nat) : Str := SX.S l
def Digs (i : Nat) : List Nat := (Str.ofString (toString (i : Int))).cps.toList
theorem digs_ok : ∀ i, i < 32 → 1 ≤ (Digs i).length ∧ (Digs i).length ≤ 2 ∧ ∀ c ∈ Digs i, 48 ≤ c ∧ c ≤ 57 := by decide +kernel
theorem digs_inj : ∀ i, i < 32 → ∀ j, j < 32 → Digs i = Digs j → i = j := by decide +kernel
def Nm (i : Nat) (s : Str) : Prop := ∃ a b : List Nat, s = S (a ++ Digs i ++ b) ∧ 1 ≤ a.length ∧ a.length + b.length ≤ 8 ∧ ∀ c ∈ a ++ b, 97 ≤ c ∧ c ≤ 122
theorem nm_filter {i : Nat} {a b : List Nat} (hi : i < 32) (h : ∀ c ∈ a ++ b, 97 ≤ c ∧ c ≤ 122) : (a ++ Digs i ++ b).filter (fun c => decide (c ≤ 57)) = Digs i := by
  have ha : a.filter (fun c => decide (c ≤ 57)) = [] := List.filter_eq_nil_iff.mpr fun c hc => by have := h c (List.mem_append_left _ hc); simp; omega
  have hb : b.filter (fun c => decide (c ≤ 57)) = [] := List.filter_eq_nil_iff.mpr fun c hc => by have := h c (List.mem_append_right _ hc); simp; omega
  have hd : (Digs i).filter (fun c => decide (c ≤ 57)) = Digs i := List.filter_eq_self.mpr fun c hc => by have := (digs_ok i hi).2.2 c hc; simp; omega
  rw [List.filter_append, List.filter_append, ha, hb, hd]; simp
theorem nm_inj {i j : Nat} {s : Str} (hi : i < 32) (hj : j < 32) (h1 : Nm i s) (h2 : Nm j s) : i = j := by
  obtain ⟨a, b, e1, _, _, h⟩ := h1
  obtain ⟨a', b', e2, _, _, h'⟩ := h2
  have e : a ++ Digs i ++ b = a' ++ Digs j ++ b' := SX.S_inj (e1.symm.trans e2)
  have q := congrArg (List.filter (fun c => decide (c ≤ 57))) e
  rw [nm_filter hi h, nm_filter hj h'] at q
  exact digs_inj i hi j hj q
/-- the names of the indices below m, in some order -/
def Nms (m : Nat) (ns : List Str) : Prop := ∃ ms : List Str, ms.length = m ∧ (∀ j s, ms[j]? = some s → Nm j s) ∧ ns.Perm ms
theorem nms_nodup {m : Nat} {ns : List Str} (hm : m ≤ 32) (h : Nms m ns) : ns.Nodup := by
  obtain ⟨ms, hl, hn, hp⟩ := h
  refine hp.nodup_iff.mpr (List.nodup_iff_pairwise_ne.mpr (List.pairwise_iff_getElem.mpr fun i j hi hj hij e => ?_))
  have h1 := hn i _ (List.getElem?_eq_getElem hi)
  have h2 := hn j _ (List.getElem?_eq_getElem hj)
  rw [e] at h1
  have := nm_inj (by omega) (by omega) h1 h2
  omega
theorem nms_mem {m : Nat} {ns : List Str} (h : Nms m ns) {s : Str} (hs : s ∈ ns) : ∃ j, j < m ∧ Nm j s := by
  obtain ⟨ms, hl, hn, hp⟩ := h
  obtain ⟨j, hj, e⟩ := List.getElem_of_mem (hp.mem_iff.mp hs)
  exact ⟨j, by omega, hn j s (by rw [List.getElem?_eq_getElem hj, e])⟩
theorem nms_len {m : Nat} {ns : List Str} (h : Nms m ns) : ns.length = m := by
  obtain ⟨ms, hl, hn, hp⟩ := h; rw [hp.length_eq, hl]
theorem cut_take (l : List Nat) (k : Nat) (h : k ≤ l.length) : cutS (S l) none (some (k : Int)) = S (l.take k) := by
  unfold cutS
  rw [HT.sIx_none, HT.sIx_nat, SX.S_len, Nat.min_eq_left h]
  simp [SX.S]
theorem cut_drop (l : List Nat) (k : Nat) (h : k ≤ l.length) : cutS (S l) (some (k : Int)) none = S (l.drop k) := by
  unfold cutS
  rw [HT.sIx_none, HT.sIx_nat, SX.S_len, Nat.min_eq_left h]
  have e : (l.drop k).take (l.length - k) = l.drop k := List.take_of_length_le (by rw [List.length_drop]; exact Nat.le_refl _)
  simp [SX.S, e]
theorem cut_takeI (l : List Nat) (k : Int) (h0 : 0 ≤ k) (h : k ≤ l.length) : cutS (S l) none (some k) = S (l.take k.toNat) := by
  obtain ⟨j, rfl⟩ : ∃ j : Nat, k = j := ⟨k.toNat, by omega⟩
  exact cut_take l j (by omega)
theorem cut_dropI (l : List Nat) (k : Int) (h0 : 0 ≤ k) (h : k ≤ l.length) : cutS (S l) (some k) none = S (l.drop k.toNat) := by
  obtain ⟨j, rfl⟩ : ∃ j : Nat, k = j := ⟨k.toNat, by omega⟩
  exact cut_drop l j (by omega)
theorem letters_at : ∀ d, d < 26 → ("abcdefghijklmnopqrstuvwxyz" : Str).cps.toList[d]? = some (97 + d) := by decide +kernel
theorem S_one (c : Nat) : (⟨#[c]⟩ : Str) = S [c] := rfl
theorem letters_short : ("abcdefghijklmnopqrstuvwxyz" : Str).length ≤ sizeLine := by decide +kernel

/-! ### promises -/
def spPick (K : PySem.W.Frag) : Sp := fun vs H Q _ => ∃ (p c a : Addr) (xs : List V) (n : Nat), vs = [.ref p, .ref a] ∧ Pen p c n H ∧ (SqL K H a xs ∨ SqT K H a xs) ∧ 0 < xs.length ∧ xs.length < 100000 ∧ n < 1000000000000 ∧
  ∀ (i : Nat) v H', xs[i]? = some v → But p H H' → Pen p c (n + 1) H' → Q v H'
def spShuf (K : PySem.W.Frag) : Sp := fun vs H Q _ => ∃ (p c a : Addr) (xs : List V) (n : Nat), vs = [.ref p, .ref a] ∧ Pen p c n H ∧ (SqL K H a xs ∨ SqT K H a xs) ∧ xs.length < 100000 ∧ n + 100000 < 1000000000000 ∧
  ∀ (l : Addr) (ys : List V) H', ys.Perm xs → H l = none → H' l = some (.lst ys) → But p H H' → Pen p c (n + xs.length) H' → Q (.ref l) H'
def spName : Sp := fun vs H Q _ => ∃ (p c : Addr) (i n : Nat), vs = [.ref p, .int (i : Int)] ∧ Pen p c n H ∧ i < 32 ∧ n + 100000 < 1000000000000 ∧
  ∀ (s : Str) H', Nm i s → But p H H' → Pen p c (n + 10) H' → Q (.str s) H'
def spNames (K : PySem.W.Frag) : Sp := fun vs H Q _ => ∃ (p c : Addr) (m n : Nat), vs = [.ref p, .int (m : Int)] ∧ Pen p c n H ∧ m ≤ 31 ∧ n + 200000 < 1000000000000 ∧
  ∀ (l : Addr) (ns : List Str) H', Nms m ns → H l = none → H' l = some (.lst (ns.map V.str)) → But p H H' → Pen p c (n + 400) H' → Q (.ref l) H'
/-- tuple(sorted(names)) -/
def spCalls (K : PySem.W.Frag) : Sp := fun vs H Q _ => ∃ (p c : Addr) (m n : Nat), vs = [.ref p, .int (m : Int)] ∧ Pen p c n H ∧ m ≤ 31 ∧ n + 200000 < 1000000000000 ∧
  ∀ (l : Addr) (ns : List Str) H', Nms m ns → sortedS ns = true → H' l = some (.tup (ns.map V.str)) → But p H H' → Pen p c (n + 400) H' → Q (.ref l) H'

theorem seq_at {n : Nat} {i : Int} (h0 : 0 ≤ i) (h1 : i < n) : seqIndex? i n = some i.toNat := (ixN_seq (by unfold ixN; rw [if_pos h0, if_pos h1])).1

section
variable {P : Program} {w : World} {K : PySem.W.Frag} {mg : Str → Option Value} {base : Heap} (T : Txt w K mg)
theorem ok_pick : FnOk P w K mg base CX0 2 T.a_law_pick T.d_law_pick ["pen", "some"] (spPick K) := by
  have G_law_draw := ok_draw (P := P) (base := base) T
  refine T.D_law_pick.fn.ok sc_law_pick (fun vs H Q E h => ?_) (fun cdv A outer s H vs Q E hr h => ?_)
  · obtain ⟨p, c, a, xs, n, rfl, _⟩ := h; rfl
  · obtain ⟨p, c, a, xs, n, rfl, hP, hs, x0, x1, n1, k⟩ := h
    refine ⟨_, (pss_one (ps_ret (pe_ix ix_seq (pv 1) (pe_call (G_law_draw) (hr.mono (by omega)) (by rfl) T.D_law_draw.mg T.D_law_draw.fn.kp T.D_law_draw.bd .nil pass0 (pa_cons (pv 0) (pa_cons (pe_callB call_len (by rfl) T.b_len bt_len (pa_cons (pv 1) pa_nil)) pa_nil))) (fun _ _ => rfl)))), ?_⟩
    have hl : LenV K (.ref a) H xs.length := hs.elim (fun z => .inl ⟨_, z, rfl⟩) fun z => .inr ⟨_, z, rfl⟩
    refine ⟨_, rfl, _, rfl, _, rfl, _, _, rfl, hl, p, c, _, n, rfl, hP, by omega, by omega, n1, fun d H1 d0 d1 b1 P1 => ?_⟩
    have hd : d.toNat < xs.length := by omega
    have ed : ((d.toNat : Nat) : Int) = d := by omega
    have hx : xs[d.toNat]? = some xs[d.toNat] := List.getElem?_eq_getElem hd
    rcases hs with hs | hs
    · exact .inl ⟨_, _, _, _, rfl, rfl, hP.sl b1 hs, atI_int d0 hx, k _ _ _ hx b1 P1⟩
    · exact .inr (.inl ⟨_, _, _, _, rfl, rfl, hP.st b1 hs, atI_int d0 hx, k _ _ _ hx b1 P1⟩)

theorem ok_shuf : FnOk P w K mg base CX0 2 T.a_law_shuffled T.d_law_shuffled ["pen", "some"] (spShuf K) := by
  have G_law_draw := ok_draw (P := P) (base := base) T
  refine T.D_law_shuffled.fn.ok sc_law_shuffled (fun vs H Q E h => ?_) (fun cdv A outer s H vs Q E hr h => ?_)
  · obtain ⟨p, c, a, xs, n, rfl, _⟩ := h; rfl
  · obtain ⟨p, c, a, xs, n, rfl, hP, hs, x1, n1, k⟩ := h
    refine ⟨_, (pss_cons (ps_par (i := 2) (j := 3) (by rfl) sc_law_shuffled.nd rfl rfl (by decide) rfl rfl (pa_cons (pe_callTy call_list_of (by rfl) T.b_list bt_list (pa_cons (pv 1) pa_nil)) (pa_cons (pe_lst pa_nil) pa_nil)) (by rfl))
      (pss_cons (ps_for PassesOwn.never rfl (pi_range1 (by rfl) T.b_range (pa_cons (pe_callB call_len (by rfl) T.b_len bt_len (pa_cons (pv 1) pa_nil)) pa_nil)) (pg_name (i := 4) sc_law_shuffled.nd rfl (by first | exact Or.inl rfl | exact Or.inr rfl)) (pss_one (ps_expr (pe_bm PySem.F.plainAttrs_list PySem.F.slot_list_append PySem.F.type_list_append mt_append (pv 3) (pa_cons (pe_bm PySem.F.plainAttrs_list PySem.F.slot_list_pop PySem.F.type_list_pop mt_popAt (pv 2) (pa_cons (pe_call (G_law_draw) (hr.mono (by omega)) (by rfl) T.D_law_draw.mg T.D_law_draw.fn.kp T.D_law_draw.bd .nil pass0 (pa_cons (pv 0) (pa_cons (pe_callB call_len (by rfl) T.b_len bt_len (pa_cons (pv 2) pa_nil)) pa_nil))) pa_nil)) pa_nil)))))
      (pss_one (ps_ret (pv 3))))), ?_⟩
    refine ⟨_, rfl, _, _, rfl, hs, fun l1 hl1 => ⟨Nat.zero_le _, fun l2 hl2 => ⟨_, _, rfl, ?_⟩⟩⟩
    have n12 : l1 ≠ l2 := fun z => by rw [z, upd_same] at hl2; cases hl2
    have hl2' : H l2 = none := by rw [upd_ne (Ne.symm n12)] at hl2; exact hl2
    have s1 : Same H (upd (upd H l1 (.lst xs)) l2 (.lst [])) := (Same.newA hl1).trans (Same.newA hl2)
    have e1 : (upd (upd H l1 (.lst xs)) l2 (.lst [])) l1 = some (.lst xs) := by rw [upd_ne n12]; exact upd_same
    have e2 : (upd (upd H l1 (.lst xs)) l2 (.lst [])) l2 = some (.lst []) := upd_same
    generalize upd (upd H l1 (.lst xs)) l2 (.lst []) = H1 at s1 e1 e2
    have hs1 : SqL K H1 a xs ∨ SqT K H1 a xs := hs.imp s1.slA s1.stA
    have hl : LenV K (.ref a) H1 xs.length := hs1.elim (fun z => .inl ⟨_, z, rfl⟩) fun z => .inr ⟨_, z, rfl⟩
    refine ⟨_, rfl, _, _, rfl, hl, _, rfl, by omega, by omega, for_range (n := xs.length) (fun i σ' H' => ∃ (ls fs : List V) (o : Option V), σ' = [some (.ref p), some (.ref a), some (.ref l1), some (.ref l2), o] ∧
      H' l1 = some (.lst ls) ∧ H' l2 = some (.lst fs) ∧ fs.length = i ∧ (fs ++ ls).Perm xs ∧ But p H H' ∧ Pen p c (n + i) H') ⟨xs, [], none, rfl, e1, e2, rfl, .refl _, .of s1, hP.same s1⟩ ?_ ?_⟩
    · rintro i σ' H' hi ⟨ls, fs, o, rfl, f1, f2, fl, pm, b1, P1⟩
      have tot := pm.length_eq
      rw [List.length_append] at tot
      refine ⟨_, rfl, .inl ⟨rfl, _, SqL.of f2⟩, _, rfl, .inl ⟨rfl, _, SqL.of f1⟩, _, rfl, _, rfl, _, _, rfl, .inl ⟨_, SqL.of f1, rfl⟩, p, c, _, n + i, rfl, P1, by omega, by omega, by omega, fun d H2 d0 d1 b2 P2 => ?_⟩
      have g1 : H2 l1 = some (.lst ls) := b2 _ _ (P1.ne f1 (fun _ z => nomatch z)) f1
      have g2 : H2 l2 = some (.lst fs) := b2 _ _ (P1.ne f2 (fun _ z => nomatch z)) f2
      have hd : d.toNat < ls.length := by omega
      refine ⟨_, _, _, _, _, rfl, rfl, g1, by omega, by omega, seq_at d0 (by omega), List.getElem?_eq_getElem hd, ?_⟩
      refine ⟨_, _, _, rfl, rfl, by rw [upd_ne (Ne.symm n12)]; exact g2, by rw [fl]; exact lt5 (by omega), ?_⟩
      refine ⟨ls.eraseIdx d.toNat, fs ++ [ls[d.toNat]], some (.int (0 + (i : Int))), rfl, ?_, upd_same, by rw [List.length_append, fl]; rfl, ?_, ?_, ?_⟩
      · rw [upd_ne n12]; exact upd_same
      · refine List.Perm.trans ?_ pm
        rw [List.append_assoc]
        exact List.Perm.append_left fs (erase_perm _ _ _ (List.getElem?_eq_getElem hd))
      · intro b u nb e
        rw [upd_ne (ne_of_none e hl2'), upd_ne (ne_of_none e hl1)]
        exact b2 _ _ nb (b1 _ _ nb e)
      · exact (P2.upd (hP.ne_p hl1) (hP.ne_c hl1)).upd (hP.ne_p hl2') (hP.ne_c hl2')
    · rintro σ' H' ⟨ls, fs, o, rfl, f1, f2, fl, pm, b1, P1⟩
      have tot := pm.length_eq
      rw [List.length_append] at tot
      have : ls = [] := List.length_eq_zero_iff.mp (by omega)
      subst this
      rw [List.append_nil] at pm
      exact ⟨_, rfl, k _ _ _ pm hl2' f2 b1 P1⟩

theorem ok_name : FnOk P w K mg base CX0 2 T.a_law_name T.d_law_name ["pen", "index"] spName := by
  have G_law_draw := ok_draw (P := P) (base := base) T
  refine T.D_law_name.fn.ok sc_law_name (fun vs H Q E h => ?_) (fun cdv A outer s H vs Q E hr h => ?_)
  · obtain ⟨p, c, i, n, rfl, _⟩ := h; rfl
  · obtain ⟨p, c, ix, n, rfl, hP, hi, n1, k⟩ := h
    refine ⟨_, (pss_cons (ps_set (i := 2) sc_law_name.nd rfl (by first | exact Or.inl rfl | exact Or.inr rfl) pe_str)
      (pss_cons (ps_for PassesOwn.never rfl (pi_range1 (by rfl) T.b_range (pa_cons (pe_op op_add pe_int (pe_call (G_law_draw) (hr.mono (by omega)) (by rfl) T.D_law_draw.mg T.D_law_draw.fn.kp T.D_law_draw.bd .nil pass0 (pa_cons (pv 0) (pa_cons pe_int pa_nil)))) pa_nil)) (pg_name (i := 3) sc_law_name.nd rfl (by first | exact Or.inl rfl | exact Or.inr rfl)) (pss_one (ps_set (i := 2) sc_law_name.nd rfl (by first | exact Or.inl rfl | exact Or.inr rfl) (pe_op op_add_str (pv 2) (pe_ix ix_seq pe_str (pe_call (G_law_draw) (hr.mono (by omega)) (by rfl) T.D_law_draw.mg T.D_law_draw.fn.kp T.D_law_draw.bd .nil pass0 (pa_cons (pv 0) (pa_cons pe_int pa_nil))) (fun _ _ => rfl))))))
      (pss_cons (ps_set (i := 4) sc_law_name.nd rfl (by first | exact Or.inl rfl | exact Or.inr rfl) (pe_op op_add pe_int (pe_call (G_law_draw) (hr.mono (by omega)) (by rfl) T.D_law_draw.mg T.D_law_draw.fn.kp T.D_law_draw.bd .nil pass0 (pa_cons (pv 0) (pa_cons (pe_callB call_len (by rfl) T.b_len bt_len (pa_cons (pv 2) pa_nil)) pa_nil)))))
      (pss_one (ps_ret (pe_op op_add_str (pe_op op_add_str (pe_slice sl_str (pv 2) po_none (po_some (pv 4))) (pe_callTy call_str_int (by rfl) T.b_str bt_str (pa_cons (pv 1) pa_nil))) (pe_slice sl_str (pv 2) (po_some (pv 4)) po_none))))))), ?_⟩
    refine ⟨_, rfl, p, c, 8, n, rfl, hP, by decide, by decide, by omega, fun d H1 d0 d1 b1 P1 => ?_⟩
    refine ⟨_, _, rfl, rfl, _, rfl, by omega, by omega, for_range (n := (1 + d).toNat) (fun i σ' H' => ∃ (cs : List Nat) (o : Option V), σ' = [some (.ref p), some (.int (ix : Int)), some (.str (S cs)), o, none] ∧
      cs.length = i ∧ (∀ x ∈ cs, 97 ≤ x ∧ x ≤ 122) ∧ But p H H' ∧ Pen p c (n + 1 + i) H') ⟨[], none, rfl, rfl, (fun x hx => by cases hx), b1, P1⟩ ?_ ?_⟩
    · rintro i σ' H' hi ⟨cs, o, rfl, hc, hx, b2, P2⟩
      refine ⟨_, rfl, _, rfl, p, c, 26, _, rfl, P2, by decide, by decide, by omega, fun d2 H2 e0 e1 b3 P3 => ?_⟩
      have ed : ((d2.toNat : Nat) : Int) = d2 := by omega
      refine .inr (.inr ⟨_, _, _, rfl, rfl, letters_short, atI_int e0 (letters_at d2.toNat (by omega)), ?_⟩)
      refine ⟨_, _, rfl, rfl, ?_, ?_⟩
      · rw [SX.S_len]; refine small5 ?_
        show cs.length + 1 ≤ _
        omega
      · refine ⟨cs ++ [97 + d2.toNat], some (.int (0 + (i : Int))), ?_, by rw [List.length_append, hc]; rfl, fun x hx' => ?_, b2.trans b3, P3⟩
        · rw [S_one, SX.S_cat]; rfl
        · rcases List.mem_append.mp hx' with h | h
          · exact hx x h
          · rw [List.mem_singleton.mp h]; omega
    · rintro σ' H' ⟨cs, o, rfl, hc, hx, b2, P2⟩
      refine ⟨_, rfl, _, rfl, _, _, rfl, ⟨by rw [SX.S_len]; exact small5 (by omega), rfl⟩, p, c, _, _, rfl, P2, by rw [SX.S_len]; omega, by rw [SX.S_len]; omega, by omega, fun d2 H2 e0 e1 b3 P3 => ?_⟩
      rw [SX.S_len] at e1
      have lc : cs.length = (1 + d).toNat := hc
      have ct := cut_takeI cs (1 + d2) (by omega) (by omega)
      have cd := cut_dropI cs (1 + d2) (by omega) (by omega)
      have lg : (ix : Int).natAbs.log2 < 1920 := by
        have : (ix : Int).natAbs < 2 ^ 1920 := Nat.lt_of_lt_of_le (by omega : (ix : Int).natAbs < 32) (by decide)
        by_cases z : (ix : Int).natAbs = 0
        · rw [z]; decide
        · exact (Nat.log2_lt z).mpr this
      have eS : cutS (S cs) none (some (1 + d2)) ++ Str.ofString (toString (ix : Int)) ++ cutS (S cs) (some (1 + d2)) none = S (cs.take (1 + d2).toNat ++ Digs ix ++ cs.drop (1 + d2).toNat) := by
        rw [ct, cd, ← SX.S_tl (Str.ofString (toString (ix : Int))), SX.S_cat, SX.S_cat]; rfl
      have l1 : (cutS (S cs) none (some (1 + d2))).length + (Str.ofString (toString (ix : Int))).length ≤ 100000 := by
        rw [ct, SX.S_len, List.length_take, ← SX.S_tl (Str.ofString (toString (ix : Int))), SX.S_len]
        have := (digs_ok ix hi).2.1
        show _ + (Digs ix).length ≤ _
        omega
      have l2 : (cutS (S cs) none (some (1 + d2)) ++ Str.ofString (toString (ix : Int))).length + (cutS (S cs) (some (1 + d2)) none).length ≤ 100000 := by
        rw [ct, cd, ← SX.S_tl (Str.ofString (toString (ix : Int))), SX.S_cat, SX.S_len, SX.S_len, List.length_append, List.length_take, List.length_drop]
        have := (digs_ok ix hi).2.1
        show _ + (Digs ix).length + _ ≤ _
        omega
      refine ⟨_, _, rfl, rfl, _, rfl, _, rfl, _, rfl, _, rfl, by rw [SX.S_len]; exact small5 (by omega), _, rfl, _, rfl, lg, _, _, rfl, rfl, small5 l1, ?_⟩
      refine ⟨_, rfl, _, rfl, _, rfl, _, rfl, by rw [SX.S_len]; exact small5 (by omega), _, _, rfl, rfl, small5 l2, ?_⟩
      refine k _ _ ⟨cs.take (1 + d2).toNat, cs.drop (1 + d2).toNat, eS, ?_, ?_, fun x h => hx x ?_⟩ (b2.trans b3) (P3.more (by omega))
      · rw [List.length_take]; omega
      · rw [List.length_take, List.length_drop]; omega
      · rw [List.take_append_drop] at h; exact h
end
end Ag

set_option Elab.async false
set_option linter.all false
set_option maxRecDepth 100000
set_option maxHeartbeats 1000000
namespace Ag
open PySem PySem.Spec PyProof.Rows L2
theorem vstr_perm {ys : List V} {ms : List Str} (h : ys.Perm (ms.map V.str)) : ∃ ns : List Str, ns.Perm ms ∧ ys = ns.map V.str := by
  have hm : ∀ y ∈ ys, ∃ s, y = V.str s := fun y hy => by
    obtain ⟨s, _, e⟩ := List.mem_map.mp (h.mem_iff.mp hy); exact ⟨s, e.symm⟩
  let f : V → Str := fun v => match v with | .str s => s | _ => Str.empty
  refine ⟨ys.map f, ?_, ?_⟩
  · have := h.map f
    rw [List.map_map] at this
    have e : ms.map (f ∘ V.str) = ms := by
      have q : ms.map (f ∘ V.str) = ms.map id := List.map_congr_left fun s _ => rfl
      rw [q, List.map_id]
    rw [e] at this; exact this
  · rw [List.map_map]
    have e : ys.map (V.str ∘ f) = ys.map id := List.map_congr_left fun y hy => by
      obtain ⟨s, rfl⟩ := hm y hy; rfl
    rw [e, List.map_id]
section
variable {P : Program} {w : World} {K : PySem.W.Frag} {mg : Str → Option Value} {base : Heap} (T : Txt w K mg)
theorem ok_names : FnOk P w K mg base CX0 3 T.a_law_names T.d_law_names ["pen", "many"] (spNames K) := by
  have G_law_name := ok_name (P := P) (base := base) T
  have G_law_shuffled := ok_shuf (P := P) (base := base) T
  refine T.D_law_names.fn.ok sc_law_names (fun vs H Q E h => ?_) (fun cdv A outer s H vs Q E hr h => ?_)
  · obtain ⟨p, c, m, n, rfl, _⟩ := h; rfl
  · obtain ⟨p, c, m, n, rfl, hP, m31, n1, k⟩ := h
    refine ⟨_, (pss_one (ps_ret (pe_call (G_law_shuffled) (hr.mono (by omega)) (by rfl) T.D_law_shuffled.mg T.D_law_shuffled.fn.kp T.D_law_shuffled.bd .nil pass0 (pa_cons (pv 0) (pa_cons (pe_lc (own := [("index", 2)]) rfl sc_law_names.nd (pi_range1 (by rfl) T.b_range (pa_cons (pv 1) pa_nil)) (blkOk_by (own := [("index", 2)]) (N := ["pen", "many", "index"]) (sc := defScope s_law_names) (by decide +kernel)) (fun _ _ _ _ _ => (pg_name (i := 2) sc_law_names.nd rfl (by first | exact Or.inl rfl | exact Or.inr rfl))) (fun _ _ _ _ _ => pts_nil) (fun _ _ _ _ _ => (pe_call (G_law_name) (hr.mono (by omega)) (by rfl) T.D_law_name.mg T.D_law_name.fn.kp T.D_law_name.bd .nil pass0 (pa_cons (pv 0) (pa_cons (pv 2) pa_nil))))) pa_nil))))), ?_⟩
    refine ⟨_, rfl, _, rfl, _, rfl, by omega, by omega, fun D hD => lc_range (lo := 0) (n := m) (fun i H' => ∃ ms : List Str, H' D = some (.lst (ms.map V.str)) ∧ ms.length = i ∧ (∀ j s, ms[j]? = some s → Nm j s) ∧ But p H H' ∧ Pen p c (n + 10 * i) H')
      ⟨[], upd_same, rfl, fun j s e => by simp at e, .of (Same.newA hD), hP.upd (hP.ne_p hD) (hP.ne_c hD)⟩ ?_ ?_⟩
    · rintro i H' hi ⟨ms, e1, ml, hm, b1, P1⟩
      refine ⟨rfl, ?_⟩
      refine ⟨_, rfl, _, rfl, p, c, i, n + 10 * i, ?_, P1, by omega, by omega, fun s H2 hs b2 P2 => ?_⟩
      · show [V.ref p, V.int (0 + (i : Int))] ++ [] = _
        rw [Int.zero_add]; rfl
      have e2 : H2 D = some (.lst (ms.map V.str)) := b2 _ _ (hP.ne_p hD) e1
      refine ⟨_, e2, lt5 (by rw [List.length_map]; omega), ms ++ [s], ?_, by rw [List.length_append, ml]; rfl, fun j t e => ?_, ?_, ?_⟩
      · rw [List.map_append]; exact upd_same
      · rw [List.getElem?_append] at e
        split at e
        · exact hm j t e
        · have : j - ms.length = 0 := by
            cases z : j - ms.length with
            | zero => rfl
            | succ q => rw [z] at e; simp at e
          rw [this] at e
          have ej : j = i := by omega
          simp at e
          rw [← e, ej]; exact hs
      · intro b u nb e
        rw [upd_ne (ne_of_none e hD)]
        exact b2 _ _ nb (b1 _ _ nb e)
      · exact (P2.more (by omega)).upd (hP.ne_p hD) (hP.ne_c hD)
    · rintro H' ⟨ms, e1, ml, hm, b1, P1⟩
      refine ⟨p, c, D, ms.map V.str, _, rfl, P1, .inl (SqL.of e1), by rw [List.length_map]; omega, by omega, fun l ys H2 pm hl e2 b2 P2 => ?_⟩
      obtain ⟨ns, pn, rfl⟩ := vstr_perm pm
      exact k l ns H2 ⟨ms, ml, hm, pn⟩ (b1.free hl (P1.ne_p hl)) e2 (b1.trans b2) (P2.more (by rw [List.length_map, ml]; omega))
theorem ok_calls : FnOk P w K mg base CX0 4 T.a_law_calls T.d_law_calls ["pen", "many"] (spCalls K) := by
  have G_law_names := ok_names (P := P) (base := base) T
  refine T.D_law_calls.fn.ok sc_law_calls (fun vs H Q E h => ?_) (fun cdv A outer s H vs Q E hr h => ?_)
  · obtain ⟨p, c, m, n, rfl, _⟩ := h; rfl
  · obtain ⟨p, c, m, n, rfl, hP, m31, n1, k⟩ := h
    refine ⟨_, (pss_one (ps_ret (pe_callTy call_tuple_of (by rfl) T.b_tuple bt_tuple (pa_cons (pe_callB cr_sortedS (by rfl) T.b_sorted bt_sorted (pa_cons (pe_call (G_law_names) (hr.mono (by omega)) (by rfl) T.D_law_names.mg T.D_law_names.fn.kp T.D_law_names.bd .nil pass0 (pa_cons (pv 0) (pa_cons (pv 1) pa_nil))) pa_nil)) pa_nil)))), ?_⟩
    refine ⟨_, rfl, _, rfl, p, c, m, n, rfl, hP, m31, n1, fun l ns H1 hn hl e1 b1 P1 => ?_⟩
    have len := nms_len hn
    refine ⟨l, ns, rfl, SqL.of e1, by omega, fun ys q py sy hq => ?_⟩
    refine ⟨_, _, rfl, .inl ⟨SqL.of upd_same, fun r hr1 => ?_⟩⟩
    obtain ⟨ms, ml, hm, pm⟩ := hn
    have nrq : r ≠ q := fun z => by rw [z, upd_same] at hr1; cases hr1
    have hr2 : H1 r = none := by rw [upd_ne nrq] at hr1; exact hr1
    exact k r ys _ ⟨ms, ml, hm, py.trans pm⟩ sy upd_same (b1.trans (.of ((Same.newA hq).trans (Same.newA hr1)))) ((P1.upd (P1.ne_p hq) (P1.ne_c hq)).upd (P1.ne_p hr2) (P1.ne_c hr2))
end
end Ag

set_option Elab.async false
set_option linter.all false
set_option maxRecDepth 100000
set_option maxHeartbeats 1000000
namespace Ag
open PySem PySem.Spec PyProof.Rows L2

/-! ### good data -/
mutual
def gd : PyData → Bool
  | .none | .bool _ | .int _ => true
  | .str x => x.cps.all (· < 0x110000) && decide (x.length ≤ 1000)
  | .list xs => gds xs && decide (xs.length ≤ 1000)
  | .tuple xs => gds xs && decide (xs.length ≤ 1000)
  | .dict _ => false
def gds : List PyData → Bool
  | [] => true
  | x :: xs => gd x && gds xs
end
theorem gds_all : ∀ {xs : List PyData}, gds xs = true → ∀ x ∈ xs, gd x = true
  | [], _, _, h => by cases h
  | x :: xs, h, y, hy => by
    simp only [gds, Bool.and_eq_true] at h
    rcases List.mem_cons.mp hy with rfl | hy
    · exact h.1
    · exact gds_all h.2 y hy
theorem gds_of : ∀ {xs : List PyData}, (∀ x ∈ xs, gd x = true) → gds xs = true
  | [], _ => by simp [gds]
  | x :: xs, h => by
    simp only [gds, Bool.and_eq_true]
    exact ⟨h x List.mem_cons_self, gds_of fun y hy => h y (List.mem_cons_of_mem _ hy)⟩
mutual
theorem gd_lay : ∀ {d : PyData}, gd d = true → d.canLay0 = true
  | .none, _ => by simp [PyData.canLay0]
  | .bool _, _ => by simp [PyData.canLay0]
  | .int _, _ => by simp [PyData.canLay0]
  | .str x, h => by
    simp only [gd, Bool.and_eq_true] at h
    simp only [PyData.canLay0]; exact h.1
  | .list xs, h => by
    simp only [gd, Bool.and_eq_true] at h
    simp only [PyData.canLay0]; exact gds_lay h.1
  | .tuple xs, h => by
    simp only [gd, Bool.and_eq_true] at h
    simp only [PyData.canLay0]; exact gds_lay h.1
  | .dict _, h => by simp [gd] at h
theorem gds_lay : ∀ {ds : List PyData}, gds ds = true → PyData.canLayAll0 ds = true
  | [], _ => by simp [PyData.canLayAll0]
  | x :: xs, h => by
    simp only [gds, Bool.and_eq_true] at h
    simp only [PyData.canLayAll0, Bool.and_eq_true]
    exact ⟨gd_lay h.1, gds_lay h.2⟩
end

/-! ### names -/
def letter (c : Nat) : Bool := decide (97 ≤ c ∧ c ≤ 122)
def figure (c : Nat) : Bool := decide (48 ≤ c ∧ c ≤ 57)
theorem letters_list : ("abcdefghijklmnopqrstuvwxyz" : Str).cps.toList = List.range' 97 26 := by decide +kernel
theorem figures_list : ("0123456789" : Str).cps.toList = List.range' 48 10 := by decide +kernel
theorem both_list : ("abcdefghijklmnopqrstuvwxyz0123456789" : Str).cps.toList = List.range' 97 26 ++ List.range' 48 10 := by decide +kernel
theorem mem_letters (c : Nat) : decide (c ∈ ("abcdefghijklmnopqrstuvwxyz" : Str).cps.toList) = letter c := by
  rw [letters_list]; unfold letter; congr 1; rw [List.mem_range'_1]; apply propext; omega
theorem mem_figures (c : Nat) : decide (c ∈ ("0123456789" : Str).cps.toList) = figure c := by
  rw [figures_list]; unfold figure; congr 1; rw [List.mem_range'_1]; apply propext; omega
theorem mem_both (c : Nat) : decide (c ∈ ("abcdefghijklmnopqrstuvwxyz0123456789" : Str).cps.toList) = (letter c || figure c) := by
  rw [both_list, ← mem_letters, ← mem_figures, letters_list, figures_list]
  by_cases h1 : c ∈ List.range' 97 26 <;> by_cases h2 : c ∈ List.range' 48 10 <;> simp [h1, h2]
def nameB (s : Str) : Bool := decide (1 ≤ (s.length : Int)) && decide ((s.length : Int) ≤ 12) && (match s.cps.toList with | [] => false | c :: _ => letter c) && s.cps.toList.all fun c => letter c || figure c
def isName : PyData → Bool | .str s => nameB s | _ => false
theorem nm_name {i : Nat} {s : Str} (hi : i < 32) (h : Nm i s) : nameB s = true := by
  obtain ⟨a, b, rfl, h1, h2, h3⟩ := h
  obtain ⟨d1, d2, d3⟩ := digs_ok i hi
  have hl : (S (a ++ Digs i ++ b)).length = a.length + (Digs i).length + b.length := by rw [SX.S_len, List.length_append, List.length_append]
  have hc : (S (a ++ Digs i ++ b)).cps.toList = a ++ Digs i ++ b := rfl
  unfold nameB
  rw [hl, hc]
  simp only [Bool.and_eq_true, decide_eq_true_eq, List.all_eq_true, Bool.or_eq_true]
  refine ⟨⟨⟨by omega, by omega⟩, ?_⟩, fun c hc => ?_⟩
  · cases a with
    | nil => simp at h1
    | cons x r =>
      have := h3 x (by simp)
      show letter x = true
      unfold letter; simp; omega
  · rcases List.mem_append.mp hc with hc | hc
    · rcases List.mem_append.mp hc with hc | hc
      · have := h3 c (List.mem_append_left _ hc); left; unfold letter; simp; omega
      · have := d3 c hc; right; unfold figure; simp; omega
    · have := h3 c (List.mem_append_right _ hc); left; unfold letter; simp; omega

/-- a def that answers a Bool of one datum -/
def spB (K : PySem.W.Frag) (pre : PyData → Prop) (f : PyData → Bool) : Sp := fun vs H Q _ => ∃ v d, vs = [v] ∧ Dp K H v d ∧ pre d ∧ ∀ H', Same H H' → Q (.bl (f d)) H'
theorem rdc_spB {K : PySem.W.Frag} {E : XK} {pre : PyData → Prop} {f : PyData → Bool} {d : PyData} (hp : pre d) : RDC K (fun vs H Q => spB K pre f vs H Q E) [d] (.bool (f d)) := fun F vs H1 hv Q q => by
  cases hv with
  | cons a r => cases r; exact ⟨_, d, rfl, df_dp a, hp, fun H' s => q _ H' s (.bl _)⟩
theorem all_signs {p : Nat → Bool} (g : PyData → Bool) (hg : ∀ c, g (.str ⟨#[c]⟩) = p c) (x : Str) : ((signs x).map g).all id = x.cps.toList.all p := by
  unfold signs
  rw [List.map_map, List.all_map]
  congr 1; funext c; exact hg c
section
variable {P : Program} {w : World} {K : PySem.W.Frag} {mg : Str → Option Value} {base : Heap} (T : Txt w K mg)
def sgn : PyData → Nat | .str x => x.cps.toList.headD 0 | _ => 0
theorem ok_is_name : FnOk P w K mg base CX0 1 T.a_is_name T.d_is_name ["value"] (spB K (fun d => gd d = true) isName) := by
  refine T.D_is_name.fn.ok sc_is_name (fun vs H Q E h => ?_) (fun cdv A outer s H vs Q E hr h => ?_)
  · obtain ⟨v, d, rfl, _⟩ := h; rfl
  · obtain ⟨v, d, rfl, hv, hd, k⟩ := h
    refine ⟨_, (pss_cons (ps_if (PW.pt (pw_or (pt_not (pt_val (pe_callB call_isi (by rfl) T.b_isinstance bt_isinstance (pa_cons (pv 0) (pa_cons (pe_bltn (v := .ty "str") (by rfl) T.b_str bt_str rfl) pa_nil))))) (pw_or (pt_not (pt_chain op_le op_le pe_int (pe_callB call_len (by rfl) T.b_len bt_len (pa_cons (pv 0) pa_nil)) pe_int)) (pw_or1 (pt_cmpR op_notIn_sign (pe_ix ix_seq (pv 0) pe_int (fun _ _ => rfl)) (pe_glob (v := .str "abcdefghijklmnopqrstuvwxyz") (by rfl) T.g_LETTERS ⟨_, rfl⟩) rfl))))) (pss_one (ps_ret pe_bl)) pss_nil)
      (pss_one (ps_ret (pe_callB (cr_all rfl) (by rfl) T.b_all bt_all (pa_cons (pe_lc (own := [("sign", 1)]) rfl sc_is_name.nd (pi_str (pv 0)) (blkOk_by (own := [("sign", 1)]) (N := ["value", "sign"]) (sc := defScope s_is_name) (by decide +kernel)) (fun _ _ _ _ _ => (pg_name (i := 1) sc_is_name.nd rfl (by first | exact Or.inl rfl | exact Or.inr rfl))) (fun _ _ _ _ _ => pts_nil) (fun _ _ _ _ _ => (pe_or (pe_cmpR op_in_sign (pv 1) (pe_glob (v := .str "abcdefghijklmnopqrstuvwxyz") (by rfl) T.g_LETTERS ⟨_, rfl⟩) rfl) (pe_one (pe_cmpR op_in_sign (pv 1) (pe_glob (v := .str "0123456789") (by rfl) T.g_FIGURES ⟨_, rfl⟩) rfl))))) pa_nil))))), ?_⟩
    have hvar : ∀ H1, Same H H1 → ED K (tVar 0) (start ["value", "sign"] [v]) (nn H) H1 d := fun H1 s1 => ed_var rfl (df_mono s1 (fun _ z => z) (dp_df hv))
    have isi := et_B (ed_isi (T := "str") (hvar H (Same.refl _)) (.inl rfl))
    cases d with
    | str x =>
      have hx : x.length ≤ 1000 := by simp only [gd, Bool.and_eq_true, decide_eq_true_eq] at hd; exact hd.2
      have h12 : ET _ _ H _ := et_not (et_test (ed_chain (r := rI0 fun i j => .bl (decide (i ≤ j))) (r' := rI0 fun i j => .bl (decide (i ≤ j))) (ed_int (i := 1)) (ed_len (hvar H (Same.refl _)) (decide_eq_true (by omega))) (ed_int (i := 12)) rd_cmp fun _ => rd_cmp))
      by_cases hb : decide (1 ≤ (x.length : Int)) && decide ((x.length : Int) ≤ 12)
      · obtain ⟨c, cs, hc⟩ : ∃ c cs, x.cps.toList = c :: cs := by
          cases hc : x.cps.toList with
          | nil => 
            have : x.length = 0 := by show x.cps.size = 0; rw [← Array.length_toList, hc]; rfl
            simp [this] at hb
          | cons c cs => exact ⟨c, cs, rfl⟩
        have hch := et_B (ed_notInS (ed_ixS (j := 0) (hvar H (Same.refl _)) ed_int (by omega) (c := c) (by rw [hc]; rfl)) (ed_str (x := "abcdefghijklmnopqrstuvwxyz")))
        refine s_if (b := !letter c) (et_is (et_or (et_not isi) fun _ => et_or h12 fun _ => hch) ?_) (fun h H1 s1 => ?_) (fun h H1 s1 => ?_)
        · rw [mem_letters]; show (!true || (!(decide (1 ≤ (x.length : Int)) && decide ((x.length : Int) ≤ 12)) || !letter c)) = _; rw [hb]; rfl
        · have := k H1 s1
          have e : isName (.str x) = false := by
            show nameB x = false
            unfold nameB; rw [hc]; simp at h; simp [h]
          rw [e] at this; exact this
        · refine s_ret (F := nn H) (ed_all (bs := (signs x).map fun s => letter (sgn s) || figure (sgn s)) (ed_is (ed_lc (f := fun _ => true) (m := fun s => .bool (letter (sgn s) || figure (sgn s))) (ei_str (hvar H1 s1)) ?_ fun F2 H2 e2 v2 d2 hm hd2 => ?_) ?_)) fun v H2 s2 hv2 => ?_
          · unfold signs; rw [List.length_map, Array.length_toList]; show x.length ≤ _; omega
          · obtain ⟨c2, hc2, rfl⟩ := List.mem_map.mp hm
            refine ⟨_, fun Q q => q, rfl, et_yes, fun _ => ed_is (ed_orV (ed_inS (ed_var rfl hd2) (ed_str (x := "abcdefghijklmnopqrstuvwxyz"))) fun _ => ed_inS (ed_var rfl hd2) (ed_str (x := "0123456789"))) ?_⟩
            rw [mem_letters, mem_figures]; rfl
          · rw [filt_tt, List.map_map]; rfl
          · cases hv2
            have := k H2 (s1.trans s2)
            have e : isName (.str x) = ((signs x).map fun s => letter (sgn s) || figure (sgn s)).all id := by
              rw [all_signs (p := fun c => letter c || figure c) _ (fun c => rfl)]
              show nameB x = _
              unfold nameB; rw [hb, hc]; simp at h; simp [h]
            rw [e] at this; exact this
      · rw [Bool.not_eq_true] at hb
        refine s_if (b := true) (et_is (et_or (b := true) (et_not isi) fun _ => et_is (et_or (b := false) h12 fun h => ?_) ?_) ?_) (fun h H1 s1 => ?_) (fun h H1 s1 => nomatch h)
        · have h := (show (!(decide (1 ≤ (x.length : Int)) && decide ((x.length : Int) ≤ 12))) = false from h)
          rw [hb] at h; cases h
        · show (!(decide (1 ≤ (x.length : Int)) && decide ((x.length : Int) ≤ 12)) || false) = true
          rw [hb]; rfl
        · rfl
        · have := k H1 s1
          have e : isName (.str x) = false := by
            show nameB x = false
            unfold nameB; rw [hb]; rfl
          rw [e] at this; exact this
    | _ =>
      refine s_if (b := true) (et_or (b := true) (et_not isi) fun h => nomatch h) (fun h H1 s1 => ?_) (fun h H1 s1 => nomatch h)
      exact k H1 s1
end
end Ag

set_option Elab.async false
set_option linter.all false
set_option maxRecDepth 100000
set_option maxHeartbeats 1000000
namespace Ag
open PySem PySem.Spec PyProof.Rows L2
section
variable {K : PySem.W.Frag} {σ : L2.St} {F : Addr → Prop} {H : Hp} {te ta tb : TE} {d : PyData} {D : Ends}
theorem s_retB {b c : Bool} (h : ED K te σ F H (.bool b)) (e : b = c) (k : ∀ H1, Same H H1 → D.rt (.bl c) H1) : tRet te D σ H := s_ret h fun v H1 s1 hv => by
  cases hv; subst e; exact k H1 s1
theorem s_retI {b c : Int} (h : ED K te σ F H (.int b)) (e : b = c) (k : ∀ H1, Same H H1 → D.rt (.int c) H1) : tRet te D σ H := s_ret h fun v H1 s1 hv => by
  cases hv; subst e; exact k H1 s1
theorem ed_notInKd {a : Addr} {x : Str} {ks : List Str} (hin : ∀ z, ∃ r, PySem.W.nsIn K a z = some r ∧ r.isSome = decide (z ∈ ks)) (ha : ED K ta σ F H (.str x)) :
    ED K (tOp (fun x y H Q => ∃ (z : Str) (r : Option Value), x = .str z ∧ y = .ref a ∧ PySem.W.nsIn K a z = some r ∧ Q (.bl (!r.isSome)) H) ta (tC (.ref a))) σ F H (.bool (!decide (x ∈ ks))) := fun H1 s Q q =>
  ha H1 s _ fun v H2 s2 hv => by
    cases hv
    obtain ⟨r, e, h⟩ := hin x
    refine ⟨x, r, rfl, rfl, e, ?_⟩
    rw [h]; exact q _ H2 s2 (.bl _)
theorem ed_ixKd {w : World} {a : Addr} {x : Str} {i : Int} (hat : KDct K w a x (.int i)) (hb : ED K tb σ F H (.str x)) :
    ED K (tOp (rIxD K w) (tC (.ref a)) tb) σ F H (.int i) := fun H1 s Q q =>
  hb H1 s _ fun v H2 s2 hv => by
    cases hv
    exact ⟨a, x, _, rfl, rfl, hat, q _ H2 s2 (.int _)⟩
end
def isWord : PyData → Bool | .tuple ds => ds.all isName | _ => false
def leastOf (s : Str) : Int := if s = "never" then 1 else 2
def plainB (s : Str) (x : PyData) (r : List PyData) : Bool :=
  if s = "call" then r.isEmpty && isName x
  else if s = "answer" then (match r with | [y] => isName x && (isName y && !(PyData.eqv x y)) | _ => false)
  else decide (s ∈ (["row", "steps", "never"] : List Str)) && (r.isEmpty && (isWord x && (decide (leastOf s ≤ (lenP x : Int)) && decide ((lenP x : Int) ≤ 4))))
def isPlain : PyData → Bool | .tuple (.str s :: x :: r) => plainB s x r | _ => false
def Kinded (d : PyData) : Prop := gd d = true ∧ ∃ s x r, d = .tuple (.str s :: x :: r)
theorem gd_tup {ds : List PyData} (h : gd (.tuple ds) = true) : (∀ x ∈ ds, gd x = true) ∧ ds.length ≤ 1000 := by
  simp only [gd, Bool.and_eq_true, decide_eq_true_eq] at h
  exact ⟨gds_all h.1, h.2⟩
theorem name_shaped {d : PyData} (hd : gd d = true) (h : isName d = true) : SeqAt.shaped d = true := by
  cases d with
  | str x =>
    simp only [SeqAt.shaped, Bool.and_eq_true, decide_eq_true_eq]
    exact ⟨gd_lay hd, by simp [PyData.depth]⟩
  | _ => cases h
theorem empty_len {r : List PyData} : decide (((lenP (.tuple (d :: x :: r)) : Nat) : Int) = 2) = r.isEmpty := by
  cases r with
  | nil => rfl
  | cons a b => exact decide_eq_false (by simp [lenP]; omega)
section
variable {P : Program} {w : World} {K : PySem.W.Frag} {mg : Str → Option Value} {base : Heap} (T : Txt w K mg)
theorem ok_is_word : FnOk P w K mg base CX0 2 T.a_is_word T.d_is_word ["value"] (spB K (fun d => gd d = true) isWord) := by
  have G_is_name := ok_is_name (P := P) (base := base) T
  refine T.D_is_word.fn.ok sc_is_word (fun vs H Q E h => ?_) (fun cdv A outer s H vs Q E hr h => ?_)
  · obtain ⟨v, d, rfl, _⟩ := h; rfl
  · obtain ⟨v, d, rfl, hv, hd, k⟩ := h
    refine ⟨_, (pss_one (ps_ret (pe_and (pe_callB call_isi (by rfl) T.b_isinstance bt_isinstance (pa_cons (pv 0) (pa_cons (pe_bltn (v := .ty "tuple") (by rfl) T.b_tuple bt_tuple rfl) pa_nil))) (pe_one (pe_callB (cr_all rfl) (by rfl) T.b_all bt_all (pa_cons (pe_lc (own := [("call", 1)]) rfl sc_is_word.nd (pi_tup (pv 0)) (blkOk_by (own := [("call", 1)]) (N := ["value", "call"]) (sc := defScope s_is_word) (by decide +kernel)) (fun _ _ _ _ _ => (pg_name (i := 1) sc_is_word.nd rfl (by first | exact Or.inl rfl | exact Or.inr rfl))) (fun _ _ _ _ _ => pts_nil) (fun _ _ _ _ _ => (pe_call (G_is_name) (hr.mono (by omega)) (by rfl) T.D_is_name.mg T.D_is_name.fn.kp T.D_is_name.bd .nil pass0 (pa_cons (pv 1) pa_nil)))) pa_nil)))))), ?_⟩
    have hvar : ED K (tVar 0) (start ["value", "call"] [v]) (nn H) H d := ed_var rfl (dp_df hv)
    have isi := ed_isi (T := "tuple") hvar (.inr (.inl rfl))
    cases d with
    | tuple ds =>
      obtain ⟨g1, g2⟩ := gd_tup hd
      refine s_retB (F := nn H) (ed_andV isi fun _ => ed_all (bs := ds.map isName) (ed_is (ed_lc (f := fun _ => true) (m := fun s => .bool (isName s)) (ei_tup hvar) (by omega) fun F2 H2 e2 v2 d2 hm hd2 => ?_) ?_)) ?_ k
      · exact ⟨_, fun Q q => q, rfl, et_yes, fun _ => ed_call (ea_cons (ed_var rfl hd2) ea_nil) (rdc_spB (g1 _ hm))⟩
      · rw [filt_tt, List.map_map]; rfl
      · show (true && (ds.map isName).all id) = ds.all isName
        rw [List.all_map]; rfl
    | _ => exact s_retB (F := nn H) (b := false) (ed_andV (a := false) (b := true) isi fun h => nomatch h) rfl k
theorem ok_is_plain : FnOk P w K mg base CX0 3 T.a_is_plain T.d_is_plain ["value"] (spB K Kinded isPlain) := by
  have G_is_name := ok_is_name (P := P) (base := base) T
  have G_is_word := ok_is_word (P := P) (base := base) T
  refine T.D_is_plain.fn.ok sc_is_plain (fun vs H Q E h => ?_) (fun cdv A outer s H vs Q E hr h => ?_)
  · obtain ⟨v, d, rfl, _⟩ := h; rfl
  · obtain ⟨v, d, rfl, hv, ⟨hd, sk, x, r, rfl⟩, k⟩ := h
    obtain ⟨g1, g2⟩ := gd_tup hd
    have gx : gd x = true := g1 x (by simp)
    refine ⟨_, (pss_cons (ps_set (i := 1) sc_is_plain.nd rfl (by first | exact Or.inl rfl | exact Or.inr rfl) (pe_ix ix_seq (pv 0) pe_int (fun _ _ => rfl)))
      (pss_cons (ps_if (pt_cmpR op_eq (pv 1) pe_str (nomark _)) (pss_one (ps_ret (pe_and (pe_cmpR op_eq (pe_callB call_len (by rfl) T.b_len bt_len (pa_cons (pv 0) pa_nil)) pe_int (nomark _)) (pe_one (pe_call (G_is_name) (hr.mono (by omega)) (by rfl) T.D_is_name.mg T.D_is_name.fn.kp T.D_is_name.bd .nil pass0 (pa_cons (pe_ix ix_seq (pv 0) pe_int (fun _ _ => rfl)) pa_nil)))))) pss_nil)
      (pss_cons (ps_if (pt_cmpR op_eq (pv 1) pe_str (nomark _)) (pss_one (ps_ret (pe_and (pe_cmpR op_eq (pe_callB call_len (by rfl) T.b_len bt_len (pa_cons (pv 0) pa_nil)) pe_int (nomark _)) (pe_and (pe_call (G_is_name) (hr.mono (by omega)) (by rfl) T.D_is_name.mg T.D_is_name.fn.kp T.D_is_name.bd .nil pass0 (pa_cons (pe_ix ix_seq (pv 0) pe_int (fun _ _ => rfl)) pa_nil)) (pe_and (pe_call (G_is_name) (hr.mono (by omega)) (by rfl) T.D_is_name.mg T.D_is_name.fn.kp T.D_is_name.bd .nil pass0 (pa_cons (pe_ix ix_seq (pv 0) pe_int (fun _ _ => rfl)) pa_nil)) (pe_one (pe_cmpR (op_neD hr.units) (pe_ix ix_seq (pv 0) pe_int (fun _ _ => rfl)) (pe_ix ix_seq (pv 0) pe_int (fun _ _ => rfl)) (nomark _)))))))) pss_nil)
      (pss_cons (ps_if (PW.pt (pw_or (pt_cmpR (op_notIn_kd T.kd_LEAST_CALLS) (pv 1) (pe_glob (v := .ref T.a_LEAST_CALLS) (by rfl) T.g_LEAST_CALLS rfl) rfl) (pw_or (pt_cmpR op_ne (pe_callB call_len (by rfl) T.b_len bt_len (pa_cons (pv 0) pa_nil)) pe_int (nomark _)) (pw_or1 (pt_not (pt_val (pe_call (G_is_word) (hr.mono (by omega)) (by rfl) T.D_is_word.mg T.D_is_word.fn.kp T.D_is_word.bd .nil pass0 (pa_cons (pe_ix ix_seq (pv 0) pe_int (fun _ _ => rfl)) pa_nil)))))))) (pss_one (ps_ret pe_bl)) pss_nil)
      (pss_one (ps_ret (pe_chain op_le op_le (pe_ix ix_kdict (pe_glob (v := .ref T.a_LEAST_CALLS) (by rfl) T.g_LEAST_CALLS rfl) (pv 1) (fun _ _ => rfl)) (pe_callB call_len (by rfl) T.b_len bt_len (pa_cons (pe_ix ix_seq (pv 0) pe_int (fun _ _ => rfl)) pa_nil)) (pe_ix ix_kdict (pe_glob (v := .ref T.a_MOST_CALLS) (by rfl) T.g_MOST_CALLS rfl) (pv 1) (fun _ _ => rfl))))))))), ?_⟩
    refine s_set (F := nn H) (ed_ixT (j := 0) (ed_var (i := 0) rfl (dp_df hv)) ed_int rfl) fun v1 H1 s1 hv1 => ?_
    cases hv1
    have kk : ∀ H2, Same H1 H2 → Q (.bl (plainB sk x r)) H2 := fun H2 s2 => k H2 (s1.trans s2)
    replace hv : Df K (nn H) H1 v (.tuple (.str sk :: x :: r)) := df_mono s1 (fun _ z => z) (dp_df hv)
    clear k hr
    generalize hF : nn H = F0 at hv
    have hvar : ∀ H2, Same H1 H2 → ED K (tVar 0) ((start ["value", "kind"] [v]).set 1 (some (.str sk))) F0 H2 (.tuple (.str sk :: x :: r)) := fun H2 s2 => ed_var rfl (df_mono s2 (fun _ z => z) hv)
    have hkind : ∀ H2, ED K (tVar 1) ((start ["value", "kind"] [v]).set 1 (some (.str sk))) F0 H2 (.str sk) := fun H2 => ed_var rfl (.str sk)
    have h1 : ∀ H2, Same H1 H2 → ED K _ _ F0 H2 x := fun H2 s2 => ed_ixT (j := 1) (hvar H2 s2) ed_int rfl
    refine s_if (et_test (ed_eqS (hkind H1) (ed_str (x := "call")))) (fun hb H2 s2 => ?_) (fun hb H2 s2 => ?_)
    · have hb := of_decide_eq_true hb
      refine s_retB (ed_andV (ed_eqI (ed_len (hvar H2 s2) rfl) ed_int) fun _ => ed_call (ea_cons (h1 H2 s2) ea_nil) (rdc_spB gx)) ?_ fun H3 s3 => kk H3 (s2.trans s3)
      unfold plainB
      rw [if_pos hb, empty_len]
    · have n1 := of_decide_eq_false hb
      refine s_if (et_test (ed_eqS (hkind H2) (ed_str (x := "answer")))) (fun hb H3 s3 => ?_) (fun hb H3 s3 => ?_)
      · have hb := of_decide_eq_true hb
        have s13 := s2.trans s3
        match r, g1, hvar, h1, kk with
        | [y], g1, hvar, h1, kk =>
          have gy : gd y = true := g1 y (by simp)
          have h2 : ED K _ _ F0 H3 y := ed_ixT (j := 2) (hvar H3 s13) ed_int rfl
          refine s_retB (ed_andV (ed_eqI (ed_len (hvar H3 s13) rfl) ed_int) fun _ => ed_andV (ed_call (ea_cons (h1 H3 s13) ea_nil) (rdc_spB gx)) fun e1 => ed_andV (ed_call (ea_cons h2 ea_nil) (rdc_spB gy)) fun e2 => ed_neD (h1 H3 s13) h2 (name_shaped gx e1) (name_shaped gy e2)) ?_ fun H4 s4 => kk H4 (s13.trans s4)
          unfold plainB
          rw [if_neg n1, if_pos hb]; rfl
        | [], g1, hvar, h1, kk =>
          refine s_retB (b := false) (ed_andV (a := false) (b := false) (ed_eqI (ed_len (hvar H3 s13) rfl) ed_int) fun e => nomatch e) ?_ fun H4 s4 => kk H4 (s13.trans s4)
          unfold plainB
          rw [if_neg n1, if_pos hb]
        | y :: z :: r, g1, hvar, h1, kk =>
          have e3 : decide (((lenP (.tuple (.str sk :: x :: y :: z :: r)) : Nat) : Int) = 3) = false := decide_eq_false (by simp [lenP]; omega)
          refine s_retB (b := false) (ed_andV (a := false) (b := false) (ed_is (ed_eqI (ed_len (hvar H3 s13) rfl) ed_int) (by rw [e3])) fun e => nomatch e) ?_ fun H4 s4 => kk H4 (s13.trans s4)
          unfold plainB
          rw [if_neg n1, if_pos hb]
      · have n2 := of_decide_eq_false hb
        have s13 := s2.trans s3
        refine s_if (et_or (et_test (ed_notInKd T.in_LEAST_CALLS (hkind H3))) fun _ => et_or (et_test (ed_neI (ed_len (hvar H3 s13) rfl) (ed_int (i := 2)))) fun _ => et_not (et_B (ed_call (ea_cons (h1 H3 s13) ea_nil) (rdc_spB gx)))) (fun hb H4 s4 => ?_) (fun hb H4 s4 => ?_)
        · have := kk H4 (s13.trans s4)
          have e : plainB sk x r = false := by
            unfold plainB
            rw [if_neg n1, if_neg n2]
            rw [empty_len] at hb
            simp [n1, n2] at hb
            simp
            grind
          rw [e] at this; exact this
        · rw [empty_len] at hb
          simp [n1, n2] at hb
          obtain ⟨b1, b2, b3⟩ := hb
          replace b1 : sk = Str.ofString "row" ∨ sk = Str.ofString "steps" ∨ sk = Str.ofString "never" := by
            by_cases z1 : sk = Str.ofString "row"
            · exact .inl z1
            · by_cases z2 : sk = Str.ofString "steps"
              · exact .inr (.inl z2)
              · exact .inr (.inr (b1 z1 z2))
          obtain ⟨l0, hl, hm⟩ : KDct K w T.a_LEAST_CALLS sk (.int (leastOf sk)) ∧ KDct K w T.a_MOST_CALLS sk (.int 4) ∧ sk ∈ (["row", "steps", "never"] : List Str) := by
            rcases b1 with rfl | rfl | rfl
            · exact ⟨T.at_LEAST_CALLS _ _ (by decide +kernel), T.at_MOST_CALLS _ _ (by decide +kernel), by decide +kernel⟩
            · exact ⟨T.at_LEAST_CALLS _ _ (by decide +kernel), T.at_MOST_CALLS _ _ (by decide +kernel), by decide +kernel⟩
            · exact ⟨T.at_LEAST_CALLS _ _ (by decide +kernel), T.at_MOST_CALLS _ _ (by decide +kernel), by decide +kernel⟩
          have s14 := s13.trans s4
          have hlen : hasLen x = true := by
            cases x with
            | tuple ds => rfl
            | _ => cases b3
          refine s_retB (ed_chain (ed_ixKd l0 (hkind H4)) (ed_len (h1 H4 s14) hlen) (ed_ixKd hl (hkind H4)) rd_cmp fun _ => rd_cmp) ?_ fun H5 s5 => kk H5 (s14.trans s5)
          unfold plainB
          rw [if_neg n1, if_neg n2, decide_eq_true hm, b2, b3]; rfl
end
end Ag

set_option Elab.async false
set_option linter.all false
set_option maxRecDepth 100000
set_option maxHeartbeats 1000000
namespace Ag
open PySem PySem.Spec PyProof.Rows L2
/-! ### how many plain ones: the plain law -/
def jointB (s : Str) : Bool := decide (s ∈ (["all", "any"] : List Str))
def isTup : PyData → Bool | .tuple _ => true | _ => false
def jointOk (x : PyData) (r : List PyData) : Bool := r.isEmpty && (isTup x && (decide (2 ≤ (lenP x : Int)) && decide ((lenP x : Int) ≤ 4)))
def kinded : PyData → Bool | .tuple (.str _ :: _ :: _) => true | _ => false
def pmF (deep : Bool) (f : PyData → Int) : PyData → Int
  | .tuple (.str s :: x :: r) => if jointB s then (if jointOk x r && deep then ((seqOf x).map f).sum else 99) else if plainB s x r then 1 else 99
  | _ => 99
def pm : Nat → PyData → Int | 0 => pmF false (fun _ => 0) | k + 1 => pmF true (pm k)
theorem pm_eq (k : Nat) (s : Str) (x : PyData) (r : List PyData) : pm k (.tuple (.str s :: x :: r)) = if jointB s then (if jointOk x r && decide (0 < k) then ((seqOf x).map (pm (k - 1))).sum else 99) else if plainB s x r then 1 else 99 := by
  cases k with
  | zero => show pmF _ _ _ = _; unfold pmF; simp
  | succ k => show pmF _ _ _ = _; unfold pmF; simp
theorem pm_no {k : Nat} {d : PyData} (h : kinded d = false) : pm k d = 99 := by
  have : ∀ b f, pmF b f d = 99 := fun b f => by
    unfold pmF
    split
    · cases h
    · rfl
  cases k <;> exact this _ _
theorem jointOk_of {x : PyData} {r : List PyData} (h : jointOk x r = true) : r = [] ∧ ∃ ps, x = .tuple ps ∧ 2 ≤ ps.length ∧ ps.length ≤ 4 := by
  unfold jointOk at h
  simp only [Bool.and_eq_true, decide_eq_true_eq] at h
  obtain ⟨h1, h2, h3, h4⟩ := h
  refine ⟨List.isEmpty_iff.mp h1, ?_⟩
  cases x with
  | tuple ps => exact ⟨ps, rfl, by simp [lenP] at h3; omega, by simp [lenP] at h4; omega⟩
  | _ => cases h2
theorem sum_ge {α : Type} {f : α → Int} : ∀ (l : List α), (∀ x ∈ l, 1 ≤ f x) → (l.length : Int) ≤ (l.map f).sum
  | [], _ => by simp
  | x :: l, h => by
    have := sum_ge l (fun y hy => h y (List.mem_cons_of_mem _ hy))
    have := h x List.mem_cons_self
    simp only [List.map_cons, List.sum_cons, List.length_cons]
    omega
theorem pm_pos : ∀ (k : Nat) (d : PyData), 1 ≤ pm k d
  | 0, d => by
    cases h : kinded d with
    | false => rw [pm_no h]; decide
    | true =>
      unfold kinded at h
      split at h
      · rw [pm_eq]; simp; split <;> (try split) <;> decide
      · cases h
  | k + 1, d => by
    cases h : kinded d with
    | false => rw [pm_no h]; decide
    | true =>
      unfold kinded at h
      split at h
      · rename_i s x r
        rw [pm_eq]
        by_cases hj : jointB s = true
        · rw [if_pos hj]
          by_cases ho : (jointOk x r && decide (0 < k + 1)) = true
          · rw [if_pos ho]
            obtain ⟨rfl, ps, rfl, h2, _⟩ := jointOk_of (Bool.and_eq_true_iff.mp ho).1
            have := sum_ge (f := pm k) ps (fun y _ => pm_pos k y)
            show 1 ≤ ((ps.map (pm k)).sum)
            omega
          · rw [if_neg ho]; decide
        · rw [if_neg hj]; split <;> decide
      · cases h
abbrev Its := List (PyData × Nat)
def itD (p : PyData × Nat) : PyData := .tuple [p.1, .int (4 - (p.2 : Int))]
def Sm (l : Its) : Int := (l.map fun p => pm p.2 p.1).sum
def Ms (l : Its) : Nat := (l.map fun p => 5 ^ p.2).sum
theorem Sm_len (l : Its) : (l.length : Int) ≤ Sm l := sum_ge l fun p _ => pm_pos _ _
theorem Sm_app (a b : Its) : Sm (a ++ b) = Sm a + Sm b := by unfold Sm; rw [List.map_append, List.sum_append]
theorem Ms_app (a b : Its) : Ms (a ++ b) = Ms a + Ms b := by unfold Ms; rw [List.map_append, List.sum_append]
theorem Sm_one (d : PyData) (k : Nat) : Sm [(d, k)] = pm k d := by simp [Sm]
theorem Ms_one (d : PyData) (k : Nat) : Ms [(d, k)] = 5 ^ k := by simp [Ms]
theorem Sm_map (ps : List PyData) (k : Nat) : Sm (ps.map fun p => (p, k)) = (ps.map (pm k)).sum := by unfold Sm; rw [List.map_map]; rfl
theorem Ms_map (ps : List PyData) (k : Nat) : Ms (ps.map fun p => (p, k)) = ps.length * 5 ^ k := by
  unfold Ms; rw [List.map_map]
  induction ps with
  | nil => simp
  | cons a l ih => rw [List.map_cons, List.sum_cons, ih, List.length_cons, Nat.succ_mul]; show 5 ^ k + _ = _; omega
theorem Sm_nonneg (l : Its) : 0 ≤ Sm l := by have := Sm_len l; omega
/-- the data of the line can be laid -/
theorem lay_its : ∀ (l : Its), (∀ p ∈ l, gd p.1 = true) → PyData.canLayAll0 (l.map itD) = true
  | [], _ => by simp [PyData.canLayAll0]
  | p :: l, h => by
    have h1 := gd_lay (h p List.mem_cons_self)
    have h2 := lay_its l fun q hq => h q (List.mem_cons_of_mem _ hq)
    simp [PyData.canLayAll0, itD, PyData.canLay0, h1, h2]
theorem kinded_of {d : PyData} (h : kinded d = true) : ∃ s x r, d = .tuple (.str s :: x :: r) := by
  unfold kinded at h
  split at h
  · exact ⟨_, _, _, rfl⟩
  · cases h
section
variable {K : PySem.W.Frag} {σ : L2.St} {F : Addr → Prop} {H : Hp} {te : TE} {d : PyData}
/-- not isinstance(x, tuple) or len(x) < 2 or not isinstance(x[0], str) -/
theorem et_shape (h : ED K te σ F H d) :
    ET (tOr (tNot (tB (tCB (rIsi K) (tCons te (tCons (tC (.ty "tuple")) tNil))))) (tOr (tTest (tOp (rI0 fun i j => .bl (decide (i < j))) (tCB (fun xs H Q => ∃ x n, xs = [x] ∧ LenV K x H n ∧ Q (.int n) H) (tCons te tNil)) (tC (.int 2))))
      (tNot (tB (tCB (rIsi K) (tCons (tOp (rIx K) te (tC (.int 0))) (tCons (tC (.ty "str")) tNil))))))) σ H (!kinded d) := by
  have isi := ed_isi (T := "tuple") h (.inr (.inl rfl))
  cases d with
  | tuple ds =>
    have hl := ed_lt (ed_len h rfl) (ed_int (i := 2))
    cases ds with
    | nil => exact et_is (et_or (et_not (et_B isi)) fun _ => et_or (b := true) (et_test hl) fun h => nomatch h) rfl
    | cons a r =>
      have h0 := ed_ixT (j := 0) h ed_int rfl
      cases r with
      | nil => exact et_is (et_or (et_not (et_B isi)) fun _ => et_or (b := true) (et_test hl) fun h => nomatch h) (by cases a <;> rfl)
      | cons x r =>
        have e : decide (((lenP (.tuple (a :: x :: r)) : Nat) : Int) < 2) = false := decide_eq_false (by simp [lenP]; omega)
        refine et_is (et_or (et_not (et_B isi)) fun _ => et_or (et_test hl) fun _ => et_not (et_B (ed_isi (T := "str") h0 (.inl rfl)))) ?_
        rw [e]
        cases a <;> rfl
  | _ => exact et_is (et_or (b := true) (et_not (et_B isi)) fun h => nomatch h) rfl
/-- the tests of a joint's parts -/
theorem jointOk_not {x : PyData} {r : List PyData} : (!jointOk x r) = (!r.isEmpty || (!isTup x || !(decide (2 ≤ (lenP x : Int)) && decide ((lenP x : Int) ≤ 4)))) := by
  unfold jointOk; simp [Bool.not_and]
theorem ne_two {d x : PyData} {r : List PyData} : (!decide (((lenP (.tuple (d :: x :: r)) : Nat) : Int) = 2)) = !r.isEmpty := by rw [empty_len]
theorem isi_tup (x : PyData) : isiB "tuple" x = isTup x := by cases x <;> rfl
theorem tup_hasLen {x : PyData} (h : isTup x = true) : hasLen x = true := by cases x <;> first | rfl | cases h
end
section
variable {P : Program} {w : World} {K : PySem.W.Frag} {mg : Str → Option Value} {base : Heap} (T : Txt w K mg)
theorem ed_joints {σ : L2.St} {F : Addr → Prop} {H : Hp} : ED K (tC (.ref T.a_JOINTS)) σ F H (.tuple ((["all", "any"] : List Str).map .str)) := ed_c fun F H => .tup (T.sq_JOINTS H) (.cons (.str _) (.cons (.str _) .nil))
theorem dfs_snoc {F : Addr → Prop} {H : Hp} {d : PyData} : ∀ {ds : List PyData} {vs : List V}, DfAll K F H vs (ds ++ [d]) → ∃ us u, vs = us ++ [u] ∧ DfAll K F H us ds ∧ Df K F H u d
  | [], _, .cons a .nil => ⟨[], _, rfl, .nil, a⟩
  | _ :: _, _, .cons a r => by
    obtain ⟨us, u, rfl, h1, h2⟩ := dfs_snoc r
    exact ⟨_ :: us, u, rfl, .cons a h1, h2⟩
def isDuty (d : PyData) : Bool := decide (pm 4 d ≤ 4)
theorem ok_is_duty : FnOk P w K mg base CX0 4 T.a_is_duty T.d_is_duty ["value"] (spB K (fun d => gd d = true) isDuty) := by
  have G_is_plain := ok_is_plain (P := P) (base := base) T
  refine T.D_is_duty.fn.ok sc_is_duty (fun vs H Q E h => ?_) (fun cdv A outer s H vs Q E hr h => ?_)
  · obtain ⟨v, d, rfl, _⟩ := h; rfl
  · obtain ⟨v, d0, rfl, hv, hd0, k⟩ := h
    refine ⟨_, (pss_cons (ps_par (i := 1) (j := 2) (by rfl) sc_is_duty.nd rfl rfl (by decide) rfl rfl (pa_cons (pe_lst (pa_cons (pe_tup (pa_cons (pv 0) (pa_cons pe_int pa_nil))) pa_nil)) (pa_cons pe_int pa_nil)) (by rfl))
      (pss_cons (ps_while PassesOwn.never (pt_cmpR (op_neE hr.units) (pv 1) (pe_lst pa_nil) (nomark _)) (pss_cons (ps_asg (pe_bm0 PySem.F.plainAttrs_list PySem.F.slot_list_pop PySem.F.type_list_pop mt_pop (pv 1)) (pg_tup rfl (pgs_cons (pg_name (i := 3) sc_is_duty.nd rfl (by first | exact Or.inl rfl | exact Or.inr rfl)) (pgs_cons (pg_name (i := 4) sc_is_duty.nd rfl (by first | exact Or.inl rfl | exact Or.inr rfl)) pgs_nil))))
      (pss_cons (ps_if (PW.pt (pw_or (pt_not (pt_val (pe_callB call_isi (by rfl) T.b_isinstance bt_isinstance (pa_cons (pv 3) (pa_cons (pe_bltn (v := .ty "tuple") (by rfl) T.b_tuple bt_tuple rfl) pa_nil))))) (pw_or (pt_cmpR op_lt (pe_callB call_len (by rfl) T.b_len bt_len (pa_cons (pv 3) pa_nil)) pe_int (nomark _)) (pw_or1 (pt_not (pt_val (pe_callB call_isi (by rfl) T.b_isinstance bt_isinstance (pa_cons (pe_ix ix_seq (pv 3) pe_int (fun _ _ => rfl)) (pa_cons (pe_bltn (v := .ty "str") (by rfl) T.b_str bt_str rfl) pa_nil))))))))) (pss_one (ps_ret pe_bl)) pss_nil)
      (C8.pss_cut (ps_if (pt_cmpR op_in_seq (pe_ix ix_seq (pv 3) pe_int (fun _ _ => rfl)) (pe_glob (v := .ref T.a_JOINTS) (by rfl) T.g_JOINTS rfl) (by rfl)) (pss_cons (ps_if (PW.pt (pw_or (pt_cmpR op_ne (pe_callB call_len (by rfl) T.b_len bt_len (pa_cons (pv 3) pa_nil)) pe_int (nomark _)) (pw_or (pt_not (pt_val (pe_callB call_isi (by rfl) T.b_isinstance bt_isinstance (pa_cons (pe_ix ix_seq (pv 3) pe_int (fun _ _ => rfl)) (pa_cons (pe_bltn (v := .ty "tuple") (by rfl) T.b_tuple bt_tuple rfl) pa_nil))))) (pw_or1 (pt_not (pt_chain op_le op_le pe_int (pe_callB call_len (by rfl) T.b_len bt_len (pa_cons (pe_ix ix_seq (pv 3) pe_int (fun _ _ => rfl)) pa_nil)) (pe_glob (v := .int 4) (by rfl) T.g_MOST_PLAIN ⟨_, rfl⟩))))))) (pss_one (ps_ret pe_bl)) pss_nil)
      (pss_cons (ps_if (pt_cmpR op_eq (pv 4) (pe_glob (v := .int 4) (by rfl) T.g_MOST_AROUND ⟨_, rfl⟩) (nomark _)) (pss_one (ps_ret pe_bl)) pss_nil)
      (pss_one (ps_expr (pe_bm PySem.F.plainAttrs_list PySem.F.slot_list_extend PySem.F.type_list_extend mt_extend (pv 1) (pa_cons (pe_lc (own := [("part", 5)]) rfl sc_is_duty.nd (pi_tup (pe_ix ix_seq (pv 3) pe_int (fun _ _ => rfl))) (blkOk_by (own := [("part", 5)]) (N := ["value", "line", "plain", "one", "around", "part"]) (sc := defScope s_is_duty) (by decide +kernel)) (fun _ _ _ _ _ => (pg_name (i := 5) sc_is_duty.nd rfl (by first | exact Or.inl rfl | exact Or.inr rfl))) (fun _ _ _ _ _ => pts_nil) (fun _ _ _ _ _ => (pe_tup (pa_cons (pv 5) (pa_cons (pe_op op_add (pv 4) pe_int) pa_nil))))) pa_nil)))))) (pss_one (ps_if (pt_val (pe_call (G_is_plain) (hr.mono (by omega)) (by rfl) T.D_is_plain.mg T.D_is_plain.fn.kp T.D_is_plain.bd .nil pass0 (pa_cons (pv 3) pa_nil))) (pss_one (ps_aug (i := 2) sc_is_duty.nd rfl (by first | exact Or.inl rfl | exact Or.inr rfl) pe_int ip_add)) (pss_one (ps_ret pe_bl)))))
      (pss_one (ps_if (pt_cmpR op_gt (pe_op op_add (pv 2) (pe_callB call_len (by rfl) T.b_len bt_len (pa_cons (pv 1) pa_nil))) (pe_glob (v := .int 4) (by rfl) T.g_MOST_PLAIN ⟨_, rfl⟩) (nomark _)) (pss_one (ps_ret pe_bl)) pss_nil))))))
      (pss_one (ps_ret pe_bl)))), ?_⟩
    refine ⟨_, rfl, (by show 2 ≤ sizeLine; decide), fun p hp => ⟨(by show 1 ≤ sizeLine; decide), fun l hl => ⟨_, _, rfl, ?_⟩⟩⟩
    have hl0 : H l = none := (Same.newA hp).freshA hl
    have nF : ¬ nn H l := fun z => z hl0
    have s0 : Same H (upd (upd H p (.tup [v, .int 0])) l (.lst [.ref p])) := (Same.newA hp).trans (Same.newA hl)
    have pl0 : p ≠ l := ne_of_none upd_same hl
    refine ⟨fun m σ' H' => ∃ (its : Its) (vs : List V) (n : Nat) (o3 o4 o5 : Option V), σ' = [some v, some (.ref l), some (.int (n : Int)), o3, o4, o5] ∧ Same H H' ∧ H' l = some (.lst vs) ∧ DfAll K (· ≠ l) H' vs (its.map itD) ∧
      (∀ p ∈ its, gd p.1 = true ∧ p.2 ≤ 4) ∧ (n : Int) + Sm its = pm 4 d0 ∧ n + its.length ≤ 4 ∧ m = Ms its, ⟨Ms [(d0, 4)], [(d0, 4)], [.ref p], 0, none, none, none, rfl, s0, upd_same, ?_, ?_, by rw [Sm_one]; omega, Nat.le_of_ble_eq_true rfl, rfl⟩, ?_⟩
    · refine .cons (.tup (.of (by rw [upd_ne pl0]; exact upd_same)) (.cons (df_mono (G := (· ≠ l)) s0 (fun a z q => z (by rw [q]; exact hl0)) (dp_df hv)) (.cons (.int _) .nil))) .nil
    · intro q hq
      rw [List.mem_singleton] at hq; subst hq; exact ⟨hd0, Nat.le_refl 4⟩
    · rintro m σ' H' ⟨its, vs, n, o3, o4, o5, rfl, sH, hL, hit, hg, hsum, hlen, rfl⟩
      have hline : Df K (fun _ => True) H' (.ref l) (.list (its.map itD)) := .lst (.inl ⟨.inl hL, trivial⟩) (dfs_mono (Same.refl _) (fun _ _ => trivial) hit)
      refine et_test (ed_neE (ed_var (i := 1) rfl hline) ed_emp (lay_its its fun p hp => (hg p hp).1)) H' (Same.refl _) _ fun H1 s1 => ?_
      have sH1 := sH.trans s1
      have hL1 := s1 _ _ hL
      replace hit := dfs_mono (G := (· ≠ l)) s1 (fun _ z => z) hit
      clear hline sH hL s1
      refine ite2 (fun hne => ?_) (fun hne => ?_)
      · -- one more
        refine ⟨fun σ2 H2 => ∃ m' < Ms its, ∃ (its' : Its) (vs' : List V) (n' : Nat) (o3 o4 o5 : Option V), σ2 = [some v, some (.ref l), some (.int (n' : Int)), o3, o4, o5] ∧ Same H H2 ∧ H2 l = some (.lst vs') ∧ DfAll K (· ≠ l) H2 vs' (its'.map itD) ∧
          (∀ p ∈ its', gd p.1 = true ∧ p.2 ≤ 4) ∧ (n' : Int) + Sm its' = pm 4 d0 ∧ n' + its'.length ≤ 4 ∧ m' = Ms its', fun σ2 H2 h => ?_, ?_⟩
        · obtain ⟨m', hm, h⟩ := h; exact ⟨m', hm, h⟩
        have hne' : its ≠ [] := fun z => by subst z; cases hne
        obtain ⟨is, ⟨d, j⟩, rfl⟩ : ∃ is p, its = is ++ [p] := ⟨its.dropLast, its.getLast hne', (List.dropLast_concat_getLast hne').symm⟩
        obtain ⟨gd1, hj⟩ := hg (d, j) (by simp)
        rw [Sm_app, Sm_one] at hsum
        rw [Ms_app, Ms_one]
        rw [List.map_append] at hit
        have hgi : ∀ p ∈ is, gd p.1 = true ∧ p.2 ≤ 4 := fun p hp => hg p (List.mem_append_left _ hp)
        rw [List.length_append] at hlen
        simp only [List.length_singleton] at hlen
        obtain ⟨us, u, rfl, hus, hu⟩ := dfs_snoc hit
        have hu2 : ∃ a vd, u = .ref a ∧ SqT K H1 a [vd, .int (4 - (j : Int))] ∧ Df K (· ≠ l) H1 vd d := by
          cases hu with
          | tup hs r =>
            cases r with
            | cons r1 r =>
              cases r with
              | cons r2 r => cases r; cases r2; exact ⟨_, _, rfl, hs, r1⟩
        obtain ⟨a, vd, rfl, hsq, hvd⟩ := hu2
        have nF : ¬ (fun x => x ≠ l) l := fun z => z rfl
        have hsq2 : SqT K (upd H1 l (.lst us)) a [vd, .int (4 - (j : Int))] := hsq.imp (fun z => rd_other z (fun q => by
          subst q
          rcases z with z | ⟨x, z⟩ <;> (rw [hL1] at z; cases z))) id
        refine ⟨_, rfl, .inl ⟨rfl, _, SqL.of hL1⟩, l, _, .ref a, rfl, rfl, hL1, by simp, a, _, rfl, by rw [List.dropLast_concat]; exact hsq2, rfl, _, _, rfl, _, _, rfl, rfl, ?_⟩
        rw [List.dropLast_concat]
        have sH2 : Same H (upd H1 l (.lst us)) := fun b o e => by
          rw [upd_ne (fun q => by subst q; rw [hl0] at e; cases e)]; exact sH1 _ _ e
        have hL2 : (upd H1 l (.lst us)) l = some (.lst us) := upd_same
        replace hus := dfs_upd (F := (· ≠ l)) (o := .lst us) hL1 nF hus
        replace hvd := df_upd (F := (· ≠ l)) (o := .lst us) hL1 nF hvd
        generalize upd H1 l (.lst us) = H2 at sH2 hL2 hus hvd
        clear hit hsq hsq2 hL1 sH1 hu hg
        have hd : ∀ H3, Same H2 H3 → ED K (tVar 3) [some v, some (.ref l), some (.int (n : Int)), some vd, some (.int (4 - (j : Int))), o5] (· ≠ l) H3 d := fun H3 s3 => ed_var rfl (df_mono s3 (fun _ z => z) hvd)
        have bad : pm j d = 99 → ∀ H3, Same H2 H3 → Q (.bl false) H3 := fun h99 H3 s3 => by
          have := k H3 (sH2.trans s3)
          have e : isDuty d0 = false := by
            have := Sm_nonneg is
            unfold isDuty; exact decide_eq_false (by omega)
          rw [e] at this; exact this
        refine s_if (et_shape (hd H2 (Same.refl _))) (fun hb H3 s3 => ?_) (fun hb H3 s3 => ?_)
        · exact bad (pm_no (by simpa using hb)) H3 s3
        obtain ⟨sk, x, r, rfl⟩ := kinded_of (d := d) (by simpa using hb)
        clear hb
        obtain ⟨g1, g2⟩ := gd_tup gd1
        have gx : gd x = true := g1 x (by simp)
        refine ⟨fun σ4 H4 => ∃ (its' : Its) (vs' : List V) (n' : Nat) (o5 : Option V), σ4 = [some v, some (.ref l), some (.int (n' : Int)), some vd, some (.int (4 - (j : Int))), o5] ∧ Same H H4 ∧ H4 l = some (.lst vs') ∧ DfAll K (· ≠ l) H4 vs' (its'.map itD) ∧
          (∀ p ∈ its', gd p.1 = true ∧ p.2 ≤ 4) ∧ (n' : Int) + Sm its' = pm 4 d0 ∧ Ms its' < Ms is + 5 ^ j ∧ its'.length ≤ 100, ?_, ?_⟩
        · have h0 := fun H4 s4 => ed_ixT (j := 0) (hd H4 s4) ed_int rfl
          have h1 := fun H4 s4 => ed_ixT (j := 1) (hd H4 s4) ed_int rfl
          refine s_if (et_test (ed_inSeq (h0 H3 s3) (ed_joints T) (.inl rfl))) (fun hb H4 s4 => ?_) (fun hb H4 s4 => ?_)
          · -- a joint
            have hJ : jointB sk = true := hb
            have s24 := s3.trans s4
            refine s_if (b := !jointOk x r) (et_is (et_or (et_test (ed_neI (ed_len (hd H4 s24) rfl) (ed_int (i := 2)))) fun _ => et_or (et_not (et_B (ed_isi (h1 H4 s24) (.inr (.inl rfl))))) fun e => et_not (et_test (ed_chain (ed_int (i := 2)) (ed_len (h1 H4 s24) ?_) (ed_int (i := 4)) rd_cmp fun _ => rd_cmp))) ?_) (fun hb H5 s5 => ?_) (fun hb H5 s5 => ?_)
            · rw [isi_tup] at e; exact tup_hasLen (by simpa using e)
            · rw [jointOk_not, empty_len, isi_tup]
            · refine bad ?_ H5 (s24.trans s5)
              rw [pm_eq, if_pos hJ, if_neg]
              intro z; rw [(Bool.and_eq_true_iff.mp z).1] at hb; cases hb
            · have hok : jointOk x r = true := by simpa using hb
              have s25 := s24.trans s5
              obtain ⟨rfl, ps, rfl, hp2, hp4⟩ := jointOk_of hok
              refine s_if (et_test (K := K) (ed_eqI (ed_var (F := (· ≠ l)) (i := 4) rfl (.int _)) (ed_int (i := 4)))) (fun hb H6 s6 => ?_) (fun hb H6 s6 => ?_)
              · have hj0 : j = 0 := by have := of_decide_eq_true hb; omega
                refine bad ?_ H6 (s25.trans s6)
                rw [pm_eq, if_pos hJ, if_neg]
                intro z; rw [hj0] at z; simp at z
              · have hj1 : 0 < j := by have := of_decide_eq_false hb; omega
                have s26 := s25.trans s6
                have hL6 := s26 _ _ hL2
                refine ⟨_, rfl, .inl ⟨rfl, _, SqL.of hL6⟩, lc_run (F := (· ≠ l)) (f := fun _ => true) (m := fun p => itD (p, j - 1)) (ei_tup (h1 H6 s26)) (by omega) (fun F2 H7 e7 v7 d7 hm hd7 => ?_) H6 (Same.refl _) _ fun D ys H7 s7 nD eD rD => ?_⟩
                · refine ⟨_, fun Q q => q, rfl, et_yes, fun _ => ed_is (ed_tup (ea_cons (ed_var rfl hd7) (ea_cons (ed_add (ed_var rfl (.int _)) (ed_int (i := 1))) ea_nil)) (Nat.le_of_ble_eq_true rfl)) ?_⟩
                  have : (4 : Int) - (j : Int) + 1 = 4 - ((j - 1 : Nat) : Int) := by omega
                  rw [this]; rfl
                · have hL7 := s7 _ _ hL6
                  have lD : l ≠ D := fun q => by rw [q, nD] at hL6; cases hL6
                  rw [filt_tt] at rD
                  have lu := dfs_len hus
                  have ly := dfs_len rD
                  rw [List.length_map] at lu ly
                  refine ⟨l, D, us, ys, rfl, rfl, hL7, eD, by rw [lu, ly]; exact small5 (by omega), ?_⟩
                  refine ⟨is ++ ps.map fun p => (p, j - 1), us ++ ys, n, o5, rfl, fun b o e => ?_, upd_same, ?_, ?_, ?_, ?_, ?_⟩
                  · rw [upd_ne (fun q => by subst q; rw [hl0] at e; cases e)]; exact (s26.trans s7) _ _ (sH2 _ _ e)
                  · rw [List.map_append, List.map_map]
                    refine dfs_app (dfs_upd (F := (· ≠ l)) hL7 nF (dfs_mono (s26.trans s7) (fun _ z => z) hus)) (dfs_upd (F := (· ≠ l)) hL7 nF (dfs_mono (Same.refl _) (fun a z q => ?_) rD))
                    subst q
                    rcases z.1 with z | z
                    · exact z rfl
                    · rw [hL6] at z; cases z
                  · intro p hp
                    rcases List.mem_append.mp hp with hp | hp
                    · exact hgi p hp
                    · obtain ⟨q, hq, rfl⟩ := List.mem_map.mp hp
                      exact ⟨(gd_tup gx).1 q hq, by show j - 1 ≤ 4; omega⟩
                  · rw [pm_eq, if_pos hJ, if_pos (by rw [hok]; simp [hj1])] at hsum
                    rw [Sm_app, Sm_map]; exact hsum
                  · rw [Ms_app, Ms_map]
                    have : 5 ^ j = 5 * 5 ^ (j - 1) := by
                      obtain ⟨i, rfl⟩ : ∃ i, j = i + 1 := ⟨j - 1, by omega⟩
                      rw [Nat.pow_succ, Nat.add_sub_cancel, Nat.mul_comm]
                    have h5 : 0 < 5 ^ (j - 1) := Nat.pow_pos (by decide)
                    have : ps.length * 5 ^ (j - 1) ≤ 4 * 5 ^ (j - 1) := Nat.mul_le_mul_right _ hp4
                    omega
                  · rw [List.length_append, List.length_map]; omega
          · -- a plain one, or none
            have hJ : ¬ jointB sk = true := fun z => by
              have z2 : decide (sk ∈ (["all", "any"] : List Str)) = true := z
              rw [z2] at hb; cases hb
            have s24 := s3.trans s4
            refine s_if (et_B (ed_call (ea_cons (hd H4 s24) ea_nil) (rdc_spB (pre := Kinded) (f := isPlain) ⟨gd1, sk, x, r, rfl⟩))) (fun hb H5 s5 => ?_) (fun hb H5 s5 => ?_)
            · have hP : plainB sk x r = true := hb
              have s25 := s24.trans s5
              refine ⟨_, rfl, _, _, rfl, rfl, ?_⟩
              refine ⟨is, us, n + 1, o5, ?_, sH2.trans s25, s25 _ _ hL2, dfs_mono s25 (fun _ z => z) hus, hgi, ?_, ?_, by omega⟩
              · show [some v, some (.ref l), some (.int ((n : Int) + 1)), some vd, some (.int (4 - (j : Int))), o5] = _
                rw [show ((n + 1 : Nat) : Int) = (n : Int) + 1 by omega]
              · rw [pm_eq, if_neg hJ, if_pos hP] at hsum
                omega
              · have h5 : 0 < 5 ^ j := Nat.pow_pos (by decide)
                omega
            · refine bad ?_ H5 (s24.trans s5)
              rw [pm_eq, if_neg hJ, if_neg]
              intro z
              have hb2 : plainB sk x r = false := hb
              rw [hb2] at z; cases z
        · -- too many
          rintro σ4 H4 ⟨its', vs', n', o5', rfl, sH4, hL4, hit4, hg4, hsum4, hms4, hlen4⟩
          have hline4 : Df K (fun _ => True) H4 (.ref l) (.list (its'.map itD)) := .lst (.inl ⟨.inl hL4, trivial⟩) (dfs_mono (Same.refl _) (fun _ _ => trivial) hit4)
          have hl4 : (((lenP (.list (its'.map itD)) : Nat)) : Int) = its'.length := by simp [lenP]
          have := Sm_len its'
          refine s_if (et_test (ed_gt (ed_add (ed_var (F := fun _ => True) (i := 2) rfl (.int _)) (ed_len (ed_var (i := 1) rfl hline4) rfl)) (ed_int (i := 4)))) (fun hb H5 s5 => ?_) (fun hb H5 s5 => ?_)
          · have hb := of_decide_eq_true hb
            rw [hl4] at hb
            have := k H5 (sH4.trans s5)
            have e : isDuty d0 = false := by
              unfold isDuty; exact decide_eq_false (by omega)
            rw [e] at this; exact this
          · have hb := of_decide_eq_false hb
            rw [hl4] at hb
            exact ⟨Ms its', hms4, its', vs', n', _, _, o5', rfl, sH4.trans s5, s5 _ _ hL4, dfs_mono s5 (fun _ z => z) hit4, hg4, hsum4, by omega, rfl⟩
      · -- none left
        have hn : its = [] := by
          cases its with
          | nil => rfl
          | cons a b => exact absurd rfl hne
        subst hn
        have := k H1 sH1
        have e : isDuty d0 = true := by
          have e0 : Sm [] = 0 := rfl
          rw [e0] at hsum
          simp only [List.length_nil] at hlen
          unfold isDuty; exact decide_eq_true (by omega)
        rw [e] at this; exact this
end
end Ag

set_option Elab.async false
set_option linter.all false
set_option maxRecDepth 100000
set_option maxHeartbeats 1000000
namespace Ag
open PySem PySem.Spec PyProof.Rows L2
/-! ### the sorted texts of a set are one list -/
def leS (a b : Str) : Prop := a.cps.toList ≤ b.cps.toList
theorem rising_pw : ∀ (l : List Str) (p : Str), risingS p l = true → (p :: l).Pairwise leS
  | [], p, _ => List.pairwise_singleton _ _
  | x :: r, p, h => by
    have h' : (!ltCps x.cps.toList p.cps.toList && risingS x r) = true := h
    obtain ⟨h1, h2⟩ := Bool.and_eq_true_iff.mp h'
    have ih := rising_pw r x h2
    have le : leS p x := by
      rw [ltCps_eq] at h1
      have : ¬ x.cps.toList < p.cps.toList := by simpa using h1
      exact List.not_lt.mp this
    refine List.pairwise_cons.mpr ⟨fun y hy => ?_, ih⟩
    rcases List.mem_cons.mp hy with rfl | hy
    · exact le
    · exact List.le_trans le ((List.pairwise_cons.mp ih).1 y hy)
theorem sorted_pw : ∀ (l : List Str), sortedS l = true → l.Pairwise leS
  | [], _ => .nil
  | x :: r, h => rising_pw r x h
theorem sorted_uniq {xs ys : List Str} (h1 : sortedS xs = true) (h2 : sortedS ys = true) (n1 : xs.Nodup) (n2 : ys.Nodup) (m : ∀ k, k ∈ xs ↔ k ∈ ys) : xs = ys :=
  List.Perm.eq_of_pairwise (le := leS) (fun a b _ _ h h' => Str.ext' (Array.toList_inj.mp (List.le_antisymm h h'))) (sorted_pw _ h1) (sorted_pw _ h2) ((List.perm_ext_iff_of_nodup n1 n2).mpr m)
/-! ### the plain ones of a duty -/
def strsOf (l : List PyData) : List Str := l.filterMap fun d => match d with | .str s => some s | _ => none
def nmsOf : PyData → List Str
  | .tuple (.str s :: x :: r) => if s = "call" then strsOf [x] else if s = "answer" then strsOf (x :: r) else strsOf (seqOf x)
  | _ => []
theorem strs_all : ∀ {l : List PyData}, (∀ x ∈ l, isName x = true) → (strsOf l).map .str = l
  | [], _ => rfl
  | x :: l, h => by
    have hx := h x List.mem_cons_self
    have ih := strs_all (l := l) fun y hy => h y (List.mem_cons_of_mem _ hy)
    cases x with
    | str s => show PyData.str s :: (strsOf l).map .str = _; rw [ih]
    | _ => cases hx
def ones : Nat → PyData → List PyData
  | 0, d => [d]
  | k + 1, .tuple (.str s :: x :: r) => if jointB s then (seqOf x).flatMap (ones k) else [.tuple (.str s :: x :: r)]
  | _ + 1, d => [d]
def onesR : Nat → PyData → List PyData
  | 0, d => [d]
  | k + 1, .tuple (.str s :: x :: r) => if jointB s then (seqOf x).reverse.flatMap (onesR k) else [.tuple (.str s :: x :: r)]
  | _ + 1, d => [d]
theorem ones_eq (k : Nat) (s : Str) (x : PyData) (r : List PyData) : ones (k + 1) (.tuple (.str s :: x :: r)) = if jointB s then (seqOf x).flatMap (ones k) else [.tuple (.str s :: x :: r)] := rfl
theorem onesR_eq (k : Nat) (s : Str) (x : PyData) (r : List PyData) : onesR (k + 1) (.tuple (.str s :: x :: r)) = if jointB s then (seqOf x).reverse.flatMap (onesR k) else [.tuple (.str s :: x :: r)] := rfl
theorem ones_no {d : PyData} (h : kinded d = false) (k : Nat) : ones k d = [d] ∧ onesR k d = [d] := by
  cases k with
  | zero => exact ⟨rfl, rfl⟩
  | succ k =>
    constructor
    · unfold ones; split
      · rename_i h0; cases h0
      · cases h
      · rfl
    · unfold onesR; split
      · rename_i h0; cases h0
      · cases h
      · rfl
theorem ones_mem : ∀ (k : Nat) (d f : PyData), f ∈ onesR k d ↔ f ∈ ones k d
  | 0, d, f => Iff.rfl
  | k + 1, d, f => by
    cases h : kinded d with
    | false => rw [(ones_no h _).1, (ones_no h _).2]
    | true =>
      obtain ⟨s, x, r, rfl⟩ := kinded_of h
      rw [ones_eq, onesR_eq]
      split
      · simp only [List.mem_flatMap, List.mem_reverse]
        constructor
        · rintro ⟨a, h1, h2⟩; exact ⟨a, h1, (ones_mem k a f).mp h2⟩
        · rintro ⟨a, h1, h2⟩; exact ⟨a, h1, (ones_mem k a f).mpr h2⟩
      · exact Iff.rfl
/-- a duty that has at most four plain ones at depth k -/
theorem pm_good {k : Nat} {d : PyData} (h : pm k d ≤ 4) : ∃ s x r, d = .tuple (.str s :: x :: r) ∧ ((jointB s = true ∧ r = [] ∧ (∃ j, k = j + 1 ∧ ∃ ps, x = .tuple ps ∧ 2 ≤ ps.length ∧ ps.length ≤ 4 ∧ pm k d = (ps.map (pm j)).sum)) ∨ (jointB s = false ∧ plainB s x r = true ∧ pm k d = 1)) := by
  cases hk : kinded d with
  | false => rw [pm_no hk] at h; exact absurd h (by decide)
  | true =>
    obtain ⟨s, x, r, rfl⟩ := kinded_of hk
    refine ⟨s, x, r, rfl, ?_⟩
    rw [pm_eq] at h ⊢
    by_cases hj : jointB s = true
    · rw [if_pos hj] at h ⊢
      by_cases ho : (jointOk x r && decide (0 < k)) = true
      · rw [if_pos ho] at h ⊢
        obtain ⟨o1, o2⟩ := Bool.and_eq_true_iff.mp ho
        obtain ⟨rfl, ps, rfl, h2, h4⟩ := jointOk_of o1
        have := of_decide_eq_true o2
        exact .inl ⟨hj, rfl, k - 1, by omega, ps, rfl, h2, h4, rfl⟩
      · rw [if_neg ho] at h; exact absurd h (by decide)
    · rw [if_neg hj] at h ⊢
      by_cases hp : plainB s x r = true
      · rw [if_pos hp]; exact .inr ⟨by simpa using hj, hp, rfl⟩
      · rw [if_neg hp] at h; exact absurd h (by decide)
def PlainOne (d : PyData) : Prop := gd d = true ∧ ∃ s x r, d = .tuple (.str s :: x :: r) ∧ plainB s x r = true ∧ jointB s = false
theorem sum_le_one {f : PyData → Int} (hf : ∀ x, 1 ≤ f x) : ∀ {l : List PyData} {x : PyData}, x ∈ l → f x ≤ (l.map f).sum
  | y :: l, x, h => by
    have h0 := sum_ge (f := f) l fun z _ => hf z
    simp only [List.map_cons, List.sum_cons]
    rcases List.mem_cons.mp h with rfl | h
    · omega
    · have := sum_le_one hf h
      have := hf y
      omega
theorem ones_plain : ∀ (k : Nat) (d : PyData), gd d = true → pm k d ≤ 4 → ∀ f ∈ ones k d, PlainOne f
  | k, d, hg, h, f, hf => by
    obtain ⟨s, x, r, rfl, h1⟩ := pm_good h
    rcases h1 with ⟨hj, rfl, j, rfl, ps, rfl, h2, h4, hs⟩ | ⟨hj, hp, _⟩
    · unfold ones at hf
      rw [if_pos hj] at hf
      obtain ⟨p, hp, hf⟩ := List.mem_flatMap.mp hf
      have hp' : p ∈ ps := hp
      have le := sum_le_one (f := pm j) (pm_pos j) hp'
      exact ones_plain j p ((gd_tup ((gd_tup hg).1 (.tuple ps) (by simp))).1 p hp') (by omega) f hf
    · have e : ones k (.tuple (.str s :: x :: r)) = [.tuple (.str s :: x :: r)] := by
        cases k with
        | zero => rfl
        | succ k => unfold ones; rw [hj]; rfl
      rw [e, List.mem_singleton] at hf
      subst hf
      exact ⟨hg, s, x, r, rfl, hp, hj⟩
theorem flat_len {f : PyData → List PyData} {g : PyData → Int} : ∀ (l : List PyData), (∀ x ∈ l, ((f x).length : Int) = g x) → (((l.flatMap f).length : Nat) : Int) = (l.map g).sum
  | [], _ => rfl
  | x :: l, h => by
    have := flat_len l fun y hy => h y (List.mem_cons_of_mem _ hy)
    have := h x List.mem_cons_self
    simp only [List.flatMap_cons, List.length_append, List.map_cons, List.sum_cons]
    omega
theorem ones_len : ∀ (k : Nat) (d : PyData), pm k d ≤ 4 → ((ones k d).length : Int) = pm k d
  | k, d, h => by
    obtain ⟨s, x, r, rfl, h1⟩ := pm_good h
    rcases h1 with ⟨hj, rfl, j, rfl, ps, rfl, h2, h4, hs⟩ | ⟨hj, hp, he⟩
    · unfold ones
      rw [if_pos hj, hs]
      refine flat_len ps fun p hp => ones_len j p ?_
      have le := sum_le_one (f := pm j) (pm_pos j) hp
      omega
    · rw [he]
      cases k with
      | zero => rfl
      | succ k => unfold ones; rw [hj]; rfl
theorem nms_eq (s : Str) (x : PyData) (r : List PyData) : nmsOf (.tuple (.str s :: x :: r)) = if s = "call" then strsOf [x] else if s = "answer" then strsOf (x :: r) else strsOf (seqOf x) := rfl
theorem plain_names {s : Str} {x : PyData} {r : List PyData} (h : plainB s x r = true) : (nmsOf (.tuple (.str s :: x :: r))).length ≤ 4 ∧
    (if s = "call" then [x] else if s = "answer" then x :: r else seqOf x) = (nmsOf (.tuple (.str s :: x :: r))).map .str ∧ (¬ s = "call" → ¬ s = "answer" → isTup x = true) := by
  unfold plainB at h
  rw [nms_eq]
  by_cases c : s = "call"
  · rw [if_pos c] at h ⊢
    rw [if_pos c]
    have := (Bool.and_eq_true_iff.mp h).2
    have e : (strsOf [x]).map .str = [x] := strs_all (by simpa using this)
    refine ⟨?_, e.symm, fun q => absurd c q⟩
    have := congrArg List.length e; simp at this; omega
  · rw [if_neg c] at h ⊢
    rw [if_neg c]
    by_cases a : s = "answer"
    · rw [if_pos a] at h ⊢
      rw [if_pos a]
      match r, h with
      | [y], h =>
        simp only [Bool.and_eq_true] at h
        have e : (strsOf [x, y]).map .str = [x, y] := strs_all (by simp [h.1, h.2.1])
        refine ⟨?_, e.symm, fun _ q => absurd a q⟩
        have := congrArg List.length e; simp at this; omega
    · rw [if_neg a] at h ⊢
      rw [if_neg a]
      simp only [Bool.and_eq_true] at h
      obtain ⟨_, _, hw, _, hl⟩ := h
      have hl := of_decide_eq_true hl
      cases x with
      | tuple ps =>
        have e : (strsOf ps).map .str = ps := strs_all (by simpa [isWord] using hw)
        refine ⟨?_, e.symm, fun _ _ => rfl⟩
        have := congrArg List.length e
        simp [lenP] at this hl
        show (strsOf ps).length ≤ 4
        omega
      | _ => cases hw
end Ag

set_option Elab.async false
set_option linter.all false
set_option maxRecDepth 100000
set_option maxHeartbeats 1000000
namespace Ag
open PySem PySem.Spec PyProof.Rows L2
section
variable {P : Program} {w : World} {K : PySem.W.Frag} {mg : Str → Option Value} {base : Heap} (T : Txt w K mg)
theorem ok_law_is_name : FnOk P w K mg base CX0 1 T.a_law_is_name T.d_law_is_name ["value"] (spB K (fun d => gd d = true) isName) := by
  refine T.D_law_is_name.fn.ok sc_law_is_name (fun vs H Q E h => ?_) (fun cdv A outer s H vs Q E hr h => ?_)
  · obtain ⟨v, d, rfl, _⟩ := h; rfl
  · obtain ⟨v, d, rfl, hv, hd, k⟩ := h
    refine ⟨_, (pss_cons (ps_if (PW.pt (pw_or (pt_not (pt_val (pe_callB call_isi (by rfl) T.b_isinstance bt_isinstance (pa_cons (pv 0) (pa_cons (pe_bltn (v := .ty "str") (by rfl) T.b_str bt_str rfl) pa_nil))))) (pw_or (pt_not (pt_chain op_le op_le pe_int (pe_callB call_len (by rfl) T.b_len bt_len (pa_cons (pv 0) pa_nil)) pe_int)) (pw_or1 (pt_cmpR op_notIn_sign (pe_ix ix_seq (pv 0) pe_int (fun _ _ => rfl)) pe_str rfl))))) (pss_one (ps_ret pe_bl)) pss_nil)
      (pss_one (ps_ret (pe_cmpR (op_eqE hr.units) (pe_lc (own := [("sign", 1)]) rfl sc_law_is_name.nd (pi_str (pv 0)) (blkOk_by (own := [("sign", 1)]) (N := ["value", "sign"]) (sc := defScope s_law_is_name) (by decide +kernel)) (fun _ _ _ _ _ => (pg_name (i := 1) sc_law_is_name.nd rfl (by first | exact Or.inl rfl | exact Or.inr rfl))) (fun _ _ _ _ _ => (pts_one (pt_cmpR op_notIn_sign (pv 1) pe_str rfl))) (fun _ _ _ _ _ => (pv 1))) (pe_lst pa_nil) (nomark _))))), ?_⟩
    have hvar : ∀ H1, Same H H1 → ED K (tVar 0) (start ["value", "sign"] [v]) (nn H) H1 d := fun H1 s1 => ed_var rfl (df_mono s1 (fun _ z => z) (dp_df hv))
    have isi := et_B (ed_isi (T := "str") (hvar H (Same.refl _)) (.inl rfl))
    cases d with
    | str x =>
      have hx : x.length ≤ 1000 := by simp only [gd, Bool.and_eq_true, decide_eq_true_eq] at hd; exact hd.2
      have h12 : ET _ _ H _ := et_not (et_test (ed_chain (r := rI0 fun i j => .bl (decide (i ≤ j))) (r' := rI0 fun i j => .bl (decide (i ≤ j))) (ed_int (i := 1)) (ed_len (hvar H (Same.refl _)) (decide_eq_true (by omega))) (ed_int (i := 12)) rd_cmp fun _ => rd_cmp))
      by_cases hb : decide (1 ≤ (x.length : Int)) && decide ((x.length : Int) ≤ 12)
      · obtain ⟨c, cs, hc⟩ : ∃ c cs, x.cps.toList = c :: cs := by
          cases hc : x.cps.toList with
          | nil => 
            have : x.length = 0 := by show x.cps.size = 0; rw [← Array.length_toList, hc]; rfl
            simp [this] at hb
          | cons c cs => exact ⟨c, cs, rfl⟩
        have hch := et_B (ed_notInS (ed_ixS (j := 0) (hvar H (Same.refl _)) ed_int (by omega) (c := c) (by rw [hc]; rfl)) (ed_str (x := "abcdefghijklmnopqrstuvwxyz")))
        refine s_if (b := !letter c) (et_is (et_or (et_not isi) fun _ => et_or h12 fun _ => hch) ?_) (fun h H1 s1 => ?_) (fun h H1 s1 => ?_)
        · rw [mem_letters]; show (!true || (!(decide (1 ≤ (x.length : Int)) && decide ((x.length : Int) ≤ 12)) || !letter c)) = _; rw [hb]; rfl
        · have := k H1 s1
          have e : isName (.str x) = false := by
            show nameB x = false
            unfold nameB; rw [hc]; simp at h; simp [h]
          rw [e] at this; exact this
        · refine s_retB (F := nn H) (ed_eqE (ed_lc (f := fun s => !(letter (sgn s) || figure (sgn s))) (m := fun s => s) (ei_str (hvar H1 s1)) ?_ fun F2 H2 e2 v2 d2 hm hd2 => ?_) ed_emp ?_) ?_ fun H2 s2 => k H2 (s1.trans s2)
          · unfold signs; rw [List.length_map, Array.length_toList]; show x.length ≤ _; omega
          · obtain ⟨c2, hc2, rfl⟩ := List.mem_map.mp hm
            refine ⟨_, fun Q q => q, rfl, et_is (et_test (ed_notInS (ed_var rfl hd2) (ed_str (x := "abcdefghijklmnopqrstuvwxyz0123456789")))) ?_, fun _ => ed_var rfl hd2⟩
            rw [mem_both]; rfl
          · rw [List.map_id']
            refine gds_lay (gds_of fun y hy => ?_)
            obtain ⟨c2, hc2, rfl⟩ := List.mem_map.mp (List.mem_filter.mp hy).1
            simp only [gd, Bool.and_eq_true, decide_eq_true_eq] at hd
            have : c2 < 0x110000 := by
              have := (Array.all_eq_true_iff_forall_mem.mp hd.1) c2 (by rw [← Array.mem_toList_iff]; exact hc2)
              simpa using this
            simp only [gd, Bool.and_eq_true, decide_eq_true_eq]
            exact ⟨by simp [this], by show (1 : Nat) ≤ 1000; decide⟩
          · show _ = nameB x
            have e := all_signs (p := fun c => letter c || figure c) (fun s => letter (sgn s) || figure (sgn s)) (fun c => rfl) x
            rw [List.map_id']
            have e2 : (List.filter (fun s => !(letter (sgn s) || figure (sgn s))) (signs x)).isEmpty = ((signs x).map fun s => letter (sgn s) || figure (sgn s)).all id := by
              rw [List.all_map, Bool.eq_iff_iff, List.isEmpty_iff, List.filter_eq_nil_iff, List.all_eq_true]
              refine forall_congr' fun a => forall_congr' fun _ => ?_
              show ¬ ((!(letter (sgn a) || figure (sgn a))) = true) ↔ (letter (sgn a) || figure (sgn a)) = true
              cases (letter (sgn a) || figure (sgn a)) <;> simp
            rw [e2, e]
            unfold nameB; rw [hb, hc]; simp at h; simp [h]
      · rw [Bool.not_eq_true] at hb
        refine s_if (b := true) (et_is (et_or (b := true) (et_not isi) fun _ => et_is (et_or (b := false) h12 fun h => ?_) ?_) ?_) (fun h H1 s1 => ?_) (fun h H1 s1 => nomatch h)
        · have h := (show (!(decide (1 ≤ (x.length : Int)) && decide ((x.length : Int) ≤ 12))) = false from h)
          rw [hb] at h; cases h
        · show (!(decide (1 ≤ (x.length : Int)) && decide ((x.length : Int) ≤ 12)) || false) = true
          rw [hb]; rfl
        · rfl
        · have := k H1 s1
          have e : isName (.str x) = false := by
            show nameB x = false
            unfold nameB; rw [hb]; rfl
          rw [e] at this; exact this
    | _ =>
      refine s_if (b := true) (et_or (b := true) (et_not isi) fun h => nomatch h) (fun h H1 s1 => ?_) (fun h H1 s1 => nomatch h)
      exact k H1 s1
end
end Ag

set_option Elab.async false
set_option linter.all false
set_option maxRecDepth 100000
set_option maxHeartbeats 1000000
namespace Ag
open PySem PySem.Spec PyProof.Rows L2
/-- a def that makes one datum of one datum -/
def spF (K : PySem.W.Frag) (pre : PyData → Prop) (f : PyData → PyData) : Sp := fun vs H Q _ => ∃ v d F, vs = [v] ∧ Df K F H v d ∧ pre d ∧ ∀ v' H', Same H H' → Df K (Fr F H) H' v' (f d) → Q v' H'
theorem rdc_spF {K : PySem.W.Frag} {E : XK} {pre : PyData → Prop} {f : PyData → PyData} {d : PyData} (hp : pre d) : RDC K (fun vs H Q => spF K pre f vs H Q E) [d] (f d) := fun F vs H1 hv Q q => by
  cases hv with
  | cons a r => cases r; exact ⟨_, d, F, rfl, a, hp, fun v' H' s h => q v' H' s h⟩
/-- .. a new list -/
def spL (K : PySem.W.Frag) (pre : PyData → Prop) (f : PyData → List PyData) : Sp := fun vs H Q _ => ∃ v d F, vs = [v] ∧ Df K F H v d ∧ pre d ∧ ∀ l us H', Same H H' → H l = none → H' l = some (.lst us) → DfAll K (Fr F H) H' us (f d) → Q (.ref l) H'
theorem rdc_spL {K : PySem.W.Frag} {E : XK} {pre : PyData → Prop} {f : PyData → List PyData} {d : PyData} (hp : pre d) : RDC K (fun vs H Q => spL K pre f vs H Q E) [d] (.list (f d)) := fun F vs H1 hv Q q => by
  cases hv with
  | cons a r => cases r; exact ⟨_, d, F, rfl, a, hp, fun l us H' s hl e h => q _ H' s (.lst (.inl ⟨.inl e, .inr hl⟩) h)⟩
def spAsc (K : PySem.W.Frag) : Sp := fun vs H Q _ => ∃ (a : Addr) (xs : List Str), vs = [.ref a] ∧ SqL K H a (xs.map V.str) ∧ xs.length < 4000 ∧
  ∀ (l : Addr) (ys : List Str) H', Same H H' → sortedS ys = true → ys.Nodup → (∀ k, k ∈ ys ↔ k ∈ xs) → H' l = some (.tup (ys.map V.str)) → Q (.ref l) H'
section
variable {P : Program} {w : World} {K : PySem.W.Frag} {mg : Str → Option Value} {base : Heap} (T : Txt w K mg)
theorem ok_ascending : FnOk P w K mg base CX0 1 T.a_ascending T.d_ascending ["names"] (spAsc K) := by
  refine T.D_ascending.fn.ok sc_ascending (fun vs H Q E h => ?_) (fun cdv A outer s H vs Q E hr h => ?_)
  · obtain ⟨a, xs, rfl, _⟩ := h; rfl
  · obtain ⟨a, xs, rfl, hs, hl, k⟩ := h
    refine ⟨_, (pss_one (ps_ret (pe_callTy call_tuple_of (by rfl) T.b_tuple bt_tuple (pa_cons (pe_callB (cr_sortSetS rfl) (by rfl) T.b_sorted bt_sorted (pa_cons (pe_callTy (cr_setS rfl) (by rfl) T.b_set bt_set (pa_cons (pv 0) pa_nil)) pa_nil)) pa_nil)))), ?_⟩
    refine ⟨_, rfl, a, xs, rfl, hs, hl, fun p hp => ⟨p, xs, rfl, upd_same, fun ys q sy nd mem hq => ⟨_, _, rfl, .inl ⟨SqL.of upd_same, fun r hr => ?_⟩⟩⟩⟩
    exact k r ys _ (((Same.newA hp).trans (Same.newA hq)).trans (Same.newA hr)) sy nd mem upd_same
theorem cut1 {s x : PyData} {r : List PyData} : cutD (s :: x :: r) (some 1) none = x :: r := by
  unfold cutD
  have e1 : HT.sIx (s :: x :: r).length 0 (some 1) = 1 := by
    show HT.sIx (s :: x :: r).length 0 (some ((1 : Nat) : Int)) = 1
    rw [HT.sIx_nat]; simp
  have e2 : HT.sIx (s :: x :: r).length (s :: x :: r).length none = (s :: x :: r).length := HT.sIx_none ..
  rw [e1, e2]
  simp
theorem ok_names_in : FnOk P w K mg base CX0 1 T.a_names_in T.d_names_in ["duty"] (spF K PlainOne fun d => .tuple ((nmsOf d).map .str)) := by
  refine T.D_names_in.fn.ok sc_names_in (fun vs H Q E h => ?_) (fun cdv A outer s H vs Q E hr h => ?_)
  · obtain ⟨v, d, F, rfl, _⟩ := h; rfl
  · obtain ⟨v, _, F, rfl, hv, ⟨hg, sk, x, r, rfl, hp, _⟩, k⟩ := h
    refine ⟨_, (pss_cons (ps_if (pt_cmpR op_eq (pe_ix ix_seq (pv 0) pe_int (fun _ _ => rfl)) pe_str (nomark _)) (pss_one (ps_ret (pe_tup (pa_cons (pe_ix ix_seq (pv 0) pe_int (fun _ _ => rfl)) pa_nil)))) pss_nil)
      (pss_one (ps_ret (pe_ifExp (pt_cmpR op_eq (pe_ix ix_seq (pv 0) pe_int (fun _ _ => rfl)) pe_str (nomark _)) (pe_slice sl_tupA (pv 0) (po_some pe_int) po_none) (pe_ix ix_seq (pv 0) pe_int (fun _ _ => rfl)))))), ?_⟩
    obtain ⟨_, pn, ht⟩ := plain_names hp
    have hvar : ∀ H1, Same H H1 → ED K (tVar 0) (start ["duty"] [v]) F H1 (.tuple (.str sk :: x :: r)) := fun H1 s1 => ed_var rfl (df_mono s1 (fun _ z => z) hv)
    refine s_if (et_test (ed_eqS (ed_ixT (j := 0) (hvar H (Same.refl _)) ed_int rfl) (ed_str (x := "call")))) (fun hb H1 s1 => ?_) (fun hb H1 s1 => ?_)
    · have hb := of_decide_eq_true hb
      rw [if_pos hb] at pn
      refine s_ret (F := F) (ed_is (ed_tup (ea_cons (ed_ixT (j := 1) (hvar H1 s1) ed_int rfl) ea_nil) (Nat.le_of_ble_eq_true rfl)) (congrArg PyData.tuple pn)) fun v2 H2 s2 h2 => k v2 H2 (s1.trans s2) (df_mono (Same.refl _) (Fr.to s1) h2)
    · have hb := of_decide_eq_false hb
      rw [if_neg hb] at pn
      refine s_ret (F := F) (ed_if (et_test (ed_eqS (ed_ixT (j := 0) (hvar H1 s1) ed_int rfl) (ed_str (x := "answer")))) (fun ha => ed_is (ed_slT (hvar H1 s1) (eo_some (F := F) (K := K) (ed_int (i := 1))) eo_none) ?_) fun ha => ed_is (ed_ixT (j := 1) (hvar H1 s1) ed_int rfl) ?_) fun v2 H2 s2 h2 => k v2 H2 (s1.trans s2) (df_mono (Same.refl _) (Fr.to s1) h2)
      · show _ = PyData.tuple ((nmsOf _).map .str)
        rw [cut1, ← pn, if_pos (of_decide_eq_true ha)]
      · have ha := of_decide_eq_false ha
        rw [if_neg ha] at pn
        show _ = PyData.tuple ((nmsOf _).map .str)
        rw [← pn]
        have := ht hb ha
        cases x with
        | tuple ds => rfl
        | _ => cases this
/-- the plain ones of a duty, last first -/
theorem ok_plain_ones : FnOk P w K mg base CX0 1 T.a_plain_ones T.d_plain_ones ["duty"] (spL K (fun d => gd d = true ∧ pm 4 d ≤ 4) (onesR 4)) := by
  refine T.D_plain_ones.fn.ok sc_plain_ones (fun vs H Q E h => ?_) (fun cdv A outer s H vs Q E hr h => ?_)
  · obtain ⟨v, d, F, rfl, _⟩ := h; rfl
  · obtain ⟨v, d0, F, rfl, hv, ⟨hd0, hm0⟩, k⟩ := h
    refine ⟨_, (pss_cons (ps_par (i := 1) (j := 2) (by rfl) sc_plain_ones.nd rfl rfl (by decide) rfl rfl (pa_cons (pe_lst (pa_cons (pv 0) pa_nil)) (pa_cons (pe_lst pa_nil) pa_nil)) (by rfl))
      (pss_cons (ps_while PassesOwn.never (pt_cmpR (op_neE hr.units) (pv 1) (pe_lst pa_nil) (nomark _)) (pss_cons (ps_set (i := 3) sc_plain_ones.nd rfl (by first | exact Or.inl rfl | exact Or.inr rfl) (pe_bm0 PySem.F.plainAttrs_list PySem.F.slot_list_pop PySem.F.type_list_pop mt_pop (pv 1)))
      (pss_one (ps_if (pt_cmpR op_in_seq (pe_ix ix_seq (pv 3) pe_int (fun _ _ => rfl)) (pe_glob (v := .ref T.a_JOINTS) (by rfl) T.g_JOINTS rfl) (by rfl)) (pss_one (ps_expr (pe_bm PySem.F.plainAttrs_list PySem.F.slot_list_extend PySem.F.type_list_extend mt_extendT (pv 1) (pa_cons (pe_ix ix_seq (pv 3) pe_int (fun _ _ => rfl)) pa_nil)))) (pss_one (ps_expr (pe_bm PySem.F.plainAttrs_list PySem.F.slot_list_append PySem.F.type_list_append mt_append (pv 2) (pa_cons (pv 3) pa_nil))))))))
      (pss_one (ps_ret (pv 2))))), ?_⟩
    refine ⟨_, rfl, (by show 1 ≤ sizeLine; decide), fun l hl => ⟨(by show 0 ≤ sizeLine; decide), fun f hf => ⟨_, _, rfl, ?_⟩⟩⟩
    have hf0 : H f = none := (Same.newA hl).freshA hf
    have nlf : l ≠ f := ne_of_none upd_same hf
    have s0 : Same H (upd (upd H l (.lst [v])) f (.lst [])) := (Same.newA hl).trans (Same.newA hf)
    have hv0 := df_in hv
    have e1 : (upd (upd H l (.lst [v])) f (.lst [])) l = some (.lst [v]) := by rw [upd_ne nlf]; exact upd_same
    have e2 : (upd (upd H l (.lst [v])) f (.lst [])) f = some (.lst []) := upd_same
    generalize upd (upd H l (.lst [v])) f (.lst []) = Hs at s0 e1 e2
    have nFl : ¬ (fun a => F a ∧ H a ≠ none) l := fun z => z.2 hl
    have nFf : ¬ (fun a => F a ∧ H a ≠ none) f := fun z => z.2 hf0
    refine ⟨fun m σ' H' => ∃ (its : Its) (vs us : List V) (fs : List PyData) (o3 : Option V), σ' = [some v, some (.ref l), some (.ref f), o3] ∧ Same H H' ∧ H' l = some (.lst vs) ∧ H' f = some (.lst us) ∧ DfAll K (fun a => F a ∧ H a ≠ none) H' vs (its.map (·.1)) ∧
      DfAll K (fun a => F a ∧ H a ≠ none) H' us fs ∧ (∀ p ∈ its, gd p.1 = true) ∧ (fs.length : Int) + Sm its ≤ 4 ∧ fs ++ its.reverse.flatMap (fun p => onesR p.2 p.1) = onesR 4 d0 ∧ m = Ms its,
      ⟨Ms [(d0, 4)], [(d0, 4)], [v], [], [], none, rfl, s0, e1, e2, .cons (df_mono s0 (fun _ z => z) hv0) .nil, .nil, ?_, by rw [Sm_one]; simpa using hm0, by simp, rfl⟩, ?_⟩
    · intro q hq
      rw [List.mem_singleton] at hq; subst hq; exact hd0
    · rintro m σ' H' ⟨its, vs, us, fs, o3, rfl, sH, hL, hU, hit, hfs, hg, hsum, hon, rfl⟩
      have hline : Df K (fun _ => True) H' (.ref l) (.list (its.map (·.1))) := .lst (.inl ⟨.inl hL, trivial⟩) (dfs_mono (Same.refl _) (fun _ _ => trivial) hit)
      refine et_test (ed_neE (ed_var (i := 1) rfl hline) ed_emp (gds_lay (gds_of fun y hy => ?_))) H' (Same.refl _) _ fun H1 s1 => ?_
      · obtain ⟨p, hp, rfl⟩ := List.mem_map.mp hy; exact hg p hp
      have sH1 := sH.trans s1
      have hL1 := s1 _ _ hL
      have hU1 := s1 _ _ hU
      replace hit := dfs_mono s1 (fun _ z => z) hit
      replace hfs := dfs_mono s1 (fun _ z => z) hfs
      clear hline sH hL s1 hU
      refine ite2 (fun hne => ?_) (fun hne => ?_)
      · have hne' : its ≠ [] := fun z => by subst z; cases hne
        obtain ⟨is, ⟨d, j⟩, rfl⟩ : ∃ is p, its = is ++ [p] := ⟨its.dropLast, its.getLast hne', (List.dropLast_concat_getLast hne').symm⟩
        have gd1 := hg (d, j) (by simp)
        rw [Sm_app, Sm_one] at hsum
        rw [List.map_append] at hit
        have hgi : ∀ p ∈ is, gd p.1 = true := fun p hp => hg p (List.mem_append_left _ hp)
        have hpm : pm j d ≤ 4 := by have := Sm_nonneg is; omega
        have hlen : (fs.length : Int) + is.length ≤ 3 := by have := Sm_len is; have := pm_pos j d; omega
        obtain ⟨ws, u, rfl, hus, hu⟩ := dfs_snoc hit
        rw [List.reverse_append, List.flatMap_append] at hon
        simp only [List.reverse_singleton, List.flatMap_singleton] at hon
        replace hu : Df K (fun a => F a ∧ H a ≠ none) H1 u d := hu
        have hMs : Ms (is ++ [(d, j)]) = Ms is + 5 ^ j := by rw [Ms_app, Ms_one]
        refine ⟨fun σ2 H2 => ∃ m' < Ms is + 5 ^ j, ∃ (its : Its) (vs us : List V) (fs : List PyData) (o3 : Option V), σ2 = [some v, some (.ref l), some (.ref f), o3] ∧ Same H H2 ∧ H2 l = some (.lst vs) ∧ H2 f = some (.lst us) ∧ DfAll K (fun a => F a ∧ H a ≠ none) H2 vs (its.map (·.1)) ∧
          DfAll K (fun a => F a ∧ H a ≠ none) H2 us fs ∧ (∀ p ∈ its, gd p.1 = true) ∧ (fs.length : Int) + Sm its ≤ 4 ∧ fs ++ its.reverse.flatMap (fun p => onesR p.2 p.1) = onesR 4 d0 ∧ m' = Ms its, fun σ2 H2 h => ?_, ?_⟩
        · obtain ⟨m', hm, h⟩ := h; rw [hMs]; exact ⟨m', hm, h⟩
        refine ⟨_, rfl, .inl ⟨rfl, _, SqL.of hL1⟩, l, _, u, rfl, rfl, hL1, by simp, ?_⟩
        rw [List.dropLast_concat]
        have sH2 : Same H (upd H1 l (.lst ws)) := fun b o e => by
          rw [upd_ne (fun q => by subst q; rw [hl] at e; cases e)]; exact sH1 _ _ e
        have hL2 : (upd H1 l (.lst ws)) l = some (.lst ws) := upd_same
        have hU2 : (upd H1 l (.lst ws)) f = some (.lst us) := by rw [upd_ne (Ne.symm nlf)]; exact hU1
        replace hus := dfs_upd (o := .lst ws) hL1 nFl hus
        replace hfs := dfs_upd (o := .lst ws) hL1 nFl hfs
        replace hu := df_upd (o := .lst ws) hL1 nFl hu
        generalize upd H1 l (.lst ws) = H2 at sH2 hL2 hU2 hus hu hfs
        clear hit hL1 sH1 hg hU1
        have hd : ∀ H3, Same H2 H3 → ED K (tVar 3) [some v, some (.ref l), some (.ref f), some u] (fun a => F a ∧ H a ≠ none) H3 d := fun H3 s3 => ed_var rfl (df_mono s3 (fun _ z => z) hu)
        obtain ⟨sk, x, r, rfl, h1⟩ := pm_good hpm
        refine s_if (et_test (ed_inSeq (ed_ixT (j := 0) (hd H2 (Same.refl _)) ed_int rfl) (ed_joints T) (.inl rfl))) (fun hb H3 s3 => ?_) (fun hb H3 s3 => ?_)
        · have hJ : jointB sk = true := hb
          rcases h1 with ⟨_, rfl, i, rfl, ps, rfl, p2, p4, he⟩ | ⟨hn, _⟩
          · obtain ⟨ua, xs, vx, rfl, hux, hxs, hvx⟩ : ∃ ua xs vx, u = .ref ua ∧ SqT K H2 ua xs ∧ xs[1]? = some vx ∧ Df K (fun a => F a ∧ H a ≠ none) H2 vx (.tuple ps) := by
              cases hu with
              | tup hts hps =>
                obtain ⟨vx, e1, e2⟩ := dfs_get (i := 1) hps rfl
                exact ⟨_, _, vx, rfl, hts, e1, e2⟩
            cases hvx with
            | tup hts hps =>
              rename_i xa xvs
              have hL3 := s3 _ _ hL2
              have hps3 := dfs_upd (o := .lst (ws ++ xvs)) hL3 nFl (dfs_mono s3 (fun _ z => z) hps)
              refine ⟨_, rfl, .inl ⟨rfl, _, SqL.of hL3⟩, _, rfl, .inr (.inl ⟨_, _, _, _, rfl, rfl, s3.stA hux, atI_nat hxs, l, xa, ws, xvs, rfl, rfl, hL3, s3.stA hts, by
                rw [dfs_len hps, dfs_len hus, List.length_map]; exact small5 (by omega), ?_⟩)⟩
              refine ⟨Ms (is ++ ps.map fun p => (p, i)), ?_, is ++ ps.map fun p => (p, i), ws ++ xvs, us, fs, _, rfl, fun b o e => ?_, upd_same, by rw [upd_ne (Ne.symm nlf)]; exact s3 _ _ hU2, ?_, dfs_upd hL3 nFl (dfs_mono s3 (fun _ z => z) hfs), ?_, ?_, ?_, rfl⟩
              · rw [Ms_app, Ms_map, Nat.pow_succ]
                have h5 : 0 < 5 ^ i := Nat.pow_pos (by decide)
                have : ps.length * 5 ^ i ≤ 4 * 5 ^ i := Nat.mul_le_mul_right _ p4
                omega
              · rw [upd_ne (fun q => by subst q; rw [hl] at e; cases e)]; exact s3 _ _ (sH2 _ _ e)
              · rw [List.map_append, List.map_map]
                refine dfs_app (dfs_upd hL3 nFl (dfs_mono s3 (fun _ z => z) hus)) ?_
                have : (ps.map ((fun x => x.1) ∘ fun p => (p, i))) = ps := by
                  have : ((fun x : PyData × Nat => x.1) ∘ fun p => (p, i)) = id := rfl
                  rw [this, List.map_id]
                rw [this]; exact hps3
              · intro p hp
                rcases List.mem_append.mp hp with hp | hp
                · exact hgi p hp
                · obtain ⟨q, hq, rfl⟩ := List.mem_map.mp hp
                  exact (gd_tup ((gd_tup gd1).1 (.tuple ps) (by simp))).1 q hq
              · rw [Sm_app, Sm_map]; rw [he] at hsum; exact hsum
              · rw [List.reverse_append, List.flatMap_append, ← hon, onesR_eq, if_pos hJ]
                congr 2
                rw [← List.map_reverse, List.flatMap_map]; rfl
          · rw [hn] at hJ; cases hJ
        · have hJ : jointB sk = false := hb
          rcases h1 with ⟨hn, _⟩ | ⟨_, hpl, he⟩
          · rw [hn] at hJ; cases hJ
          · have eo : onesR j (.tuple (.str sk :: x :: r)) = [.tuple (.str sk :: x :: r)] := by
              cases j with
              | zero => rfl
              | succ j => rw [onesR_eq, hJ]; rfl
            have lu := dfs_len hfs
            refine ⟨_, rfl, .inl ⟨rfl, _, SqL.of (s3 _ _ hU2)⟩, _, rfl, f, us, u, rfl, rfl, s3 _ _ hU2, lt5 (by omega), ?_⟩
            refine ⟨Ms is, ?_, is, ws, us ++ [u], fs ++ [.tuple (.str sk :: x :: r)], some u, rfl, fun b o e => ?_, by rw [upd_ne nlf]; exact s3 _ _ hL2, upd_same, dfs_upd (s3 _ _ hU2) nFf (dfs_mono s3 (fun _ z => z) hus), dfs_app (dfs_upd (s3 _ _ hU2) nFf (dfs_mono s3 (fun _ z => z) hfs)) (.cons (df_upd (s3 _ _ hU2) nFf (df_mono s3 (fun _ z => z) hu)) .nil), hgi, ?_, ?_, rfl⟩
            · have : 0 < 5 ^ j := Nat.pow_pos (by decide)
              omega
            · rw [upd_ne (fun q => by subst q; rw [hf0] at e; cases e)]; exact s3 _ _ (sH2 _ _ e)
            · rw [List.length_append]; simp only [List.length_singleton]; omega
            · rw [← hon, eo, List.append_assoc]
      · have hn : its = [] := by
          cases its with
          | nil => rfl
          | cons a b => exact absurd rfl hne
        subst hn
        have hfs' : fs = onesR 4 d0 := by rw [← hon]; simp
        exact ⟨_, rfl, k f us H1 sH1 hf0 hU1 (hfs' ▸ dfs_mono (Same.refl _) (fun a z => .inl z.1) hfs)⟩
end
end Ag

set_option Elab.async false
set_option linter.all false
set_option maxRecDepth 100000
set_option maxHeartbeats 1000000
namespace Ag
open PySem PySem.Spec PyProof.Rows L2
theorem onesR_len : ∀ (k : Nat) (d : PyData), pm k d ≤ 4 → ((onesR k d).length : Int) = pm k d
  | k, d, h => by
    obtain ⟨s, x, r, rfl, h1⟩ := pm_good h
    rcases h1 with ⟨hj, rfl, j, rfl, ps, rfl, h2, h4, hs⟩ | ⟨hj, hp, he⟩
    · rw [onesR_eq, if_pos hj, hs]
      show (((ps.reverse.flatMap (onesR j)).length : Nat) : Int) = _
      rw [flat_len (g := pm j) ps.reverse fun p hp => onesR_len j p ?_]
      · rw [List.map_reverse]
        simp
      · have le := sum_le_one (f := pm j) (pm_pos j) (List.mem_reverse.mp hp)
        omega
    · rw [he]
      cases k with
      | zero => rfl
      | succ k => rw [onesR_eq, hj]; rfl
theorem pnms_len : ∀ (fs : List PyData), (∀ f ∈ fs, PlainOne f) → (fs.flatMap nmsOf).length ≤ 4 * fs.length
  | [], _ => Nat.zero_le _
  | f :: fs, h => by
    obtain ⟨_, s, x, r, rfl, hp, _⟩ := h f List.mem_cons_self
    have := (plain_names hp).1
    have := pnms_len fs fun g hg => h g (List.mem_cons_of_mem _ hg)
    rw [List.flatMap_cons, List.length_append, List.length_cons]
    omega
def spDN (K : PySem.W.Frag) : Sp := fun vs H Q _ => ∃ v d F, vs = [v] ∧ Df K F H v d ∧ (gd d = true ∧ pm 4 d ≤ 4) ∧
  ∀ (l : Addr) (ys : List Str) H', Same H H' → sortedS ys = true → ys.Nodup → (∀ k, k ∈ ys ↔ k ∈ (onesR 4 d).flatMap nmsOf) → H' l = some (.tup (ys.map V.str)) → Q (.ref l) H'
def spPM (K : PySem.W.Frag) (k : Nat) : Sp := fun vs H Q _ => ∃ v d F, vs = [v, .int (4 - (k : Int))] ∧ Df K F H v d ∧ gd d = true ∧ k ≤ 4 ∧ ∀ H', Same H H' → Q (.int (pm k d)) H'
def spNo : Sp := fun _ _ _ _ => False
theorem rdc_pm {K : PySem.W.Frag} {E : XK} {d : PyData} {k : Nat} {i : Int} (hg : gd d = true) (hk : k ≤ 4) (hi : i = 4 - (k : Int)) : RDC K (fun vs H Q => spPM K k vs H Q E) [d, .int i] (.int (pm k d)) := fun F vs H1 hv Q q => by
  subst hi
  cases hv with
  | cons a r =>
    cases r with
    | cons b r => cases r; cases b; exact ⟨_, d, F, rfl, a, hg, hk, fun H' s => q _ H' s (.int _)⟩
theorem run_ret_call1 {sp : Sp} {E : XK} {te : TE} {D : Ends} {σ : L2.St} {H : Hp} (h : te σ H fun v H1 => sp [v] H1 D.rt E) : tRet (tCall sp [] E (tCons te tNil)) D σ H := h
section
variable {P : Program} {w : World} {K : PySem.W.Frag} {mg : Str → Option Value} {base : Heap} (T : Txt w K mg)
theorem ok_duty_names : FnOk P w K mg base CX0 2 T.a_duty_names T.d_duty_names ["duty"] (spDN K) := by
  have G_plain_ones := ok_plain_ones (P := P) (base := base) T
  have G_names_in := ok_names_in (P := P) (base := base) T
  have G_ascending := ok_ascending (P := P) (base := base) T
  refine T.D_duty_names.fn.ok sc_duty_names (fun vs H Q E h => ?_) (fun cdv A outer s H vs Q E hr h => ?_)
  · obtain ⟨v, d, F, rfl, _⟩ := h; rfl
  · obtain ⟨v, d, F, rfl, hv, ⟨hg, hm⟩, k⟩ := h
    refine ⟨_, (pss_one (ps_ret (pe_call (G_ascending) (hr.mono (by omega)) (by rfl) T.D_ascending.mg T.D_ascending.fn.kp T.D_ascending.bd .nil pass0 (pa_cons (pe_lc2 (own := [("one", 1), ("name", 2)]) (vs1 := [2]) (wi1 := iTup K _) rfl sc_duty_names.nd (pi_list (pe_call (G_plain_ones) (hr.mono (by omega)) (by rfl) T.D_plain_ones.mg T.D_plain_ones.fn.kp T.D_plain_ones.bd .nil pass0 (pa_cons (pv 0) pa_nil))) (blkOk_by (own := [("one", 1), ("name", 2)]) (N := ["duty", "one", "name"]) (sc := defScope s_duty_names) (by decide +kernel)) (by decide) (fun _ _ _ _ _ => (pg_name (i := 1) sc_duty_names.nd rfl (by first | exact Or.inl rfl | exact Or.inr rfl))) (fun _ _ _ _ _ => pts_nil) (fun _ _ _ _ _ => (pi_tup (pe_call (G_names_in) (hr.mono (by omega)) (by rfl) T.D_names_in.mg T.D_names_in.fn.kp T.D_names_in.bd .nil pass0 (pa_cons (pv 1) pa_nil)))) (fun _ _ _ _ _ => (pg_name (i := 2) sc_duty_names.nd rfl (by first | exact Or.inl rfl | exact Or.inr rfl))) (fun _ _ _ _ _ => pts_nil) (fun _ _ _ _ _ => (pv 2))) pa_nil)))), ?_⟩
    have hpl : ∀ f ∈ onesR 4 d, PlainOne f := fun f hf => ones_plain 4 d hg hm f ((ones_mem 4 d f).mp hf)
    have e1 : (onesR 4 d).flatMap (fun d => (nmsOf d).map PyData.str) = ((onesR 4 d).flatMap nmsOf).map .str := List.map_flatMap.symm
    have hlen : ((onesR 4 d).flatMap nmsOf).length ≤ 16 := by
      have := pnms_len _ hpl
      have := onesR_len 4 d hm
      omega
    have hvar : ED K (tVar 0) (start ["duty", "one", "name"] [v]) F H d := ed_var rfl hv
    refine run_ret_call1 (lc2_run (F := F) (es := fun d => (nmsOf d).map PyData.str) (m := fun d => d) (ei_list (ed_call (ea_cons hvar ea_nil) (rdc_spL (pre := fun d => gd d = true ∧ pm 4 d ≤ 4) (f := onesR 4) ⟨hg, hm⟩))) ?_ (fun F2 H2 e2 v2 d2 hd2 hv2 => ?_) H (Same.refl _) _ fun D ys H' s1 n e r => ?_)
    · show ((onesR 4 d).flatMap (fun d => (nmsOf d).map PyData.str)).length ≤ _
      rw [e1, List.length_map]; omega
    · refine ⟨_, fun Q q => q, rfl, et_yes, ei_tup (ed_call (ea_cons (ed_var (i := 1) rfl hv2) ea_nil) (rdc_spF (hpl _ hd2))), fun F3 H3 e3 v3 d3 hd3 hv3 => ?_⟩
      exact ⟨_, fun Q q => q, rfl, et_yes, ed_var rfl hv3⟩
    · have r' : DpAll K H' ys (((onesR 4 d).flatMap nmsOf).map .str) := by rw [← e1, ← List.map_id' (List.flatMap _ _)]; exact dfs_dps r
      have ey := strs_dps r'
      subst ey
      exact ⟨D, _, rfl, SqL.of e, by omega, fun l zs H2 s2 sy nd mem e2 => k l zs H2 (s1.trans s2) sy nd mem e2⟩
theorem ok_law_plain_names : FnOk P w K mg base CX0 1 T.a_law_plain_names T.d_law_plain_names ["duty"] (spL K PlainOne fun d => (nmsOf d).map .str) := by
  refine T.D_law_plain_names.fn.ok sc_law_plain_names (fun vs H Q E h => ?_) (fun cdv A outer s H vs Q E hr h => ?_)
  · obtain ⟨v, d, F, rfl, _⟩ := h; rfl
  · obtain ⟨v, _, F, rfl, hv, ⟨hg, sk, x, r, rfl, hp, _⟩, k⟩ := h
    refine ⟨_, (pss_one (ps_ret (pe_ifExp (pt_cmpR op_eq (pe_ix ix_seq (pv 0) pe_int (fun _ _ => rfl)) pe_str (nomark _)) (pe_lst (pa_cons (pe_ix ix_seq (pv 0) pe_int (fun _ _ => rfl)) pa_nil)) (pe_ifExp (pt_cmpR op_eq (pe_ix ix_seq (pv 0) pe_int (fun _ _ => rfl)) pe_str (nomark _)) (pe_callTy call_list_of (by rfl) T.b_list bt_list (pa_cons (pe_slice sl_tupA (pv 0) (po_some pe_int) po_none) pa_nil)) (pe_callTy call_list_of (by rfl) T.b_list bt_list (pa_cons (pe_ix ix_seq (pv 0) pe_int (fun _ _ => rfl)) pa_nil)))))), ?_⟩
    obtain ⟨_, pn, ht⟩ := plain_names hp
    have hvar : ∀ H1, Same H H1 → ED K (tVar 0) (start ["duty"] [v]) F H1 (.tuple (.str sk :: x :: r)) := fun H1 s1 => ed_var rfl (df_mono s1 (fun _ z => z) hv)
    have kk : ∀ (us : List V) (ds : List PyData) (H2 : Hp) (p : Addr), Same H H2 → H2 p = none → DfAll K (Fr F H) H2 us ds → ds = (nmsOf (.tuple (.str sk :: x :: r))).map .str → Q (.ref p) (upd H2 p (.lst us)) := fun us ds H2 p s2 hp hd e => by
      subst e
      exact k p us _ (s2.trans (Same.newA hp)) (s2.freshA hp) upd_same (dfs_mono (Same.newA hp) (fun _ z => z) hd)
    refine et_test (ed_eqS (ed_ixT (j := 0) (hvar H (Same.refl _)) ed_int rfl) (ed_str (x := "call"))) H (Same.refl _) _ fun H1 s1 => ite2 (fun hb => ?_) (fun hb => ?_)
    · rw [if_pos (of_decide_eq_true hb)] at pn
      refine ea_cons (ed_ixT (j := 1) (hvar H1 s1) ed_int rfl) ea_nil H1 (Same.refl _) _ fun us H2 s2 hus => ⟨by rw [dfs_len hus]; show 1 ≤ sizeLine; decide, fun p hp => kk us _ H2 p (s1.trans s2) hp (dfs_mono (Same.refl _) (Fr.to s1) hus) pn⟩
    · have n1 := fun q => hb (decide_eq_true q)
      rw [if_neg n1] at pn
      refine et_test (ed_eqS (ed_ixT (j := 0) (hvar H1 s1) ed_int rfl) (ed_str (x := "answer"))) H1 (Same.refl _) _ fun H2 s2 => ite2 (fun hb => ?_) (fun hb => ?_)
      · rw [if_pos (of_decide_eq_true hb)] at pn
        refine ea_cons (ed_slT (hvar H2 (s1.trans s2)) (eo_some (F := F) (K := K) (ed_int (i := 1))) eo_none) ea_nil H2 (Same.refl _) _ fun us H3 s3 hus => ?_
        cases hus with
        | cons a b =>
          cases b
          cases a with
          | tup hts r2 =>
            exact ⟨_, _, rfl, .inr hts, fun p hp => kk _ _ H3 p ((s1.trans s2).trans s3) hp (dfs_mono (Same.refl _) (Fr.to (s1.trans s2)) r2) (by rw [cut1]; exact pn)⟩
      · have n2 := fun q => hb (decide_eq_true q)
        rw [if_neg n2] at pn
        refine ea_cons (ed_ixT (j := 1) (hvar H2 (s1.trans s2)) ed_int rfl) ea_nil H2 (Same.refl _) _ fun us H3 s3 hus => ?_
        have hx := ht n1 n2
        cases hus with
        | cons a b =>
          cases b
          cases a with
          | tup hts r2 => exact ⟨_, _, rfl, .inr hts, fun p hp => kk _ _ H3 p ((s1.trans s2).trans s3) hp (dfs_mono (Same.refl _) (Fr.to (s1.trans s2)) r2) pn⟩
          | _ => cases hx
theorem no_ok (k : Nat) {x : Str} {N : List Str} {st : Stmt} {ps : List Str} {a : Addr} {fd : FuncData} (D : DefAt K mg x st ps a fd) (S : FnScope N ps (defScope st)) : FnOk P w K mg base CX0 (k + 1) a fd ps spNo :=
  D.fn.ok S (fun vs H Q E h => h.elim) (fun cdv A outer s H vs Q E hr h => h.elim)
end
end Ag

set_option Elab.async false
set_option linter.all false
set_option maxRecDepth 100000
set_option maxHeartbeats 1000000
namespace Ag
open PySem PySem.Spec PyProof.Rows L2
section
variable {K : PySem.W.Frag} {σ : L2.St} {F : Addr → Prop} {H : Hp}
theorem run_ret_lst {ta : TA} {D : Ends} (h : ta σ H fun vs H1 => vs.length ≤ sizeLine ∧ ∀ p, H1 p = none → D.rt (.ref p) (upd H1 p (.lst vs))) : tRet (tLst ta) D σ H := h
theorem ed_aa : ED K (tLst (tCons (tC (.str "all")) (tCons (tC (.str "any")) tNil))) σ F H (.list ((["all", "any"] : List Str).map .str)) := ed_lst (ea_cons ed_str (ea_cons ed_str ea_nil)) (by decide)
theorem ed_rsn : ED K (tLst (tCons (tC (.str "row")) (tCons (tC (.str "steps")) (tCons (tC (.str "never")) tNil)))) σ F H (.list ((["row", "steps", "never"] : List Str).map .str)) := ed_lst (ea_cons ed_str (ea_cons ed_str (ea_cons ed_str ea_nil))) (by decide)
end
section
variable {P : Program} {w : World} {K : PySem.W.Frag} {mg : Str → Option Value} {base : Heap} (T : Txt w K mg)
def preK (k : Nat) : PyData → Prop := fun d => gd d = true ∧ pm k d ≤ 4
theorem step_lpo (k m : Nat) {spR : Sp} (G_law_plain_ones : FnOk P w K mg base CX0 m T.a_law_plain_ones T.d_law_plain_ones ["duty"] spR) (hG : ∀ j, k = j + 1 → spR = spL K (preK j) (ones j)) :
    FnOk P w K mg base CX0 (m + 1) T.a_law_plain_ones T.d_law_plain_ones ["duty"] (spL K (preK k) (ones k)) := by
  refine T.D_law_plain_ones.fn.ok sc_law_plain_ones (fun vs H Q E h => ?_) (fun cdv A outer s H vs Q E hr h => ?_)
  · obtain ⟨v, d, F, rfl, _⟩ := h; rfl
  · obtain ⟨v, d, F, rfl, hv, ⟨hg, hm⟩, kk⟩ := h
    refine ⟨_, (pss_cons (ps_if (pt_cmpR op_notIn_seq (pe_ix ix_seq (pv 0) pe_int (fun _ _ => rfl)) (pe_lst (pa_cons pe_str (pa_cons pe_str pa_nil))) (by rfl)) (pss_one (ps_ret (pe_lst (pa_cons (pv 0) pa_nil)))) pss_nil)
      (pss_cons (ps_set (i := 1) sc_law_plain_ones.nd rfl (by first | exact Or.inl rfl | exact Or.inr rfl) (pe_lst pa_nil))
      (pss_cons (ps_for PassesOwn.never rfl (pi_tup (pe_ix ix_seq (pv 0) pe_int (fun _ _ => rfl))) (pg_name (i := 2) sc_law_plain_ones.nd rfl (by first | exact Or.inl rfl | exact Or.inr rfl)) (pss_one (ps_set (i := 1) sc_law_plain_ones.nd rfl (by first | exact Or.inl rfl | exact Or.inr rfl) (pe_op op_cat (pv 1) (pe_call (G_law_plain_ones) (hr.mono (by omega)) (by rfl) T.D_law_plain_ones.mg T.D_law_plain_ones.fn.kp T.D_law_plain_ones.bd .nil pass0 (pa_cons (pv 2) pa_nil))))))
      (pss_one (ps_ret (pv 1)))))), ?_⟩
    obtain ⟨sk, x, r, rfl, h1⟩ := pm_good hm
    have hvar : ∀ H1, Same H H1 → ED K (tVar 0) (start ["duty", "found", "part"] [v]) F H1 (.tuple (.str sk :: x :: r)) := fun H1 s1 => ed_var rfl (df_mono s1 (fun _ z => z) hv)
    refine s_if (et_test (ed_notInSeq (ed_ixT (j := 0) (hvar H (Same.refl _)) ed_int rfl) ed_aa (.inr rfl))) (fun hb H1 s1 => ?_) (fun hb H1 s1 => ?_)
    · have hJ : jointB sk = false := by
        have h2 : (!jointB sk) = true := hb
        simpa using h2
      have e : ones k (.tuple (.str sk :: x :: r)) = [.tuple (.str sk :: x :: r)] := by
        cases k with
        | zero => rfl
        | succ k => rw [ones_eq, hJ]; rfl
      refine run_ret_lst (ea_cons (hvar H1 s1) ea_nil H1 (Same.refl _) _ fun us H2 s2 hus => ⟨by rw [dfs_len hus]; show 1 ≤ sizeLine; decide, fun p hp => kk p us _ ((s1.trans s2).trans (Same.newA hp)) ((s1.trans s2).freshA hp) upd_same ?_⟩)
      rw [e]
      exact dfs_mono (Same.newA hp) (Fr.to s1) hus
    · have hJ : jointB sk = true := by
        have h2 : (!jointB sk) = false := hb
        simpa using h2
      rcases h1 with ⟨_, rfl, j, rfl, ps, rfl, p2, p4, he⟩ | ⟨hn, _⟩
      · obtain rfl := hG j rfl
        refine ⟨Nat.zero_le _, fun c hc => ?_⟩
        have hc0 : H c = none := s1.freshA hc
        have sH2 : Same H (upd H1 c (.lst [])) := s1.trans (Same.newA hc)
        have hC2 : (upd H1 c (.lst [])) c = some (.lst []) := upd_same
        generalize upd H1 c (.lst []) = H2 at sH2 hC2
        obtain ⟨ua, xs, vx, rfl, hux, hxs, hvx⟩ : ∃ ua xs vx, v = .ref ua ∧ SqT K H ua xs ∧ xs[1]? = some vx ∧ Df K F H vx (.tuple ps) := by
          cases hv with
          | tup hts hps =>
            obtain ⟨vx, e1, e2⟩ := dfs_get (i := 1) hps rfl
            exact ⟨_, _, vx, rfl, hts, e1, e2⟩
        cases hvx with
        | tup hts hps =>
          rename_i xa xvs
          have lps := dfs_len hps
          rw [he] at hm
          refine ⟨_, rfl, .inr (.inl ⟨_, _, _, _, rfl, rfl, sH2.stA hux, atI_nat hxs, xa, rfl, ⟨_, sH2.stA hts⟩, for_tup (K := K) (a := xa) (xs := xvs) (fun i σ' H' => ∃ (c : Addr) (us : List V) (o : Option V), σ' = [some (.ref ua), some (.ref c), o] ∧ Same H H' ∧ H c = none ∧ H' c = some (.lst us) ∧
            DfAll K (Fr F H) H' us ((ps.take i).flatMap (ones j))) ⟨c, [], none, rfl, sH2, hc0, hC2, by simp; exact .nil⟩ (fun i σ' H' _ ⟨_, _, _, _, sH, _⟩ => sH.stA hts) ?_ ?_⟩)⟩
          · rintro i vp σ' H' hi ⟨c, us, o, rfl, sH, c0, hc, hus⟩
            obtain ⟨p, hp, hvp⟩ := dfs_get' hps hi
            have le := sum_le_one (f := pm j) (pm_pos j) (List.mem_of_getElem? hp)
            have tk : ps.take (i + 1) = ps.take i ++ [p] := by rw [List.take_succ, hp]; rfl
            have hlen : ∀ q, q ∈ ps → (ones j q).length ≤ 4 := fun q hq => by
              have := ones_len j q (by have := sum_le_one (f := pm j) (pm_pos j) hq; omega)
              have := sum_le_one (f := pm j) (pm_pos j) hq
              omega
            have bound : ∀ (l : List PyData), (∀ q ∈ l, q ∈ ps) → (l.flatMap (ones j)).length ≤ 4 * l.length := fun l => by
              induction l with
              | nil => intro _; exact Nat.zero_le _
              | cons a l ih =>
                intro h
                have := ih fun q hq => h q (List.mem_cons_of_mem _ hq)
                have := hlen a (h a List.mem_cons_self)
                rw [List.flatMap_cons, List.length_append, List.length_cons]; omega
            have hb1 := bound (ps.take i) fun q hq => List.mem_of_mem_take hq
            rw [List.length_take] at hb1
            have lu := dfs_len hus
            refine ⟨_, rfl, _, rfl, vp, p, F, rfl, df_mono sH (fun _ z => z) hvp, ⟨(gd_tup ((gd_tup hg).1 (.tuple ps) (by simp))).1 p (List.mem_of_getElem? hp), by omega⟩, fun l vs2 H3 s3 l0 e3 r3 => ?_⟩
            have lv := dfs_len r3
            have hp4 := hlen p (List.mem_of_getElem? hp)
            refine ⟨c, l, us, vs2, rfl, rfl, s3 _ _ hc, e3, small5 (by omega), fun q hq => ?_⟩
            refine ⟨q, us ++ vs2, some vp, rfl, (sH.trans s3).trans (Same.newA hq), (sH.trans s3).freshA hq, upd_same, ?_⟩
            rw [tk, List.flatMap_append, List.flatMap_singleton]
            exact dfs_app (dfs_mono (s3.trans (Same.newA hq)) (fun _ z => z) hus) (dfs_mono (Same.newA hq) (Fr.to sH) r3)
          · rintro σ' H' ⟨c, us, o, rfl, sH, c0, hc, hus⟩
            refine ⟨_, rfl, kk c us H' sH c0 hc ?_⟩
            rw [lps, List.take_length] at hus
            rw [ones_eq, if_pos hJ]; exact hus
      · rw [hn] at hJ; cases hJ
theorem ok_law_plain_ones : ∀ k, FnOk P w K mg base CX0 (k + 2) T.a_law_plain_ones T.d_law_plain_ones ["duty"] (spL K (preK k) (ones k))
  | 0 => step_lpo T 0 1 (no_ok 0 T.D_law_plain_ones sc_law_plain_ones) fun j e => by cases e
  | k + 1 => step_lpo T (k + 1) (k + 2) (ok_law_plain_ones k) fun j e => by cases e; rfl
end
end Ag

set_option Elab.async false
set_option linter.all false
set_option maxRecDepth 100000
set_option maxHeartbeats 1000000
namespace Ag
open PySem PySem.Spec PyProof.Rows L2
section
variable {K : PySem.W.Frag} {σ : L2.St} {F : Addr → Prop} {H : Hp} {t : TT} {D : Ends}
theorem s_ret19 {b : Bool} (h : ET t σ H b) (k : ∀ H1, Same H H1 → D.rt (.int (if b then 1 else 99)) H1) : tRet (tIf t (tC (.int 1)) (tC (.int 99))) D σ H := h H (Same.refl _) _ fun H1 s1 => by
  cases b with
  | true => exact k H1 s1
  | false => exact k H1 s1
end
section
variable {P : Program} {w : World} {K : PySem.W.Frag} {mg : Str → Option Value} {base : Heap} (T : Txt w K mg)
theorem step_pm (k m : Nat) {spR : Sp} (hm0 : 1 ≤ m) (G_law_plain_many : FnOk P w K mg base CX0 m T.a_law_plain_many T.d_law_plain_many ["value", "around"] spR) (hG : ∀ j, k = j + 1 → spR = spPM K j) :
    FnOk P w K mg base CX0 (m + 1) T.a_law_plain_many T.d_law_plain_many ["value", "around"] (spPM K k) := by
  have G_law_is_name := ok_law_is_name (P := P) (base := base) T
  refine T.D_law_plain_many.fn.ok sc_law_plain_many (fun vs H Q E h => ?_) (fun cdv A outer s H vs Q E hr h => ?_)
  · obtain ⟨v, d, F, rfl, _⟩ := h; rfl
  · obtain ⟨v, d, F, rfl, hv, hg, hk4, kk⟩ := h
    refine ⟨_, (pss_cons (ps_if (PW.pt (pw_or (pt_not (pt_val (pe_callB call_isi (by rfl) T.b_isinstance bt_isinstance (pa_cons (pv 0) (pa_cons (pe_bltn (v := .ty "tuple") (by rfl) T.b_tuple bt_tuple rfl) pa_nil))))) (pw_or (pt_cmpR op_lt (pe_callB call_len (by rfl) T.b_len bt_len (pa_cons (pv 0) pa_nil)) pe_int (nomark _)) (pw_or1 (pt_not (pt_val (pe_callB call_isi (by rfl) T.b_isinstance bt_isinstance (pa_cons (pe_ix ix_seq (pv 0) pe_int (fun _ _ => rfl)) (pa_cons (pe_bltn (v := .ty "str") (by rfl) T.b_str bt_str rfl) pa_nil))))))))) (pss_one (ps_ret pe_int)) pss_nil)
      (pss_cons (ps_if (pt_cmpR op_in_seq (pe_ix ix_seq (pv 0) pe_int (fun _ _ => rfl)) (pe_lst (pa_cons pe_str (pa_cons pe_str pa_nil))) (by rfl)) (pss_cons (ps_if (PW.pt (pw_or (pt_cmpR op_ne (pe_callB call_len (by rfl) T.b_len bt_len (pa_cons (pv 0) pa_nil)) pe_int (nomark _)) (pw_or (pt_cmpR op_gt (pv 1) pe_int (nomark _)) (pw_or (pt_not (pt_val (pe_callB call_isi (by rfl) T.b_isinstance bt_isinstance (pa_cons (pe_ix ix_seq (pv 0) pe_int (fun _ _ => rfl)) (pa_cons (pe_bltn (v := .ty "tuple") (by rfl) T.b_tuple bt_tuple rfl) pa_nil))))) (pw_or1 (pt_not (pt_chain op_le op_le pe_int (pe_callB call_len (by rfl) T.b_len bt_len (pa_cons (pe_ix ix_seq (pv 0) pe_int (fun _ _ => rfl)) pa_nil)) pe_int))))))) (pss_one (ps_ret pe_int)) pss_nil)
      (pss_one (ps_ret (pe_callB (cr_sum rfl) (by rfl) T.b_sum bt_sum (pa_cons (pe_lc (own := [("part", 2)]) rfl sc_law_plain_many.nd (pi_tup (pe_ix ix_seq (pv 0) pe_int (fun _ _ => rfl))) (blkOk_by (own := [("part", 2)]) (N := ["value", "around", "part", "least", "call"]) (sc := defScope s_law_plain_many) (by decide +kernel)) (fun _ _ _ _ _ => (pg_name (i := 2) sc_law_plain_many.nd rfl (by first | exact Or.inl rfl | exact Or.inr rfl))) (fun _ _ _ _ _ => pts_nil) (fun _ _ _ _ _ => (pe_call (G_law_plain_many) (hr.mono (by omega)) (by rfl) T.D_law_plain_many.mg T.D_law_plain_many.fn.kp T.D_law_plain_many.bd .nil pass0 (pa_cons (pv 2) (pa_cons (pe_op op_add (pv 1) pe_int) pa_nil))))) pa_nil))))) pss_nil)
      (pss_cons (ps_if (pt_cmpR op_eq (pe_ix ix_seq (pv 0) pe_int (fun _ _ => rfl)) pe_str (nomark _)) (pss_one (ps_ret (pe_ifExp (PW.pt (pw_and (pt_cmpR op_eq (pe_callB call_len (by rfl) T.b_len bt_len (pa_cons (pv 0) pa_nil)) pe_int (nomark _)) (pw_and1 (pt_val (pe_call (G_law_is_name) (hr.mono (by omega)) (by rfl) T.D_law_is_name.mg T.D_law_is_name.fn.kp T.D_law_is_name.bd .nil pass0 (pa_cons (pe_ix ix_seq (pv 0) pe_int (fun _ _ => rfl)) pa_nil)))))) pe_int pe_int))) pss_nil)
      (pss_cons (ps_if (pt_cmpR op_eq (pe_ix ix_seq (pv 0) pe_int (fun _ _ => rfl)) pe_str (nomark _)) (pss_one (ps_ret (pe_ifExp (PW.pt (pw_and (pt_cmpR op_eq (pe_callB call_len (by rfl) T.b_len bt_len (pa_cons (pv 0) pa_nil)) pe_int (nomark _)) (pw_and (pt_val (pe_call (G_law_is_name) (hr.mono (by omega)) (by rfl) T.D_law_is_name.mg T.D_law_is_name.fn.kp T.D_law_is_name.bd .nil pass0 (pa_cons (pe_ix ix_seq (pv 0) pe_int (fun _ _ => rfl)) pa_nil))) (pw_and (pt_val (pe_call (G_law_is_name) (hr.mono (by omega)) (by rfl) T.D_law_is_name.mg T.D_law_is_name.fn.kp T.D_law_is_name.bd .nil pass0 (pa_cons (pe_ix ix_seq (pv 0) pe_int (fun _ _ => rfl)) pa_nil))) (pw_and1 (pt_cmpR (op_neD hr.units) (pe_ix ix_seq (pv 0) pe_int (fun _ _ => rfl)) (pe_ix ix_seq (pv 0) pe_int (fun _ _ => rfl)) (nomark _))))))) pe_int pe_int))) pss_nil)
      (pss_cons (ps_if (PW.pt (pw_or (pt_cmpR op_notIn_seq (pe_ix ix_seq (pv 0) pe_int (fun _ _ => rfl)) (pe_lst (pa_cons pe_str (pa_cons pe_str (pa_cons pe_str pa_nil)))) (by rfl)) (pw_or (pt_cmpR op_ne (pe_callB call_len (by rfl) T.b_len bt_len (pa_cons (pv 0) pa_nil)) pe_int (nomark _)) (pw_or1 (pt_not (pt_val (pe_callB call_isi (by rfl) T.b_isinstance bt_isinstance (pa_cons (pe_ix ix_seq (pv 0) pe_int (fun _ _ => rfl)) (pa_cons (pe_bltn (v := .ty "tuple") (by rfl) T.b_tuple bt_tuple rfl) pa_nil))))))))) (pss_one (ps_ret pe_int)) pss_nil)
      (pss_cons (ps_set (i := 3) sc_law_plain_many.nd rfl (by first | exact Or.inl rfl | exact Or.inr rfl) (pe_ifExp (pt_cmpR op_eq (pe_ix ix_seq (pv 0) pe_int (fun _ _ => rfl)) pe_str (nomark _)) pe_int pe_int))
      (pss_one (ps_ret (pe_ifExp (PW.pt (pw_and (pt_chain op_le op_le (pv 3) (pe_callB call_len (by rfl) T.b_len bt_len (pa_cons (pe_ix ix_seq (pv 0) pe_int (fun _ _ => rfl)) pa_nil)) pe_int) (pw_and1 (pt_cmpR (op_eqE hr.units) (pe_lc (own := [("call", 4)]) rfl sc_law_plain_many.nd (pi_tup (pe_ix ix_seq (pv 0) pe_int (fun _ _ => rfl))) (blkOk_by (own := [("call", 4)]) (N := ["value", "around", "part", "least", "call"]) (sc := defScope s_law_plain_many) (by decide +kernel)) (fun _ _ _ _ _ => (pg_name (i := 4) sc_law_plain_many.nd rfl (by first | exact Or.inl rfl | exact Or.inr rfl))) (fun _ _ _ _ _ => (pts_one (pt_not (pt_val (pe_call (G_law_is_name) (hr.mono (by omega)) (by rfl) T.D_law_is_name.mg T.D_law_is_name.fn.kp T.D_law_is_name.bd .nil pass0 (pa_cons (pv 4) pa_nil)))))) (fun _ _ _ _ _ => (pv 4))) (pe_lst pa_nil) (nomark _))))) pe_int pe_int))))))))), ?_⟩
    have hvar : ∀ H1, Same H H1 → ED K (tVar 0) (start ["value", "around", "part", "least", "call"] [v, .int (4 - (k : Int))]) F H1 d := fun H1 s1 => ed_var rfl (df_mono s1 (fun _ z => z) hv)
    have har : ∀ H1, ED K (tVar 1) (start ["value", "around", "part", "least", "call"] [v, .int (4 - (k : Int))]) F H1 (.int (4 - (k : Int))) := fun H1 => ed_var rfl (.int _)
    refine s_if (et_shape (hvar H (Same.refl _))) (fun hb H1 s1 => ?_) (fun hb H1 s1 => ?_)
    · have := kk H1 s1
      rw [pm_no (by simpa using hb)] at this; exact this
    obtain ⟨sk, x, r, rfl⟩ := kinded_of (d := d) (by simpa using hb)
    clear hb
    obtain ⟨g1, g2⟩ := gd_tup hg
    have gx : gd x = true := g1 x (by simp)
    have h0 := fun H4 s4 => ed_ixT (j := 0) (hvar H4 s4) ed_int rfl
    have h1 := fun H4 s4 => ed_ixT (j := 1) (hvar H4 s4) ed_int rfl
    refine s_if (et_test (ed_inSeq (h0 H1 s1) ed_aa (.inr rfl))) (fun hb H2 s2 => ?_) (fun hb H2 s2 => ?_)
    · have hJ : jointB sk = true := hb
      have s12 := s1.trans s2
      refine s_if (b := !(jointOk x r && decide (0 < k))) (et_is (et_or (et_test (ed_neI (ed_len (hvar H2 s12) rfl) (ed_int (i := 2)))) fun _ => et_or (et_test (ed_gt (har H2) (ed_int (i := 3)))) fun _ => et_or (et_not (et_B (ed_isi (h1 H2 s12) (.inr (.inl rfl))))) fun e => et_not (et_test (ed_chain (ed_int (i := 2)) (ed_len (h1 H2 s12) ?_) (ed_int (i := 4)) rd_cmp fun _ => rd_cmp))) ?_) (fun hb H3 s3 => ?_) (fun hb H3 s3 => ?_)
      · rw [isi_tup] at e; exact tup_hasLen (by simpa using e)
      · rw [empty_len, isi_tup]
        have e1 : decide ((3 : Int) < 4 - (k : Int)) = !decide (0 < k) := by
          by_cases z : 0 < k
          · rw [decide_eq_true z, decide_eq_false (by omega)]; rfl
          · rw [decide_eq_false z, decide_eq_true (by omega)]; rfl
        rw [e1]
        unfold jointOk
        cases r.isEmpty <;> cases (decide (0 < k)) <;> cases isTup x <;> cases decide (2 ≤ (lenP x : Int)) <;> cases decide ((lenP x : Int) ≤ 4) <;> rfl
      · have := kk H3 (s12.trans s3)
        rw [pm_eq, if_pos hJ, if_neg (fun z => by rw [z] at hb; cases hb)] at this; exact this
      · have hok : (jointOk x r && decide (0 < k)) = true := by simpa using hb
        obtain ⟨o1, o2⟩ := Bool.and_eq_true_iff.mp hok
        obtain ⟨rfl, ps, rfl, p2, p4⟩ := jointOk_of o1
        obtain ⟨j, rfl⟩ : ∃ j, k = j + 1 := ⟨k - 1, by have := of_decide_eq_true o2; omega⟩
        obtain rfl := hG j rfl
        have s13 := s12.trans s3
        refine s_retI (F := F) (ed_sum (ns := ps.map (pm j)) (ed_is (ed_lc (f := fun _ => true) (m := fun p => .int (pm j p)) (ei_tup (h1 H3 s13)) (by omega) fun F2 H4 e2 v2 d2 hd2 hv2 => ?_) ?_)) ?_ fun H4 s4 => kk H4 (s13.trans s4)
        · exact ⟨_, fun Q q => q, rfl, et_yes, fun _ => ed_call (ea_cons (ed_var rfl hv2) (ea_cons (ed_add (ed_var (i := 1) rfl (.int _)) (ed_int (i := 1))) ea_nil)) (rdc_pm ((gd_tup gx).1 d2 hd2) (by omega) (by omega))⟩
        · rw [filt_tt, List.map_map]; rfl
        · rw [pm_eq, if_pos hJ, if_pos hok]; rfl
    · have hJ : ¬ jointB sk = true := fun z => by
        have z2 : decide (sk ∈ (["all", "any"] : List Str)) = true := z
        rw [z2] at hb; cases hb
      have s12 := s1.trans s2
      have epm : pm k (.tuple (.str sk :: x :: r)) = if plainB sk x r then 1 else 99 := by rw [pm_eq, if_neg hJ]
      have kp : ∀ (b : Bool), b = plainB sk x r → ∀ H3, Same H2 H3 → Q (.int (if b then 1 else 99)) H3 := fun b e H3 s3 => by
        rw [e, ← epm]; exact kk H3 (s12.trans s3)
      refine s_if (et_test (ed_eqS (h0 H2 s12) (ed_str (x := "call")))) (fun hb H3 s3 => ?_) (fun hb H3 s3 => ?_)
      · have c := of_decide_eq_true hb
        have s13 := s12.trans s3
        refine s_ret19 (et_and (et_test (ed_eqI (ed_len (hvar H3 s13) rfl) (ed_int (i := 2)))) fun _ => et_B (ed_call (ea_cons (h1 H3 s13) ea_nil) (rdc_spB gx))) fun H4 s4 => kp _ ?_ H4 (s3.trans s4)
        unfold plainB; rw [if_pos c, empty_len]
      have n1 := of_decide_eq_false hb
      have s13 := s12.trans s3
      refine s_if (et_test (ed_eqS (h0 H3 s13) (ed_str (x := "answer")))) (fun hb H4 s4 => ?_) (fun hb H4 s4 => ?_)
      · have c := of_decide_eq_true hb
        have s14 := s13.trans s4
        match r, g1, hvar, h1, kp with
        | [y], g1, hvar, h1, kp =>
          have gy : gd y = true := g1 y (by simp)
          have h2 : ED K _ _ F H4 y := ed_ixT (j := 2) (hvar H4 s14) ed_int rfl
          refine s_ret19 (et_and (et_test (ed_eqI (ed_len (hvar H4 s14) rfl) (ed_int (i := 3)))) fun _ => et_and (et_B (ed_call (ea_cons (h1 H4 s14) ea_nil) (rdc_spB gx))) fun e1 => et_and (et_B (ed_call (ea_cons h2 ea_nil) (rdc_spB gy))) fun e2 => et_test (ed_neD (h1 H4 s14) h2 (name_shaped gx e1) (name_shaped gy e2))) fun H5 s5 => kp _ ?_ H5 ((s3.trans s4).trans s5)
          unfold plainB
          rw [if_neg n1, if_pos c]; rfl
        | [], g1, hvar, h1, kp =>
          refine s_ret19 (b := false) (et_and (a := false) (b := false) (et_test (ed_eqI (ed_len (hvar H4 s14) rfl) (ed_int (i := 3)))) fun e => nomatch e) fun H5 s5 => kp _ ?_ H5 ((s3.trans s4).trans s5)
          unfold plainB
          rw [if_neg n1, if_pos c]
        | y :: z :: r, g1, hvar, h1, kp =>
          have e3 : decide (((lenP (.tuple (.str sk :: x :: y :: z :: r)) : Nat) : Int) = 3) = false := decide_eq_false (by simp [lenP]; omega)
          refine s_ret19 (b := false) (et_and (a := false) (b := false) (et_is (et_test (ed_eqI (ed_len (hvar H4 s14) rfl) (ed_int (i := 3)))) e3) fun e => nomatch e) fun H5 s5 => kp _ ?_ H5 ((s3.trans s4).trans s5)
          unfold plainB
          rw [if_neg n1, if_pos c]
      have n2 := of_decide_eq_false hb
      have s14 := s13.trans s4
      have epl : plainB sk x r = (decide (sk ∈ (["row", "steps", "never"] : List Str)) && (r.isEmpty && (isWord x && (decide (leastOf sk ≤ (lenP x : Int)) && decide ((lenP x : Int) ≤ 4))))) := by
        unfold plainB; rw [if_neg n1, if_neg n2]
      refine s_if (et_or (et_test (ed_notInSeq (h0 H4 s14) ed_rsn (.inr rfl))) fun _ => et_or (et_test (ed_neI (ed_len (hvar H4 s14) rfl) (ed_int (i := 2)))) fun _ => et_not (et_B (ed_isi (h1 H4 s14) (.inr (.inl rfl))))) (fun hb H5 s5 => ?_) (fun hb H5 s5 => ?_)
      · have e : plainB sk x r = false := by
          rw [empty_len, isi_tup] at hb
          rw [epl]
          have wt : isTup x = false → isWord x = false := fun q => by cases x <;> first | rfl | cases q
          cases h3 : isTup x with
          | false => rw [wt h3]; simp
          | true =>
            rw [h3] at hb
            simp only [Bool.not_true, Bool.or_false, Bool.or_eq_true, Bool.not_eq_true'] at hb
            rcases hb with hb | hb
            · rw [hb]; rfl
            · rw [hb]; simp
        have := kp false e.symm H5 ((s3.trans s4).trans s5)
        exact this
      · rw [empty_len, isi_tup] at hb
        simp only [Bool.or_eq_false_iff, Bool.not_eq_false'] at hb
        obtain ⟨b1, b2, b3⟩ := hb
        have s15 := s14.trans s5
        have s35 := (s3.trans s4).trans s5
        cases x with
        | tuple ps =>
          refine s_set (K := K) (F := F) (ed_if (d := .int (leastOf sk)) (et_test (ed_eqS (h0 H5 s15) (ed_str (x := "never")))) (fun q => ed_is (ed_int (i := 1)) ?_) fun q => ed_is (ed_int (i := 2)) ?_) fun v1 H6 s6 hv1 => ?_
          · unfold leastOf; rw [if_pos (of_decide_eq_true q)]
          · unfold leastOf; rw [if_neg (of_decide_eq_false q)]
          · cases hv1
            have hvar6 : ∀ H7, Same H6 H7 → ED K (tVar 0) ((start ["value", "around", "part", "least", "call"] [v, .int (4 - (k : Int))]).set 3 (some (.int (leastOf sk)))) F H7 (.tuple (.str sk :: .tuple ps :: r)) := fun H7 s7 => ed_var rfl (df_mono ((s15.trans s6).trans s7) (fun _ z => z) hv)
            have h16 := fun H7 s7 => ed_ixT (j := 1) (hvar6 H7 s7) ed_int rfl
            refine s_ret19 (et_and (et_test (ed_chain (ed_var (i := 3) rfl (.int _)) (ed_len (h16 H6 (Same.refl _)) rfl) (ed_int (i := 4)) rd_cmp fun _ => rd_cmp)) fun _ => et_test (ed_eqE (ed_lc (f := fun p => !isName p) (m := fun p => p) (ei_tup (h16 H6 (Same.refl _))) ?_ fun F2 H7 e2 v2 d2 hd2 hv2 => ?_) ed_emp ?_)) fun H7 s7 => kp _ ?_ H7 ((s35.trans s6).trans s7)
            · have := (gd_tup gx).2; omega
            · exact ⟨_, fun Q q => q, rfl, et_not (et_B (ed_call (ea_cons (ed_var rfl hv2) ea_nil) (rdc_spB ((gd_tup gx).1 d2 hd2)))), fun _ => ed_var rfl hv2⟩
            · rw [List.map_id']
              exact gds_lay (gds_of fun y hy => (gd_tup gx).1 y (List.mem_filter.mp hy).1)
            · rw [epl, b1, b2, List.map_id']
              have e2 : (List.filter (fun p => !isName p) ps).isEmpty = ps.all isName := by
                rw [Bool.eq_iff_iff, List.isEmpty_iff, List.filter_eq_nil_iff, List.all_eq_true]
                refine forall_congr' fun a => forall_congr' fun _ => ?_
                cases isName a <;> simp
              rw [e2]
              show ((decide (leastOf sk ≤ (lenP (.tuple ps) : Int)) && decide ((lenP (.tuple ps) : Int) ≤ 4)) && ps.all isName) = (ps.all isName && _)
              rw [Bool.and_comm]
        | _ => cases b3
theorem ok_law_plain_many : ∀ k, FnOk P w K mg base CX0 (k + 2) T.a_law_plain_many T.d_law_plain_many ["value", "around"] (spPM K k)
  | 0 => step_pm T 0 1 (Nat.le_refl 1) (no_ok 0 T.D_law_plain_many sc_law_plain_many) fun j e => by cases e
  | k + 1 => step_pm T (k + 1) (k + 2) (by omega) (ok_law_plain_many k) fun j e => by cases e; rfl
end
end Ag

set_option Elab.async false
set_option linter.all false
set_option maxRecDepth 100000
set_option maxHeartbeats 1000000
namespace Ag
open PySem PySem.Spec PyProof.Rows L2
theorem merge_pen {c : Addr} {a d n f : Int} : mergeK [] [(ck "cells", V.ref c), (ck "at", .int a), (ck "digits", .int d), (ck "count", .int n), (ck "fold", .int f)] = penKV c a d n f := by
  unfold mergeK
  simp [putK, penKV, ck, sn_cells_at, sn_cells_digits, sn_cells_count, sn_cells_fold, sn_at_digits, sn_at_count, sn_at_fold, sn_digits_count, sn_digits_fold, sn_count_fold]
def spLPen (K : PySem.W.Frag) : Sp := fun vs H Q _ => ∃ (a : Addr) (ns : List Int), vs = [.ref a] ∧ SqL K H a (ns.map V.int) ∧ ns.length ≤ 63 ∧ ∀ p c H', Same H H' → Pen p c 0 H' → Q (.ref p) H'
/-- told and due are one and the same leaf -/
def leafD : PyData → Bool | .bool _ => true | .str _ => true | _ => false
def spSame0 (K : PySem.W.Frag) : Sp := fun vs H Q _ => ∃ x y d, vs = [x, y] ∧ Dp K H x d ∧ Dp K H y d ∧ leafD d = true ∧ ∀ H', Same H H' → Q (.bl true) H'
def spSame1 (K : PySem.W.Frag) : Sp := fun vs H Q _ => ∃ x y ds, vs = [x, y] ∧ Dp K H x (.tuple ds) ∧ Dp K H y (.tuple ds) ∧ ds.length ≤ 1000 ∧ (∀ d ∈ ds, leafD d = true) ∧ ∀ H', Same H H' → Q (.bl true) H'
def oneD : PyData → PyData | .tuple [a, _] => a | d => d
def twoD : PyData → PyData | .tuple [_, b] => b | d => d
section
variable {P : Program} {w : World} {K : PySem.W.Frag} {mg : Str → Option Value} {base : Heap} (T : Txt w K mg)
theorem ok_law_pen : FnOk P w K mg base CX0 1 T.a_law_pen T.d_law_pen ["script"] (spLPen K) := by
  refine T.D_law_pen.fn.ok sc_law_pen (fun vs H Q E h => ?_) (fun cdv A outer s H vs Q E hr h => ?_)
  · obtain ⟨a, ns, rfl, _⟩ := h; rfl
  · obtain ⟨a, ns, rfl, hs, hl, k⟩ := h
    refine ⟨_, (pss_cons (ps_set (i := 1) sc_law_pen.nd rfl (by first | exact Or.inl rfl | exact Or.inr rfl) pe_int)
      (pss_cons (ps_for PassesOwn.never rfl (pi_list (pv 0)) (pg_name (i := 2) sc_law_pen.nd rfl (by first | exact Or.inl rfl | exact Or.inr rfl)) (pss_one (ps_set (i := 1) sc_law_pen.nd rfl (by first | exact Or.inl rfl | exact Or.inr rfl) (pe_op op_mod (pe_callTy call_int1 (by rfl) T.b_int bt_int (pa_cons (pe_op op_add (pe_op op_mul (pv 1) pe_int) (pv 2)) pa_nil)) pe_int))))
      (pss_one (ps_ret (pe_disp (pps_cons pe_str (pe_callTy call_list_of (by rfl) T.b_list bt_list (pa_cons (pv 0) pa_nil)) (pps_cons pe_str pe_int (pps_cons pe_str pe_int (pps_cons pe_str pe_int (pps_cons pe_str (pv 1) pps_nil))))) (by rfl) (by rfl) (fun z => by cases z) (by decide)))))), ?_⟩
    refine ⟨_, rfl, a, rfl, ⟨_, hs⟩, for_list (K := K) (a := a) (xs := ns.map V.int) (fun i σ' H' => H' = H ∧ ∃ (f : Int) (o : Option V), σ' = [some (.ref a), some (.int f), o] ∧ 0 ≤ f ∧ f < 1000000411) ⟨rfl, 29, none, rfl, by decide, by decide⟩ (fun i σ' H' _ h => by rw [h.1]; exact hs) ?_ ?_⟩
    · rintro i y σ' H' hi ⟨rfl, f, o, rfl, f0, f1⟩
      obtain ⟨u, rfl⟩ : ∃ u, y = V.int u := by
        rw [List.getElem?_map] at hi
        cases e : ns[i]? with
        | none => rw [e] at hi; cases hi
        | some u => rw [e] at hi; exact ⟨u, (Option.some.inj hi).symm⟩
      refine ⟨_, rfl, _, _, rfl, rfl, .inl ⟨by omega, by omega⟩, _, rfl, _, _, rfl, rfl, .inl ⟨_, rfl, _, _, rfl, rfl, (by show (0 : Int) < 1000000411; decide), ?_⟩⟩
      exact ⟨rfl, _, _, rfl, Int.emod_nonneg _ (by decide), Int.emod_lt_of_pos _ (by decide)⟩
    · rintro σ' H' ⟨rfl, f, o, rfl, f0, f1⟩
      intro p hp
      refine ⟨_, rfl, _, _, rfl, .inl ((Same.newA hp).slA hs), fun c hc => ⟨_, rfl, ?_⟩⟩
      have npc : p ≠ c := ne_of_none upd_same hc
      have s2 : Same H' (upd (upd H' p (.dK [])) c (.lst (ns.map V.int))) := (Same.newA hp).trans (Same.newA hc)
      refine ⟨by rw [upd_ne npc]; exact upd_same, [(ck "cells", V.ref c), (ck "at", .int 0), (ck "digits", .int 0), (ck "count", .int 0), (ck "fold", .int f)], rfl, (by decide : 5 ≤ 15), ?_⟩
      rw [merge_pen]
      refine k p c _ (fun b o e => ?_) ⟨ns, 0, 0, 0, f, upd_same, .inl (by rw [upd_ne (Ne.symm npc)]; exact upd_same), by decide, by decide, by decide, by decide, f0, by omega⟩
      rw [upd_ne (ne_of_none e hp)]; exact s2 _ _ e
theorem step_same0 (m : Nat) {spR : Sp} (G_law_same : FnOk P w K mg base CX0 m T.a_law_same T.d_law_same ["told", "due"] spR) : FnOk P w K mg base CX0 (m + 1) T.a_law_same T.d_law_same ["told", "due"] (spSame0 K) := by
  refine T.D_law_same.fn.ok sc_law_same (fun vs H Q E h => ?_) (fun cdv A outer s H vs Q E hr h => ?_)
  · obtain ⟨x, y, d, rfl, _⟩ := h; rfl
  · obtain ⟨x, y, d, rfl, hx, hy, hd, k⟩ := h
    refine ⟨_, (pss_cons (ps_if (pt_val (pe_callB call_isi (by rfl) T.b_isinstance bt_isinstance (pa_cons (pv 1) (pa_cons (pe_bltn (v := .ty "tuple") (by rfl) T.b_tuple bt_tuple rfl) pa_nil)))) (pss_one (ps_ret (pe_and (pe_callB call_isi (by rfl) T.b_isinstance bt_isinstance (pa_cons (pv 0) (pa_cons (pe_bltn (v := .ty "tuple") (by rfl) T.b_tuple bt_tuple rfl) pa_nil))) (pe_and (pe_cmpR op_eq (pe_callB call_len (by rfl) T.b_len bt_len (pa_cons (pv 0) pa_nil)) (pe_callB call_len (by rfl) T.b_len bt_len (pa_cons (pv 1) pa_nil)) (nomark _)) (pe_one (pe_callB (cr_all rfl) (by rfl) T.b_all bt_all (pa_cons (pe_lc (own := [("one", 2), ("two", 3)]) (g := (gTup K 2 (gCons (gName 2) (gCons (gName 3) gNil)))) rfl sc_law_same.nd (RZ.pi_zipA (by rfl) T.b_zip (pa_cons (pv 0) (pa_cons (pv 1) pa_nil))) (blkOk_by (own := [("one", 2), ("two", 3)]) (N := ["told", "due", "one", "two"]) (sc := defScope s_law_same) (by decide +kernel)) (fun _ _ _ _ _ => (pg_tup rfl (pgs_cons (pg_name (i := 2) sc_law_same.nd rfl (by first | exact Or.inl rfl | exact Or.inr rfl)) (pgs_cons (pg_name (i := 3) sc_law_same.nd rfl (by first | exact Or.inl rfl | exact Or.inr rfl)) pgs_nil)))) (fun _ _ _ _ _ => pts_nil) (fun _ _ _ _ _ => (pe_call (G_law_same) (hr.mono (by omega)) (by rfl) T.D_law_same.mg T.D_law_same.fn.kp T.D_law_same.bd .nil pass0 (pa_cons (pv 2) (pa_cons (pv 3) pa_nil))))) pa_nil))))))) pss_nil)
      (pss_cons (ps_if (pt_cmpR op_isN (pv 1) pe_non (nomark _)) (pss_one (ps_ret (pe_cmpR op_isN (pv 0) pe_non (nomark _)))) pss_nil)
      (pss_cons (ps_if (pt_cmpR op_isB (pv 1) pe_bl (nomark _)) (pss_one (ps_ret (pe_cmpR op_isB (pv 0) pe_bl (nomark _)))) pss_nil)
      (pss_cons (ps_if (pt_cmpR op_isB (pv 1) pe_bl (nomark _)) (pss_one (ps_ret (pe_cmpR op_isB (pv 0) pe_bl (nomark _)))) pss_nil)
      (pss_cons (ps_if (pt_val (pe_callB call_isi (by rfl) T.b_isinstance bt_isinstance (pa_cons (pv 1) (pa_cons (pe_bltn (v := .ty "int") (by rfl) T.b_int bt_int rfl) pa_nil)))) (pss_one (ps_ret (pe_and (pe_callB call_isi (by rfl) T.b_isinstance bt_isinstance (pa_cons (pv 0) (pa_cons (pe_bltn (v := .ty "int") (by rfl) T.b_int bt_int rfl) pa_nil))) (pe_and (pe_not (pe_callB call_isi (by rfl) T.b_isinstance bt_isinstance (pa_cons (pv 0) (pa_cons (pe_bltn (v := .ty "bool") (by rfl) T.b_bool bt_bool rfl) pa_nil)))) (pe_one (pe_cmpR op_eq (pv 0) (pv 1) (nomark _))))))) pss_nil)
      (pss_one (ps_ret (pe_and (pe_callB call_isi (by rfl) T.b_isinstance bt_isinstance (pa_cons (pv 0) (pa_cons (pe_bltn (v := .ty "str") (by rfl) T.b_str bt_str rfl) pa_nil))) (pe_one (pe_cmpR op_eq (pv 0) (pv 1) (nomark _))))))))))), ?_⟩
    have h0 : ∀ H1, Same H H1 → ED K (tVar 0) (start ["told", "due", "one", "two"] [x, y]) (nn H) H1 d := fun H1 s1 => ed_var rfl (df_mono s1 (fun _ z => z) (dp_df hx))
    have h1 : ∀ H1, Same H H1 → ED K (tVar 1) (start ["told", "due", "one", "two"] [x, y]) (nn H) H1 d := fun H1 s1 => ed_var rfl (df_mono s1 (fun _ z => z) (dp_df hy))
    cases d with
    | bool b =>
      refine s_if (b := false) (et_B (ed_isi (T := "tuple") (h1 H (Same.refl _)) (.inr (.inl rfl)))) (fun h => nomatch h) fun _ H1 s1 => ?_
      refine s_if (b := false) (et_test (ed_isN (h1 H1 s1))) (fun h => nomatch h) fun _ H2 s2 => ?_
      have s12 := s1.trans s2
      refine s_if (et_test (ed_isB (h1 H2 s12))) (fun h H3 s3 => ?_) fun h H3 s3 => ?_
      · have s13 := s12.trans s3
        exact s_retB (ed_isB (h0 H3 s13)) h fun H4 s4 => k H4 (s13.trans s4)
      · have s13 := s12.trans s3
        refine s_if (et_test (ed_isB (h1 H3 s13))) (fun h2 H4 s4 => ?_) fun h2 H4 s4 => ?_
        · exact s_retB (ed_isB (h0 H4 (s13.trans s4))) h2 fun H5 s5 => k H5 ((s13.trans s4).trans s5)
        · cases b
          · cases h2
          · cases h
    | str z =>
      refine s_if (b := false) (et_B (ed_isi (T := "tuple") (h1 H (Same.refl _)) (.inr (.inl rfl)))) (fun h => nomatch h) fun _ H1 s1 => ?_
      refine s_if (b := false) (et_test (ed_isN (h1 H1 s1))) (fun h => nomatch h) fun _ H2 s2 => ?_
      have s12 := s1.trans s2
      refine s_if (b := false) (et_test (ed_isB (h1 H2 s12))) (fun h => nomatch h) fun h H3 s3 => ?_
      have s13 := s12.trans s3
      refine s_if (b := false) (et_test (ed_isB (h1 H3 s13))) (fun h => nomatch h) fun h H4 s4 => ?_
      have s14 := s13.trans s4
      refine s_if (b := false) (et_B (ed_isi (T := "int") (h1 H4 s14) (.inr (.inr (.inr (.inl rfl)))))) (fun h => nomatch h) fun h H5 s5 => ?_
      have s15 := s14.trans s5
      exact s_retB (ed_andV (ed_isi (T := "str") (h0 H5 s15) (.inl rfl)) fun _ => ed_eqS (h0 H5 s15) (h1 H5 s15)) (by rw [decide_eq_true rfl]; rfl) fun H6 s6 => k H6 (s15.trans s6)
    | _ => cases hd
theorem ok_law_same0 : FnOk P w K mg base CX0 2 T.a_law_same T.d_law_same ["told", "due"] (spSame0 K) := step_same0 T 1 (no_ok 0 T.D_law_same sc_law_same)
theorem zip_same : ∀ (ds : List PyData), zipD ds ds = ds.map fun d => .tuple [d, d]
  | [] => rfl
  | d :: ds => by
    show PyData.tuple [d, d] :: zipD ds ds = _
    rw [zip_same ds]; rfl
theorem ok_law_same1 : FnOk P w K mg base CX0 3 T.a_law_same T.d_law_same ["told", "due"] (spSame1 K) := by
  have G_law_same := ok_law_same0 (P := P) (base := base) T
  refine T.D_law_same.fn.ok sc_law_same (fun vs H Q E h => ?_) (fun cdv A outer s H vs Q E hr h => ?_)
  · obtain ⟨x, y, d, rfl, _⟩ := h; rfl
  · obtain ⟨x, y, ds, rfl, hx, hy, hl, hd, k⟩ := h
    refine ⟨_, (pss_cons (ps_if (pt_val (pe_callB call_isi (by rfl) T.b_isinstance bt_isinstance (pa_cons (pv 1) (pa_cons (pe_bltn (v := .ty "tuple") (by rfl) T.b_tuple bt_tuple rfl) pa_nil)))) (pss_one (ps_ret (pe_and (pe_callB call_isi (by rfl) T.b_isinstance bt_isinstance (pa_cons (pv 0) (pa_cons (pe_bltn (v := .ty "tuple") (by rfl) T.b_tuple bt_tuple rfl) pa_nil))) (pe_and (pe_cmpR op_eq (pe_callB call_len (by rfl) T.b_len bt_len (pa_cons (pv 0) pa_nil)) (pe_callB call_len (by rfl) T.b_len bt_len (pa_cons (pv 1) pa_nil)) (nomark _)) (pe_one (pe_callB (cr_all rfl) (by rfl) T.b_all bt_all (pa_cons (pe_lc (own := [("one", 2), ("two", 3)]) (g := (gTup K 2 (gCons (gName 2) (gCons (gName 3) gNil)))) rfl sc_law_same.nd (RZ.pi_zipA (by rfl) T.b_zip (pa_cons (pv 0) (pa_cons (pv 1) pa_nil))) (blkOk_by (own := [("one", 2), ("two", 3)]) (N := ["told", "due", "one", "two"]) (sc := defScope s_law_same) (by decide +kernel)) (fun _ _ _ _ _ => (pg_tup rfl (pgs_cons (pg_name (i := 2) sc_law_same.nd rfl (by first | exact Or.inl rfl | exact Or.inr rfl)) (pgs_cons (pg_name (i := 3) sc_law_same.nd rfl (by first | exact Or.inl rfl | exact Or.inr rfl)) pgs_nil)))) (fun _ _ _ _ _ => pts_nil) (fun _ _ _ _ _ => (pe_call (G_law_same) (hr.mono (by omega)) (by rfl) T.D_law_same.mg T.D_law_same.fn.kp T.D_law_same.bd .nil pass0 (pa_cons (pv 2) (pa_cons (pv 3) pa_nil))))) pa_nil))))))) pss_nil)
      (pss_cons (ps_if (pt_cmpR op_isN (pv 1) pe_non (nomark _)) (pss_one (ps_ret (pe_cmpR op_isN (pv 0) pe_non (nomark _)))) pss_nil)
      (pss_cons (ps_if (pt_cmpR op_isB (pv 1) pe_bl (nomark _)) (pss_one (ps_ret (pe_cmpR op_isB (pv 0) pe_bl (nomark _)))) pss_nil)
      (pss_cons (ps_if (pt_cmpR op_isB (pv 1) pe_bl (nomark _)) (pss_one (ps_ret (pe_cmpR op_isB (pv 0) pe_bl (nomark _)))) pss_nil)
      (pss_cons (ps_if (pt_val (pe_callB call_isi (by rfl) T.b_isinstance bt_isinstance (pa_cons (pv 1) (pa_cons (pe_bltn (v := .ty "int") (by rfl) T.b_int bt_int rfl) pa_nil)))) (pss_one (ps_ret (pe_and (pe_callB call_isi (by rfl) T.b_isinstance bt_isinstance (pa_cons (pv 0) (pa_cons (pe_bltn (v := .ty "int") (by rfl) T.b_int bt_int rfl) pa_nil))) (pe_and (pe_not (pe_callB call_isi (by rfl) T.b_isinstance bt_isinstance (pa_cons (pv 0) (pa_cons (pe_bltn (v := .ty "bool") (by rfl) T.b_bool bt_bool rfl) pa_nil)))) (pe_one (pe_cmpR op_eq (pv 0) (pv 1) (nomark _))))))) pss_nil)
      (pss_one (ps_ret (pe_and (pe_callB call_isi (by rfl) T.b_isinstance bt_isinstance (pa_cons (pv 0) (pa_cons (pe_bltn (v := .ty "str") (by rfl) T.b_str bt_str rfl) pa_nil))) (pe_one (pe_cmpR op_eq (pv 0) (pv 1) (nomark _))))))))))), ?_⟩
    have h0 : ∀ H1, Same H H1 → ED K (tVar 0) (start ["told", "due", "one", "two"] [x, y]) (nn H) H1 (.tuple ds) := fun H1 s1 => ed_var rfl (df_mono s1 (fun _ z => z) (dp_df hx))
    have h1 : ∀ H1, Same H H1 → ED K (tVar 1) (start ["told", "due", "one", "two"] [x, y]) (nn H) H1 (.tuple ds) := fun H1 s1 => ed_var rfl (df_mono s1 (fun _ z => z) (dp_df hy))
    refine s_if (b := true) (et_B (ed_isi (T := "tuple") (h1 H (Same.refl _)) (.inr (.inl rfl)))) (fun _ H1 s1 => ?_) fun h => nomatch h
    refine s_retB (F := nn H) (ed_andV (ed_isi (T := "tuple") (h0 H1 s1) (.inr (.inl rfl))) fun _ => ed_andV (ed_eqI (ed_len (h0 H1 s1) rfl) (ed_len (h1 H1 s1) rfl)) fun _ => ed_all (bs := ds.map fun _ => true) (ed_is (ed_lc (f := fun _ => true) (m := fun _ => .bool true) (ei_zip (ea_cons (h0 H1 s1) (ea_cons (h1 H1 s1) ea_nil))) ?_ fun F2 H2 e2 v2 d2 hd2 hv2 => ?_) ?_)) ?_ fun H2 s2 => k H2 (s1.trans s2)
    · rw [zip_same, List.length_map]; omega
    · rw [zip_same] at hd2
      obtain ⟨d, hdm, rfl⟩ := List.mem_map.mp hd2
      cases hv2 with
      | tup hts r =>
        cases r with
        | cons r1 r =>
          cases r with
          | cons r2 r =>
            cases r
            refine ⟨_, fun Q q => ⟨_, _, rfl, hts, rfl, _, _, rfl, _, _, rfl, rfl, q⟩, rfl, et_yes, fun _ => ed_call (ea_cons (ed_var rfl r1) (ea_cons (ed_var rfl r2) ea_nil)) ?_⟩
            intro F3 vs3 H3 hv3 Q3 q3
            cases hv3 with
            | cons a b =>
              cases b with
              | cons b c => cases c; exact ⟨_, _, d, rfl, df_dp a, df_dp b, hd d hdm, fun H4 s4 => q3 _ H4 s4 (.bl _)⟩
    · rw [filt_tt, zip_same, List.map_map, List.map_map]; rfl
    · rw [decide_eq_true rfl]
      show (true && (true && (ds.map fun _ => true).all id)) = true
      simp
end
end Ag

set_option Elab.async false
set_option linter.all false
set_option maxRecDepth 100000
set_option maxHeartbeats 1000000
namespace Ag
open PySem PySem.Spec PyProof.Rows L2
theorem nm_gd {i : Nat} {s : Str} (hi : i < 32) (h : Nm i s) : gd (.str s) = true := by
  obtain ⟨a, b, rfl, h1, h2, h3⟩ := h
  obtain ⟨d1, d2, d3⟩ := digs_ok i hi
  have hl : (S (a ++ Digs i ++ b)).length = a.length + (Digs i).length + b.length := by rw [SX.S_len, List.length_append, List.length_append]
  simp only [gd, Bool.and_eq_true, decide_eq_true_eq]
  refine ⟨Array.all_eq_true_iff_forall_mem.mpr fun c hc => ?_, by omega⟩
  have hc : c ∈ a ++ Digs i ++ b := by
    have := Array.mem_toList_iff.mpr hc; exact this
  have : c ≤ 122 := by
    rcases List.mem_append.mp hc with hc | hc
    · rcases List.mem_append.mp hc with hc | hc
      · exact (h3 c (List.mem_append_left _ hc)).2
      · have := d3 c hc; omega
    · exact (h3 c (List.mem_append_right _ hc)).2
  exact decide_eq_true (by omega)
def GoodNames (ns : List Str) : Prop := ns.Nodup ∧ ns.length ≤ 4 ∧ 1 ≤ ns.length ∧ ∀ s ∈ ns, nameB s = true ∧ gd (.str s) = true
theorem good_names {m : Nat} {ns : List Str} (h : Nms m ns) (h1 : 1 ≤ m) (h4 : m ≤ 4) : GoodNames ns := by
  refine ⟨nms_nodup (by omega) h, by rw [nms_len h]; exact h4, by rw [nms_len h]; exact h1, fun s hs => ?_⟩
  obtain ⟨j, hj, hn⟩ := nms_mem h hs
  exact ⟨nm_name (by omega) hn, nm_gd (by omega) hn⟩
theorem gd_tup_of {ds : List PyData} (h : ∀ x ∈ ds, gd x = true) (hl : ds.length ≤ 1000) : gd (.tuple ds) = true := by
  simp only [gd, Bool.and_eq_true, decide_eq_true_eq]; exact ⟨gds_of h, hl⟩
theorem gd_lst_of {ds : List PyData} (h : ∀ x ∈ ds, gd x = true) (hl : ds.length ≤ 1000) : gd (.list ds) = true := by
  simp only [gd, Bool.and_eq_true, decide_eq_true_eq]; exact ⟨gds_of h, hl⟩
theorem eqv_str (x y : Str) : PyData.eqv (.str x) (.str y) = decide (x = y) := by
  simp only [PyData.eqv]
  by_cases h : x = y
  · subst h; simp
  · simp [h]
theorem cut2 (ys : List V) : cutV ys none (some 2) = ys.take 2 := by
  unfold cutV
  rw [HT.sIx_none]
  have e : HT.sIx ys.length ys.length (some (2 : Int)) = min 2 ys.length := HT.sIx_nat ..
  rw [e, List.drop_zero, Nat.sub_zero]
  by_cases h : 2 ≤ ys.length
  · rw [Nat.min_eq_left h]
  · rw [Nat.min_eq_right (by omega), List.take_length, List.take_of_length_le (by omega)]
section
variable {K : PySem.W.Frag} {σ : L2.St} {H : Hp}
theorem run_ifcA {t : TT} {b : Bool} {v1 v2 : V} {Q : List V → Hp → Prop} (h : ET t σ H b) (k : ∀ H1, Same H H1 → Q [if b then v1 else v2] H1) : tCons (tIf t (tC v1) (tC v2)) tNil σ H Q := h H (Same.refl _) _ fun H1 s1 => by
  cases b with
  | true => exact k H1 s1
  | false => exact k H1 s1
end
theorem pick_str {xs : List Str} {i : Nat} {v : V} (h : (xs.map V.str)[i]? = some v) : ∃ s ∈ xs, v = .str s := by
  obtain ⟨s, hs, e⟩ := List.mem_map.mp (List.mem_of_getElem? h)
  exact ⟨s, hs, e.symm⟩
/-- a plain duty is drawn -/
def spSP (K : PySem.W.Frag) : Sp := fun vs H Q _ => ∃ (p c cs : Addr) (ns : List Str) (n : Nat), vs = [.ref p, .ref cs] ∧ Pen p c n H ∧ SqT K H cs (ns.map V.str) ∧ GoodNames ns ∧ n + 1000000 < 1000000000000 ∧
  ∀ v d H', Dp K H' v d → PlainOne d → But p H H' → Pen p c (n + 100) H' → Q v H'
section
variable {P : Program} {w : World} {K : PySem.W.Frag} {mg : Str → Option Value} {base : Heap} (T : Txt w K mg)
theorem ok_law_some_plain : FnOk P w K mg base CX0 3 T.a_law_some_plain T.d_law_some_plain ["pen", "calls"] (spSP K) := by
  have G_law_pick := ok_pick (P := P) (base := base) T
  have G_law_shuffled := ok_shuf (P := P) (base := base) T
  have G_law_draw := ok_draw (P := P) (base := base) T
  refine T.D_law_some_plain.fn.ok sc_law_some_plain (fun vs H Q E h => ?_) (fun cdv A outer s H vs Q E hr h => ?_)
  · obtain ⟨p, c, cs, ns, n, rfl, _⟩ := h; rfl
  · obtain ⟨p, c, cs, ns, n, rfl, hP, hs, ⟨nd, n4, n1, hN⟩, nb, k⟩ := h
    refine ⟨_, (pss_cons (ps_set (i := 2) sc_law_some_plain.nd rfl (by first | exact Or.inl rfl | exact Or.inr rfl) (pe_call (G_law_pick) (hr.mono (by omega)) (by rfl) T.D_law_pick.mg T.D_law_pick.fn.kp T.D_law_pick.bd .nil pass0 (pa_cons (pv 0) (pa_cons (pe_lst (pa_cons pe_str (pa_cons pe_str (pa_cons pe_str (pa_cons pe_str (pa_cons pe_str (pa_cons pe_str pa_nil))))))) pa_nil))))
      (pss_cons (ps_if (pt_cmpR op_eq (pv 2) pe_str (nomark _)) (pss_one (ps_ret (pe_tup (pa_cons (pv 2) (pa_cons (pe_call (G_law_pick) (hr.mono (by omega)) (by rfl) T.D_law_pick.mg T.D_law_pick.fn.kp T.D_law_pick.bd .nil pass0 (pa_cons (pv 0) (pa_cons (pv 1) pa_nil))) pa_nil))))) pss_nil)
      (pss_cons (ps_if (PW.pt (pw_and (pt_cmpR op_eq (pv 2) pe_str (nomark _)) (pw_and1 (pt_cmpR op_gt (pe_callB call_len (by rfl) T.b_len bt_len (pa_cons (pv 1) pa_nil)) pe_int (nomark _))))) (pss_one (ps_ret (pe_op op_catA (pe_tup (pa_cons (pv 2) pa_nil)) (pe_callTy call_tuple_of (by rfl) T.b_tuple bt_tuple (pa_cons (pe_slice sl_list (pe_call (G_law_shuffled) (hr.mono (by omega)) (by rfl) T.D_law_shuffled.mg T.D_law_shuffled.fn.kp T.D_law_shuffled.bd .nil pass0 (pa_cons (pv 0) (pa_cons (pv 1) pa_nil))) po_none (po_some pe_int)) pa_nil))))) pss_nil)
      (pss_cons (ps_set (i := 2) sc_law_some_plain.nd rfl (by first | exact Or.inl rfl | exact Or.inr rfl) (pe_ifExp (pt_cmpR op_eq (pv 2) pe_str (nomark _)) pe_str (pv 2)))
      (pss_one (ps_ret (pe_tup (pa_cons (pv 2) (pa_cons (pe_callTy call_tuple_of (by rfl) T.b_tuple bt_tuple (pa_cons (pe_lc (own := [("spot", 3)]) rfl sc_law_some_plain.nd (pi_range1 (by rfl) T.b_range (pa_cons (pe_op op_add pe_int (pe_call (G_law_draw) (hr.mono (by omega)) (by rfl) T.D_law_draw.mg T.D_law_draw.fn.kp T.D_law_draw.bd .nil pass0 (pa_cons (pv 0) (pa_cons (pe_ifExp (pt_cmpR op_eq (pv 2) pe_str (nomark _)) pe_int pe_int) pa_nil)))) pa_nil)) (blkOk_by (own := [("spot", 3)]) (N := ["pen", "calls", "kind", "spot"]) (sc := defScope s_law_some_plain) (by decide +kernel)) (fun _ _ _ _ _ => (pg_name (i := 3) sc_law_some_plain.nd rfl (by first | exact Or.inl rfl | exact Or.inr rfl))) (fun _ _ _ _ _ => pts_nil) (fun _ _ _ _ _ => (pe_call (G_law_pick) (hr.mono (by omega)) (by rfl) T.D_law_pick.mg T.D_law_pick.fn.kp T.D_law_pick.bd .nil pass0 (pa_cons (pv 0) (pa_cons (pv 1) pa_nil))))) pa_nil)) pa_nil))))))))), ?_⟩
    refine ⟨_, rfl, (by show 6 ≤ sizeLine; decide), fun l hl => ⟨p, c, l, (["call", "call", "row", "steps", "answer", "never"] : List Str).map V.str, n, rfl, hP.upd (hP.ne_p hl) (hP.ne_c hl), .inl (SqL.of upd_same), by decide, by decide, by omega, fun i kv H1 hk b1 P1 => ?_⟩⟩
    obtain ⟨kd, hkd, rfl⟩ := pick_str hk
    replace b1 : But p H H1 := (But.of (Same.newA hl)).trans b1
    have hs1 := hP.st b1 hs
    clear hk
    have hkv : ∀ H2, ED K (tVar 2) [some (.ref p), some (.ref cs), some (.str kd), none] (fun _ => True) H2 (.str kd) := fun H2 => ed_var rfl (.str _)
    refine s_if (et_test (ed_eqS (hkv H1) (ed_str (x := "call")))) (fun hb H2 s2 => ?_) (fun hb H2 s2 => ?_)
    · have hb := of_decide_eq_true hb
      refine ⟨_, rfl, _, rfl, _, rfl, p, c, cs, ns.map V.str, n + 1, rfl, P1.same s2, .inr (s2.stA hs1), by rw [List.length_map]; omega, by rw [List.length_map]; omega, by omega, fun i nv H3 hn b3 P3 => ⟨(by show 2 ≤ sizeLine; decide), fun t ht => ?_⟩⟩
      obtain ⟨nm, hm, rfl⟩ := pick_str hn
      subst hb
      refine k _ (.tuple [.str "call", .str nm]) _ (.tup (.of upd_same) (.cons (.str _) (.cons (.str _) .nil))) ⟨gd_tup_of ?_ (Nat.le_of_ble_eq_true rfl), "call", .str nm, [], rfl, ?_, by decide⟩ ((b1.trans (.of s2)).trans (b3.trans (.of (Same.newA ht)))) (((P3.more (by omega)).upd (P3.ne_p ht) (P3.ne_c ht)))
      · intro x hx
        rcases List.mem_cons.mp hx with rfl | hx
        · decide +kernel
        · rw [List.mem_singleton] at hx; subst hx; exact (hN nm hm).2
      · unfold plainB; rw [if_pos rfl]; exact (hN nm hm).1
    · have nc := of_decide_eq_false hb
      have P2 := P1.same s2
      have hs2 := s2.stA hs1
      have b2 := b1.trans (.of s2)
      have hcalls : ED K (tVar 1) [some (.ref p), some (.ref cs), some (.str kd), none] (fun _ => True) H2 (.tuple (ns.map .str)) := ed_var rfl (.tup hs2 (dfs_strs ns))
      refine s_if (et_and (et_test (ed_eqS (hkv H2) (ed_str (x := "answer")))) fun _ => et_test (ed_gt (ed_len hcalls rfl) (ed_int (i := 1)))) (fun hb H3 s3 => ?_) (fun hb H3 s3 => ?_)
      · obtain ⟨h1, h2⟩ := Bool.and_eq_true_iff.mp hb
        have h1 := of_decide_eq_true h1
        have h2 := of_decide_eq_true h2
        subst h1
        have P3 := P2.same s3
        refine ⟨_, rfl, (by show 1 ≤ sizeLine; decide), fun t ht => ⟨_, rfl, _, rfl, p, c, cs, ns.map V.str, n + 1, rfl, P3.upd (P3.ne_p ht) (P3.ne_c ht), .inr ((Same.newA ht).stA (s3.stA hs2)), by rw [List.length_map]; omega, by omega, fun m ys H4 pm hm e4 b4 P4 => ?_⟩⟩
        obtain ⟨zs, pz, rfl⟩ := vstr_perm pm
        have lz : 2 ≤ zs.length := by
          rw [pz.length_eq]
          have : (lenP (.tuple (ns.map PyData.str)) : Int) = ns.length := by simp [lenP]
          omega
        match zs, pz, lz, e4 with
        | a :: b :: zr, pz, lz, e4 =>
          have ha := hN a (pz.mem_iff.mp (by simp))
          have hb' := hN b (pz.mem_iff.mp (by simp))
          have nab : a ≠ b := by
            have := pz.nodup_iff.mpr nd
            simp at this
            exact this.1.1
          refine ⟨2, rfl, m, _, rfl, SqL.of e4, fun q hq => ⟨_, _, rfl, .inl ⟨SqL.of upd_same, fun r hr2 => ?_⟩⟩⟩
          have hq4 : H4 q = none := hq
          have nqr : q ≠ r := fun z => by rw [z, upd_same] at hr2; cases hr2
          have hr4 : H4 r = none := by rw [upd_ne (Ne.symm nqr)] at hr2; exact hr2
          have ntp : t ≠ p := P3.ne_p ht
          have et4 : H4 t = some (.tup [.str "answer"]) := b4 t _ ntp upd_same
          have ntq : t ≠ q := ne_of_none et4 hq4
          have ntr : t ≠ r := ne_of_none et4 hr4
          have ec : cutV ((a :: b :: zr).map V.str) none (some 2) = [.str a, .str b] := by rw [cut2]; rfl
          refine ⟨t, r, [.str "answer"], [.str a, .str b], rfl, rfl, .of (by rw [upd_ne ntr, upd_ne ntq]; exact et4), .of (by rw [← ec]; exact upd_same), (by show 3 ≤ sizeLine; decide), (fun z => nomatch z), (fun _ z => nomatch z), fun _ _ f hf => ?_⟩
          have s46 : Same H4 (upd (upd (upd H4 q (.lst (cutV ((a :: b :: zr).map V.str) none (some 2)))) r (.tup (cutV ((a :: b :: zr).map V.str) none (some 2)))) f (.tup ([.str "answer"] ++ [.str a, .str b]))) := ((Same.newA hq).trans (Same.newA hr2)).trans (Same.newA hf)
          refine k _ (.tuple [.str "answer", .str a, .str b]) _ (.tup (.of upd_same) (.cons (.str _) (.cons (.str _) (.cons (.str _) .nil)))) ⟨gd_tup_of ?_ (Nat.le_of_ble_eq_true rfl), "answer", .str a, [.str b], rfl, ?_, by decide⟩ (b2.trans ((But.of (s3.trans (Same.newA ht))).trans (b4.trans (.of s46)))) ((P4.more (by rw [List.length_map]; omega)).same s46)
          · intro x hx
            rcases List.mem_cons.mp hx with rfl | hx
            · decide +kernel
            · rcases List.mem_cons.mp hx with rfl | hx
              · exact ha.2
              · rw [List.mem_singleton] at hx; subst hx; exact hb'.2
          · unfold plainB
            rw [if_neg (by decide), if_pos rfl]
            show (nameB a && (nameB b && !PyData.eqv (.str a) (.str b))) = true
            rw [eqv_str, decide_eq_false nab, ha.1, hb'.1]; rfl
      · have P3 := P2.same s3
        have hs3 := s3.stA hs2
        have b3 := b2.trans (.of s3)
        have hk2 : (if kd = "answer" then ("row" : Str) else kd : Str) ∈ (["row", "steps", "never"] : List Str) := by
          by_cases q : kd = "answer"
          · rw [if_pos q]; decide +kernel
          · rw [if_neg q]
            simp only [List.mem_cons, List.not_mem_nil, or_false] at hkd ⊢
            rcases hkd with h | h | h | h | h | h
            · exact absurd h nc
            · exact absurd h nc
            · exact .inl h
            · exact .inr (.inl h)
            · exact absurd h q
            · exact .inr (.inr h)
        refine s_set (F := fun _ => True) (d := .str (if kd = "answer" then ("row" : Str) else kd)) (ed_if (et_test (ed_eqS (hkv H3) (ed_str (x := "answer")))) (fun q => ed_is (ed_str (x := "row")) ?_) fun q => ed_is (hkv H3) ?_) fun v4 H4 s4 hv4 => ?_
        · rw [if_pos (of_decide_eq_true q)]
        · rw [if_neg (of_decide_eq_false q)]
        cases hv4
        generalize (if kd = "answer" then ("row" : Str) else kd) = k2 at hk2
        have P4 := P3.same s4
        have hs4 := s4.stA hs3
        have b4 := b3.trans (.of s4)
        have hkv2 : ∀ H2, ED K (tVar 2) [some (.ref p), some (.ref cs), some (.str k2), none] (fun _ => True) H2 (.str k2) := fun H2 => ed_var rfl (.str _)
        clear hkv hb nc hkd hs2 hs3 P2 P3 b2 b3 hs1 P1 b1
        refine ⟨_, rfl, _, rfl, run_ifcA (et_test (ed_eqS (hkv2 H4) (ed_str (x := "steps")))) fun H5 s5 => ?_⟩
        refine ⟨p, c, if decide (k2 = "steps") then 3 else 2, n + 1, ?_, P4.same s5, ?_, ?_, by omega, fun d H6 d0 d1 b6 P6 => ?_⟩
        · cases decide (k2 = "steps") <;> rfl
        · cases decide (k2 = "steps") <;> decide
        · cases decide (k2 = "steps") <;> decide
        have d3 : d < 3 := by
          refine Int.lt_of_lt_of_le d1 ?_
          cases decide (k2 = "steps") <;> decide
        have b56 := (b4.trans (.of s5)).trans b6
        have hs6 := (P4.same s5).st b6 (s5.stA hs4)
        clear b4 b6 hs4 P4
        refine ⟨_, _, rfl, rfl, _, rfl, by omega, by omega, fun D hD => lc_range (lo := 0) (n := (2 + d).toNat) (fun i H' => ∃ ms : List Str, H' D = some (.lst (ms.map V.str)) ∧ ms.length = i ∧ (∀ s ∈ ms, s ∈ ns) ∧ But p H6 H' ∧ Pen p c (n + 2 + i) H')
          ⟨[], upd_same, rfl, (fun s e => by cases e), .of (Same.newA hD), P6.upd (P6.ne_p hD) (P6.ne_c hD)⟩ ?_ ?_⟩
        · rintro i H' hi ⟨ms, e1, ml, hm, b7, P7⟩
          refine ⟨rfl, ?_⟩
          refine ⟨_, rfl, _, rfl, p, c, cs, ns.map V.str, n + 2 + i, rfl, P7, .inr (P6.st b7 hs6), by rw [List.length_map]; omega, by rw [List.length_map]; omega, by omega, fun j nv H8 hn b8 P8 => ?_⟩
          obtain ⟨nm, hnm, rfl⟩ := pick_str hn
          have e2 : H8 D = some (.lst (ms.map V.str)) := b8 _ _ (P6.ne_p hD) e1
          refine ⟨_, e2, lt5 (by rw [List.length_map]; omega), ms ++ [nm], ?_, by rw [List.length_append, ml]; rfl, fun s e => ?_, ?_, ?_⟩
          · rw [List.map_append]; exact upd_same
          · rcases List.mem_append.mp e with e | e
            · exact hm s e
            · rw [List.mem_singleton] at e; subst e; exact hnm
          · intro b u nb e
            rw [upd_ne (ne_of_none e hD)]
            exact b8 _ _ nb (b7 _ _ nb e)
          · exact (P8.more (by omega)).upd (P6.ne_p hD) (P6.ne_c hD)
        · rintro H' ⟨ms, e1, ml, hm, b7, P7⟩
          refine ⟨_, _, rfl, .inl ⟨SqL.of e1, fun r hr2 => ⟨(by show 2 ≤ sizeLine; decide), fun f hf => ?_⟩⟩⟩
          have nrf : r ≠ f := ne_of_none upd_same hf
          have s8 : Same H' (upd (upd H' r (.tup (ms.map V.str))) f (.tup [.str k2, .ref r])) := (Same.newA hr2).trans (Same.newA hf)
          have lm : 2 ≤ ms.length ∧ ms.length ≤ 4 := by omega
          refine k _ (.tuple [.str k2, .tuple (ms.map .str)]) _ (.tup (.of upd_same) (.cons (.str _) (.cons (.tup (.of (by rw [upd_ne nrf]; exact upd_same)) (dps_strs ms)) .nil))) ⟨gd_tup_of ?_ (Nat.le_of_ble_eq_true rfl), k2, .tuple (ms.map .str), [], rfl, ?_, ?_⟩ ((b56.trans b7).trans (.of s8)) ((P7.more (by omega)).same s8)
          · intro x hx
            rcases List.mem_cons.mp hx with rfl | hx
            · simp only [List.mem_cons, List.not_mem_nil, or_false] at hk2
              rcases hk2 with rfl | rfl | rfl <;> decide +kernel
            · rw [List.mem_singleton] at hx; subst hx
              refine gd_tup_of (fun y hy => ?_) (by rw [List.length_map]; omega)
              obtain ⟨s, hs, rfl⟩ := List.mem_map.mp hy
              exact (hN s (hm s hs)).2
          · have hall : isWord (.tuple (ms.map .str)) = true := by
              show (ms.map PyData.str).all isName = true
              rw [List.all_map, List.all_eq_true]
              exact fun s hs => (hN s (hm s hs)).1
            have hlen : ((lenP (.tuple (ms.map PyData.str)) : Nat) : Int) = ms.length := by simp [lenP]
            have hlo : leastOf k2 ≤ 2 := by unfold leastOf; split <;> decide
            unfold plainB
            rw [if_neg ?_, if_neg ?_, hall, hlen, decide_eq_true hk2, decide_eq_true (show leastOf k2 ≤ (ms.length : Int) by omega), decide_eq_true (show (ms.length : Int) ≤ 4 by omega)]
            · rfl
            · rintro rfl; revert hk2; decide +kernel
            · rintro rfl; revert hk2; decide +kernel
          · simp only [List.mem_cons, List.not_mem_nil, or_false] at hk2
            rcases hk2 with rfl | rfl | rfl <;> decide +kernel
end
end Ag

set_option Elab.async false
set_option linter.all false
set_option maxRecDepth 100000
set_option maxHeartbeats 1000000
namespace Ag
open PySem PySem.Spec PyProof.Rows L2
def Cst (k : Nat) : Nat := 100 * 3 ^ k
theorem Cst_pos (k : Nat) : 100 ≤ Cst k := by
  unfold Cst
  have : 0 < 3 ^ k := Nat.pow_pos (by decide)
  omega
theorem Cst_succ (k : Nat) : Cst (k + 1) = 3 * Cst k := by unfold Cst; rw [Nat.pow_succ]; omega
def spSD (K : PySem.W.Frag) (k : Nat) : Sp := fun vs H Q _ => ∃ (p c cs : Addr) (ns : List Str) (n many : Nat), vs = [.ref p, .ref cs, .int (many : Int), .int (k : Int)] ∧ Pen p c n H ∧ SqT K H cs (ns.map V.str) ∧ GoodNames ns ∧ 1 ≤ many ∧ many ≤ 4 ∧ n + Cst k + 1000000 < 1000000000000 ∧
  ∀ v d H', Dp K H' v d → gd d = true → (∀ j, k ≤ j → pm j d ≤ (many : Int)) → But p H H' → Pen p c (n + Cst k) H' → Q v H'
theorem plain_pm {d : PyData} (h : PlainOne d) (j : Nat) : pm j d = 1 := by
  obtain ⟨_, s, x, r, rfl, hp, hj⟩ := h
  rw [pm_eq, hj, hp]; rfl
section
variable {P : Program} {w : World} {K : PySem.W.Frag} {mg : Str → Option Value} {base : Heap} (T : Txt w K mg)
theorem step_sd (k m : Nat) {spR : Sp} (hm0 : 3 ≤ m) (G_law_some_duty : FnOk P w K mg base CX0 m T.a_law_some_duty T.d_law_some_duty ["pen", "calls", "many", "deep"] spR) (hG : ∀ j, k = j + 1 → spR = spSD K j) :
    FnOk P w K mg base CX0 (m + 1) T.a_law_some_duty T.d_law_some_duty ["pen", "calls", "many", "deep"] (spSD K k) := by
  have G_law_pick := ok_pick (P := P) (base := base) T
  have G_law_some_plain := ok_law_some_plain (P := P) (base := base) T
  have G_law_draw := ok_draw (P := P) (base := base) T
  refine T.D_law_some_duty.fn.ok sc_law_some_duty (fun vs H Q E h => ?_) (fun cdv A outer s H vs Q E hr h => ?_)
  · obtain ⟨p, c, cs, ns, n, many, rfl, _⟩ := h; rfl
  · obtain ⟨p, c, cs, ns, n, many, rfl, hP, hs, hN, m1, m4, nb, kk⟩ := h
    refine ⟨_, (pss_cons (ps_if (PW.pt (pw_or (pt_cmpR op_lt (pv 2) pe_int (nomark _)) (pw_or1 (pt_cmpR op_eq (pv 3) pe_int (nomark _))))) (pss_one (ps_ret (pe_call (G_law_some_plain) (hr.mono (by omega)) (by rfl) T.D_law_some_plain.mg T.D_law_some_plain.fn.kp T.D_law_some_plain.bd .nil pass0 (pa_cons (pv 0) (pa_cons (pv 1) pa_nil))))) pss_nil)
      (pss_cons (ps_set (i := 4) sc_law_some_duty.nd rfl (by first | exact Or.inl rfl | exact Or.inr rfl) (pe_op op_add pe_int (pe_call (G_law_draw) (hr.mono (by omega)) (by rfl) T.D_law_draw.mg T.D_law_draw.fn.kp T.D_law_draw.bd .nil pass0 (pa_cons (pv 0) (pa_cons (pe_op op_sub (pv 2) pe_int) pa_nil)))))
      (pss_cons (ps_set (i := 5) sc_law_some_duty.nd rfl (by first | exact Or.inl rfl | exact Or.inr rfl) (pe_lst (pa_cons (pe_call (G_law_some_duty) (hr.mono (by omega)) (by rfl) T.D_law_some_duty.mg T.D_law_some_duty.fn.kp T.D_law_some_duty.bd .nil pass0 (pa_cons (pv 0) (pa_cons (pv 1) (pa_cons (pv 4) (pa_cons (pe_op op_sub (pv 3) pe_int) pa_nil))))) (pa_cons (pe_call (G_law_some_duty) (hr.mono (by omega)) (by rfl) T.D_law_some_duty.mg T.D_law_some_duty.fn.kp T.D_law_some_duty.bd .nil pass0 (pa_cons (pv 0) (pa_cons (pv 1) (pa_cons (pe_op op_sub (pv 2) (pv 4)) (pa_cons (pe_op op_sub (pv 3) pe_int) pa_nil))))) pa_nil))))
      (pss_one (ps_ret (pe_tup (pa_cons (pe_call (G_law_pick) (hr.mono (by omega)) (by rfl) T.D_law_pick.mg T.D_law_pick.fn.kp T.D_law_pick.bd .nil pass0 (pa_cons (pv 0) (pa_cons (pe_lst (pa_cons pe_str (pa_cons pe_str pa_nil))) pa_nil))) (pa_cons (pe_callTy call_tuple_of (by rfl) T.b_tuple bt_tuple (pa_cons (pv 5) pa_nil)) pa_nil)))))))), ?_⟩
    have c100 := Cst_pos k
    refine s_if (et_or (et_test (ed_lt (K := K) (F := fun _ => True) (ed_var (i := 2) rfl (.int _)) (ed_int (i := 2)))) fun _ => et_test (ed_eqI (K := K) (F := fun _ => True) (ed_var (i := 3) rfl (.int _)) (ed_int (i := 0)))) (fun hb H1 s1 => ?_) (fun hb H1 s1 => ?_)
    · refine ⟨_, rfl, _, rfl, p, c, cs, ns, n, rfl, hP.same s1, s1.stA hs, hN, by omega, fun v d H2 hd hp b2 P2 => ?_⟩
      exact kk v d H2 hd hp.1 (fun j _ => by rw [plain_pm hp]; omega) ((But.of s1).trans b2) (P2.more (by omega))
    · obtain ⟨h1, h2⟩ := Bool.or_eq_false_iff.mp hb
      have h1 := of_decide_eq_false h1
      have h2 := of_decide_eq_false h2
      obtain ⟨j, rfl⟩ : ∃ j, k = j + 1 := ⟨k - 1, by omega⟩
      obtain rfl := hG j rfl
      rw [Cst_succ] at kk nb
      have cj := Cst_pos j
      have P1 := hP.same s1
      refine ⟨_, rfl, _, rfl, _, _, rfl, rfl, p, c, (many : Int) - 1, n, rfl, P1, by omega, by omega, by omega, fun d H2 d0 d1 b2 P2 => ?_⟩
      refine ⟨_, _, rfl, rfl, ?_⟩
      obtain ⟨e, rfl⟩ : ∃ e : Nat, d = e := ⟨d.toNat, by omega⟩
      have hs2 := P1.st b2 (s1.stA hs)
      refine ⟨_, rfl, _, rfl, _, rfl, _, rfl, _, _, rfl, rfl, p, c, cs, ns, n + 1, e + 1, ?_, P2, hs2, hN, by omega, by omega, by omega, fun v1 d1 H3 hd1 g1 p1 b3 P3 => ?_⟩
      · show [V.ref p, V.ref cs, V.int (1 + (e : Int)), V.int (((j + 1 : Nat) : Int) - 1)] ++ [] = _
        rw [show (1 : Int) + (e : Int) = ((e + 1 : Nat) : Int) by omega, show (((j + 1 : Nat) : Int) - 1) = (j : Int) by omega]; rfl
      have hs3 := P2.st b3 hs2
      refine ⟨_, rfl, _, rfl, _, rfl, _, rfl, _, _, rfl, rfl, _, rfl, _, _, rfl, rfl, p, c, cs, ns, n + 1 + Cst j, many - (e + 1), ?_, P3, hs3, hN, by omega, by omega, by omega, fun v2 d2 H4 hd2 g2 p2 b4 P4 => ?_⟩
      · show [V.ref p, V.ref cs, V.int ((many : Int) - (1 + (e : Int))), V.int (((j + 1 : Nat) : Int) - 1)] ++ [] = _
        rw [show (many : Int) - (1 + (e : Int)) = ((many - (e + 1) : Nat) : Int) by omega, show (((j + 1 : Nat) : Int) - 1) = (j : Int) by omega]; rfl
      have hd1' := P3.dp b4 hd1
      refine ⟨(by show 2 ≤ sizeLine; decide), fun l hl => ?_⟩
      have P5 := P4.upd (o := .lst [v1, v2]) (P4.ne_p hl) (P4.ne_c hl)
      refine ⟨_, rfl, (by show 2 ≤ sizeLine; decide), fun q hq => ⟨p, c, q, (["all", "any"] : List Str).map V.str, n + 1 + Cst j + Cst j, rfl, P5.upd (P5.ne_p hq) (P5.ne_c hq), .inl (SqL.of upd_same), by decide, by decide, by omega, fun i kv H6 hk b6 P6 => ?_⟩⟩
      obtain ⟨kd, hkd, rfl⟩ := pick_str hk
      have hJ : jointB kd = true := decide_eq_true hkd
      have nlq : l ≠ q := ne_of_none upd_same hq
      have el : H6 l = some (.lst [v1, v2]) := b6 _ _ (P4.ne_p hl) (by rw [upd_ne nlq]; exact upd_same)
      have bAll : But p H4 H6 := (But.of ((Same.newA hl).trans (Same.newA hq))).trans b6
      refine ⟨_, rfl, _, _, rfl, .inl ⟨SqL.of el, fun t ht => ⟨(by show 2 ≤ sizeLine; decide), fun f hf => ?_⟩⟩⟩
      have ntf : t ≠ f := ne_of_none upd_same hf
      have s7 : Same H6 (upd (upd H6 t (.tup [v1, v2])) f (.tup [.str kd, .ref t])) := (Same.newA ht).trans (Same.newA hf)
      have e1 := dp_mono s7 (P4.dp bAll hd1')
      have e2 := dp_mono s7 (P4.dp bAll hd2)
      refine kk _ (.tuple [.str kd, .tuple [d1, d2]]) _ (.tup (.of upd_same) (.cons (.str _) (.cons (.tup (.of (by rw [upd_ne ntf]; exact upd_same)) (.cons e1 (.cons e2 .nil))) .nil))) ?_ (fun i hi => ?_) (((((But.of s1).trans b2).trans b3).trans b4).trans (bAll.trans (.of s7))) ((P6.more (by omega)).same s7)
      · refine gd_tup_of (fun x hx => ?_) (Nat.le_of_ble_eq_true rfl)
        rcases List.mem_cons.mp hx with rfl | hx
        · simp only [List.mem_cons, List.not_mem_nil, or_false] at hkd
          rcases hkd with rfl | rfl <;> decide +kernel
        · rw [List.mem_singleton] at hx; subst hx
          refine gd_tup_of (fun y hy => ?_) (Nat.le_of_ble_eq_true rfl)
          rcases List.mem_cons.mp hy with rfl | hy
          · exact g1
          · rw [List.mem_singleton] at hy; subst hy; exact g2
      · obtain ⟨i', rfl⟩ : ∃ i', i = i' + 1 := ⟨i - 1, by omega⟩
        have q1 := p1 i' (by omega)
        have q2 := p2 i' (by omega)
        have hok : (jointOk (.tuple [d1, d2]) [] && decide (0 < i' + 1)) = true := by rw [decide_eq_true (Nat.succ_pos i')]; rfl
        rw [pm_eq, if_pos hJ, if_pos hok]
        show ([d1, d2].map (pm i')).sum ≤ _
        simp only [List.map_cons, List.map_nil, List.sum_cons, List.sum_nil]
        omega
theorem ok_law_some_duty : ∀ k, FnOk P w K mg base CX0 (k + 4) T.a_law_some_duty T.d_law_some_duty ["pen", "calls", "many", "deep"] (spSD K k)
  | 0 => step_sd T 0 3 (Nat.le_refl 3) (no_ok 2 T.D_law_some_duty sc_law_some_duty) fun j e => by cases e
  | k + 1 => step_sd T (k + 1) (k + 4) (by omega) (ok_law_some_duty k) fun j e => by cases e; rfl
end
end Ag

set_option Elab.async false
set_option linter.all false
set_option maxRecDepth 100000
set_option maxHeartbeats 1000000
namespace Ag
open PySem PySem.Spec PyProof.Rows L2
/-! ### good data, not named -/
def EG (K : PySem.W.Frag) (te : TE) (σ : L2.St) (F : Addr → Prop) (H : Hp) : Prop := ∃ d, gd d = true ∧ ED K te σ F H d
def GA (K : PySem.W.Frag) (ta : TA) (σ : L2.St) (F : Addr → Prop) (H : Hp) (n : Nat) : Prop := ∃ ds : List PyData, ds.length = n ∧ (∀ x ∈ ds, gd x = true) ∧ EA K ta σ F H ds
section
variable {K : PySem.W.Frag} {σ : L2.St} {F : Addr → Prop} {H : Hp} {te : TE} {ta : TA} {n : Nat} {d : PyData}
theorem ga_nil : GA K tNil σ F H 0 := ⟨[], rfl, (fun x h => nomatch h), ea_nil⟩
theorem ga_cons (h : EG K te σ F H) (r : GA K ta σ F H n) : GA K (tCons te ta) σ F H (n + 1) := by
  obtain ⟨d, g, e⟩ := h
  obtain ⟨ds, l, gs, es⟩ := r
  refine ⟨d :: ds, by rw [List.length_cons, l], fun x hx => ?_, ea_cons e es⟩
  rcases List.mem_cons.mp hx with rfl | hx
  · exact g
  · exact gs x hx
theorem eg_tup (h : GA K ta σ F H n) (hn : n ≤ 1000 := by decide) : EG K (tTup ta) σ F H := by
  obtain ⟨ds, l, gs, es⟩ := h
  exact ⟨.tuple ds, gd_tup_of gs (by omega), ed_tup es (by omega)⟩
theorem eg_lst (h : GA K ta σ F H n) (hn : n ≤ 1000 := by decide) : EG K (tLst ta) σ F H := by
  obtain ⟨ds, l, gs, es⟩ := h
  exact ⟨.list ds, gd_lst_of gs (by omega), ed_lst es (by omega)⟩
theorem eg_str {x : Str} (h : gd (.str x) = true := by decide +kernel) : EG K (tC (.str x)) σ F H := ⟨_, h, ed_str⟩
theorem eg_int {i : Int} : EG K (tC (.int i)) σ F H := ⟨_, by simp [gd], ed_int⟩
theorem eg_non : EG K (tC .non) σ F H := ⟨_, by simp [gd], ed_non⟩
theorem eg_var {i : Nat} {v : V} (h : σ[i]? = some (some v)) (hd : Df K F H v d) (g : gd d = true) : EG K (tVar i) σ F H := ⟨d, g, ed_var h hd⟩
theorem eg_listOf {ds : List PyData} (h : ED K te σ F H (.tuple ds)) (g : gd (.tuple ds) = true) : EG K (tCB (fun xs H Q => ∃ p ys, xs = [.ref p] ∧ (SqL K H p ys ∨ SqT K H p ys) ∧ ∀ l, H l = none → Q (.ref l) (upd H l (.lst ys))) (tCons te tNil)) σ F H :=
  ⟨.list ds, gd_lst_of (gd_tup g).1 (gd_tup g).2, ed_listOf h rfl⟩
theorem run_ga {Q : List V → Hp → Prop} (h : GA K ta σ F H n) (k : ∀ us ds H1, Same H H1 → DfAll K (Fr F H) H1 us ds → ds.length = n → (∀ x ∈ ds, gd x = true) → Q us H1) : ta σ H Q := by
  obtain ⟨ds, l, gs, es⟩ := h
  exact es H (Same.refl _) Q fun us H1 s1 hus => k us ds H1 s1 hus l gs
theorem run_set_lst {i : Nat} {D : Ends} (h : GA K ta σ F H n) (hn : n ≤ 1000) (k : ∀ us ds l H1, Same H H1 → H1 l = some (.lst us) → DfAll K (Fr F H) H1 us ds → ds.length = n → (∀ x ∈ ds, gd x = true) → D.nx (σ.set i (some (.ref l))) H1) : tAsg (tLst ta) (gName i) D σ H :=
  run_ga (Q := fun vs H1 => vs.length ≤ sizeLine ∧ ∀ p, H1 p = none → D.nx (σ.set i (some (.ref p))) (upd H1 p (.lst vs))) h fun us ds H1 s1 hus l gs =>
    ⟨by rw [dfs_len hus, l]; exact small5 (by omega), fun p hp => k us ds p _ (s1.trans (Same.newA hp)) upd_same (dfs_mono (Same.newA hp) (fun _ z => z) hus) l gs⟩
theorem run_eg {Q : VK} (h : EG K te σ F H) (k : ∀ v d H1, Same H H1 → Df K (Fr F H) H1 v d → gd d = true → Q v H1) : te σ H Q := by
  obtain ⟨d, g, e⟩ := h
  exact e H (Same.refl _) Q fun v H1 s1 hv => k v d H1 s1 hv g
theorem dps_rep {xs : List V} {ds : List PyData} (h : DpAll K H xs ds) : ∀ k : Nat, DpAll K H (List.replicate k xs).flatten (List.replicate k ds).flatten
  | 0 => .nil
  | k + 1 => by
    rw [List.replicate_succ, List.flatten_cons, List.replicate_succ, List.flatten_cons]
    exact dps_app h (dps_rep h k)
theorem eg_t1 {t1 : TE} (a : EG K t1 σ F H) : EG K (tTup (tCons t1 tNil)) σ F H := eg_tup (ga_cons a ga_nil)
theorem eg_t2 {t1 t2 : TE} (a : EG K t1 σ F H) (b : EG K t2 σ F H) : EG K (tTup (tCons t1 (tCons t2 tNil))) σ F H := eg_tup (ga_cons a (ga_cons b ga_nil))
theorem eg_t3 {t1 t2 t3 : TE} (a : EG K t1 σ F H) (b : EG K t2 σ F H) (c : EG K t3 σ F H) : EG K (tTup (tCons t1 (tCons t2 (tCons t3 tNil)))) σ F H := eg_tup (ga_cons a (ga_cons b (ga_cons c ga_nil)))
theorem eg_l2 {t1 t2 : TE} (a : EG K t1 σ F H) (b : EG K t2 σ F H) : EG K (tLst (tCons t1 (tCons t2 tNil))) σ F H := eg_lst (ga_cons a (ga_cons b ga_nil))
end
def spBent (K : PySem.W.Frag) : Sp := fun vs H Q _ => ∃ (p c cs : Addr) (vd : V) (d : PyData) (ns : List Str) (n : Nat), vs = [.ref p, vd, .ref cs] ∧ Pen p c n H ∧ Dp K H vd d ∧ gd d = true ∧ SqT K H cs (ns.map V.str) ∧ GoodNames ns ∧ n + 1000000 < 1000000000000 ∧
  ∀ v d' H', Dp K H' v d' → gd d' = true → But p H H' → Pen p c (n + 100) H' → Q v H'
theorem ints_pick {xs : List Int} {i : Nat} {v : V} (h : (xs.map V.int)[i]? = some v) : ∃ s ∈ xs, v = .int s := by
  obtain ⟨s, hs, e⟩ := List.mem_map.mp (List.mem_of_getElem? h)
  exact ⟨s, hs, e.symm⟩
section
variable {P : Program} {w : World} {K : PySem.W.Frag} {mg : Str → Option Value} {base : Heap} (T : Txt w K mg)
theorem ok_law_bent : FnOk P w K mg base CX0 3 T.a_law_bent T.d_law_bent ["pen", "duty", "calls"] (spBent K) := by
  have G_law_pick := ok_pick (P := P) (base := base) T
  have G_law_draw := ok_draw (P := P) (base := base) T
  refine T.D_law_bent.fn.ok sc_law_bent (fun vs H Q E h => ?_) (fun cdv A outer s H vs Q E hr h => ?_)
  · obtain ⟨p, c, cs, vd, d, ns, n, rfl, _⟩ := h; rfl
  · obtain ⟨p, c, cs, vd, d, ns, n, rfl, hP, hd, gdd, hs, ⟨nd, n4, n1, hN⟩, nb, k⟩ := h
    refine ⟨_, (pss_cons (ps_par (i := 3) (j := 4) (by rfl) sc_law_bent.nd rfl rfl (by decide) rfl rfl (pa_cons (pe_call (G_law_pick) (hr.mono (by omega)) (by rfl) T.D_law_pick.mg T.D_law_pick.fn.kp T.D_law_pick.bd .nil pass0 (pa_cons (pv 0) (pa_cons (pv 2) pa_nil))) (pa_cons (pe_call (G_law_pick) (hr.mono (by omega)) (by rfl) T.D_law_pick.mg T.D_law_pick.fn.kp T.D_law_pick.bd .nil pass0 (pa_cons (pv 0) (pa_cons (pe_lst (pa_cons pe_str (pa_cons pe_str (pa_cons pe_non (pa_cons pe_int (pa_cons pe_str (pa_cons (pe_op op_repS pe_str pe_int) pa_nil))))))) pa_nil))) pa_nil)) (by rfl))
      (pss_cons (ps_set (i := 5) sc_law_bent.nd rfl (by first | exact Or.inl rfl | exact Or.inr rfl) (pe_callTy call_tuple_of (by rfl) T.b_tuple bt_tuple (pa_cons (pe_lc (own := [("spot", 6)]) rfl sc_law_bent.nd (pi_range1 (by rfl) T.b_range (pa_cons (pe_call (G_law_pick) (hr.mono (by omega)) (by rfl) T.D_law_pick.mg T.D_law_pick.fn.kp T.D_law_pick.bd .nil pass0 (pa_cons (pv 0) (pa_cons (pe_lst (pa_cons pe_int (pa_cons pe_int (pa_cons pe_int (pa_cons pe_int (pa_cons pe_int pa_nil)))))) pa_nil))) pa_nil)) (blkOk_by (own := [("spot", 6)]) (N := ["pen", "duty", "calls", "call", "other", "word", "spot", "some", "deep", "lap", "many"]) (sc := defScope s_law_bent) (by decide +kernel)) (fun _ _ _ _ _ => (pg_name (i := 6) sc_law_bent.nd rfl (by first | exact Or.inl rfl | exact Or.inr rfl))) (fun _ _ _ _ _ => pts_nil) (fun _ _ _ _ _ => (pe_call (G_law_pick) (hr.mono (by omega)) (by rfl) T.D_law_pick.mg T.D_law_pick.fn.kp T.D_law_pick.bd .nil pass0 (pa_cons (pv 0) (pa_cons (pv 2) pa_nil))))) pa_nil)))
      (pss_cons (ps_set (i := 7) sc_law_bent.nd rfl (by first | exact Or.inl rfl | exact Or.inr rfl) (pe_lst (pa_cons (pe_tup (pa_cons pe_str (pa_cons (pv 4) pa_nil))) (pa_cons (pe_tup (pa_cons pe_str pa_nil)) (pa_cons (pe_tup (pa_cons pe_str (pa_cons (pv 3) (pa_cons (pv 3) pa_nil)))) (pa_cons (pe_lst (pa_cons pe_str (pa_cons (pv 3) pa_nil))) (pa_cons (pe_tup (pa_cons pe_str (pa_cons (pv 3) (pa_cons (pv 3) pa_nil)))) (pa_cons (pe_tup (pa_cons pe_str (pa_cons (pv 3) pa_nil))) (pa_cons (pe_tup (pa_cons pe_str (pa_cons (pv 3) (pa_cons (pv 4) pa_nil)))) (pa_cons (pe_tup (pa_cons pe_str (pa_cons (pv 3) pa_nil))) (pa_cons (pe_tup (pa_cons (pv 3) pa_nil)) (pa_cons (pe_tup pa_nil) (pa_cons pe_non (pa_cons pe_int (pa_cons pe_str (pa_cons (pv 3) pa_nil))))))))))))))))
      (pss_cons (ps_set (i := 7) sc_law_bent.nd rfl (by first | exact Or.inl rfl | exact Or.inr rfl) (pe_op op_cat (pv 7) (pe_lst (pa_cons (pe_tup (pa_cons (pe_call (G_law_pick) (hr.mono (by omega)) (by rfl) T.D_law_pick.mg T.D_law_pick.fn.kp T.D_law_pick.bd .nil pass0 (pa_cons (pv 0) (pa_cons (pe_lst (pa_cons pe_str (pa_cons pe_str (pa_cons pe_str pa_nil)))) pa_nil))) (pa_cons (pv 5) pa_nil))) (pa_cons (pe_tup (pa_cons pe_str (pa_cons (pe_callTy call_list_of (by rfl) T.b_list bt_list (pa_cons (pv 5) pa_nil)) pa_nil))) (pa_cons (pe_tup (pa_cons pe_str (pa_cons (pe_tup (pa_cons (pv 3) (pa_cons (pv 4) pa_nil))) pa_nil))) (pa_cons (pe_tup (pa_cons pe_str (pa_cons (pv 3) pa_nil))) (pa_cons (pe_tup (pa_cons pe_str (pa_cons (pe_tup pa_nil) pa_nil))) (pa_cons (pe_tup (pa_cons pe_str (pa_cons (pe_tup (pa_cons (pv 1) pa_nil)) pa_nil))) (pa_cons (pe_tup (pa_cons pe_str (pa_cons (pe_lst (pa_cons (pv 1) (pa_cons (pv 1) pa_nil))) pa_nil))) (pa_cons (pe_tup (pa_cons pe_str (pa_cons (pv 1) pa_nil))) (pa_cons (pe_tup (pa_cons pe_str (pa_cons (pe_tup (pa_cons (pv 1) (pa_cons pe_non pa_nil))) pa_nil))) (pa_cons (pe_tup (pa_cons pe_str (pa_cons (pe_tup pa_nil) pa_nil))) pa_nil)))))))))))))
      (pss_cons (ps_set (i := 8) sc_law_bent.nd rfl (by first | exact Or.inl rfl | exact Or.inr rfl) (pv 1))
      (pss_cons (ps_for PassesOwn.never rfl (pi_range1 (by rfl) T.b_range (pa_cons (pe_call (G_law_pick) (hr.mono (by omega)) (by rfl) T.D_law_pick.mg T.D_law_pick.fn.kp T.D_law_pick.bd .nil pass0 (pa_cons (pv 0) (pa_cons (pe_lst (pa_cons pe_int (pa_cons pe_int (pa_cons pe_int (pa_cons pe_int pa_nil))))) pa_nil))) pa_nil)) (pg_name (i := 9) sc_law_bent.nd rfl (by first | exact Or.inl rfl | exact Or.inr rfl)) (pss_one (ps_set (i := 8) sc_law_bent.nd rfl (by first | exact Or.inl rfl | exact Or.inr rfl) (pe_ifExp (pt_cmpR op_eq (pe_call (G_law_draw) (hr.mono (by omega)) (by rfl) T.D_law_draw.mg T.D_law_draw.fn.kp T.D_law_draw.bd .nil pass0 (pa_cons (pv 0) (pa_cons pe_int pa_nil))) pe_int (nomark _)) (pe_tup (pa_cons pe_str (pa_cons (pe_tup (pa_cons (pv 8) (pa_cons (pe_tup (pa_cons pe_str (pa_cons (pv 3) pa_nil))) pa_nil))) pa_nil))) (pe_tup (pa_cons pe_str (pa_cons (pe_tup (pa_cons (pe_tup (pa_cons pe_str (pa_cons (pv 3) pa_nil))) (pa_cons (pv 8) pa_nil))) pa_nil)))))))
      (pss_cons (ps_set (i := 10) sc_law_bent.nd rfl (by first | exact Or.inl rfl | exact Or.inr rfl) (pe_tup (pa_cons pe_str (pa_cons (pe_op op_repT (pe_tup (pa_cons (pe_tup (pa_cons pe_str (pa_cons (pv 3) pa_nil))) pa_nil)) (pe_call (G_law_pick) (hr.mono (by omega)) (by rfl) T.D_law_pick.mg T.D_law_pick.fn.kp T.D_law_pick.bd .nil pass0 (pa_cons (pv 0) (pa_cons (pe_lst (pa_cons pe_int (pa_cons pe_int (pa_cons pe_int pa_nil)))) pa_nil)))) pa_nil))))
      (pss_one (ps_ret (pe_call (G_law_pick) (hr.mono (by omega)) (by rfl) T.D_law_pick.mg T.D_law_pick.fn.kp T.D_law_pick.bd .nil pass0 (pa_cons (pv 0) (pa_cons (pe_op op_cat (pv 7) (pe_lst (pa_cons (pv 8) (pa_cons (pv 8) (pa_cons (pv 10) (pa_cons (pe_tup (pa_cons pe_str (pa_cons (pe_tup (pa_cons (pv 10) (pa_cons (pv 1) pa_nil))) pa_nil))) (pa_cons (pe_tup (pa_cons pe_str (pa_cons (pe_tup (pa_cons (pv 1) (pa_cons (pv 1) pa_nil))) pa_nil))) (pa_cons (pv 1) pa_nil)))))))) pa_nil)))))))))))), ?_⟩
    have lns : (ns.map V.str).length = ns.length := List.length_map ..
    -- call, other
    refine ⟨_, rfl, _, rfl, p, c, cs, ns.map V.str, n, rfl, hP, .inr hs, by omega, by omega, by omega, fun i1 v1 H1 hv1 b1 P1 => ⟨_, rfl, _, 13, rfl, rfl, by decide, by decide, (by show 6 ≤ sizeLine; decide), fun l1 hl1 => ⟨p, c, l1, [V.str "A", .str "", .non, .int 5, .str "zz", .str (Txt.mul "z" (13 : Nat))], n + 1, rfl, P1.upd (P1.ne_p hl1) (P1.ne_c hl1), .inl (SqL.of upd_same), by decide, by decide, by omega, fun i2 v2 H2 hv2 b2 P2 => ⟨_, _, rfl, ?_⟩⟩⟩⟩
    obtain ⟨call, hcall, rfl⟩ := pick_str hv1
    have gcall := (hN call hcall).2
    obtain ⟨o, go, ho⟩ : ∃ o, gd o = true ∧ ∀ F H, Df K F H v2 o := by
      have hm := List.mem_of_getElem? hv2
      simp only [List.mem_cons, List.not_mem_nil, or_false] at hm
      rcases hm with rfl | rfl | rfl | rfl | rfl | rfl
      · exact ⟨_, by decide +kernel, fun F H => .str _⟩
      · exact ⟨_, by decide +kernel, fun F H => .str _⟩
      · exact ⟨_, by simp [gd], fun F H => .non⟩
      · exact ⟨_, by simp [gd], fun F H => .int _⟩
      · exact ⟨_, by decide +kernel, fun F H => .str _⟩
      · exact ⟨_, by decide +kernel, fun F H => .str _⟩
    have bb2 : But p H H2 := b1.trans ((But.of (Same.newA hl1)).trans b2)
    have hd2 := hP.dp bb2 hd
    have hs2 := hP.st bb2 hs
    clear hv1 hv2 b1 b2 P1 hl1 hd hs
    -- word
    refine ⟨_, rfl, (by show 5 ≤ sizeLine; decide), fun l3 hl3 => ⟨p, c, l3, ([0, 1, 2, 4, 5] : List Int).map V.int, n + 2, rfl, P2.upd (P2.ne_p hl3) (P2.ne_c hl3), .inl (SqL.of upd_same), by decide, by decide, by omega, fun i3 v3 H3 hv3 b3 P3 => ?_⟩⟩
    obtain ⟨many, hmany, rfl⟩ := ints_pick hv3
    have hm5 : 0 ≤ many ∧ many ≤ 5 := by
      simp only [List.mem_cons, List.not_mem_nil, or_false] at hmany
      omega
    replace b3 : But p H2 H3 := (But.of (Same.newA hl3)).trans b3
    have hd3 := P2.dp b3 hd2
    have hs3 := P2.st b3 hs2
    have bb3 := bb2.trans b3
    clear hv3 hl3 b3 hd2 hs2 bb2 P2 hmany
    refine ⟨many, rfl, by omega, by omega, fun D hD => lc_range (lo := 0) (n := many.toNat) (fun i H' => ∃ ms : List Str, H' D = some (.lst (ms.map V.str)) ∧ ms.length = i ∧ (∀ s ∈ ms, s ∈ ns) ∧ But p H3 H' ∧ Pen p c (n + 3 + i) H')
      ⟨[], upd_same, rfl, (fun s e => by cases e), .of (Same.newA hD), P3.upd (P3.ne_p hD) (P3.ne_c hD)⟩ ?_ ?_⟩
    · rintro i H' hi ⟨ms, e1, ml, hm, b7, P7⟩
      refine ⟨rfl, ?_⟩
      refine ⟨_, rfl, _, rfl, p, c, cs, ns.map V.str, n + 3 + i, rfl, P7, .inr (P3.st b7 hs3), by omega, by omega, by omega, fun j nv H8 hn b8 P8 => ?_⟩
      obtain ⟨nm, hnm, rfl⟩ := pick_str hn
      have e2 : H8 D = some (.lst (ms.map V.str)) := b8 _ _ (P3.ne_p hD) e1
      refine ⟨_, e2, lt5 (by rw [List.length_map]; omega), ms ++ [nm], ?_, by rw [List.length_append, ml]; rfl, fun s e => ?_, ?_, ?_⟩
      · rw [List.map_append]; exact upd_same
      · rcases List.mem_append.mp e with e | e
        · exact hm s e
        · rw [List.mem_singleton] at e; subst e; exact hnm
      · intro b u nb e
        rw [upd_ne (ne_of_none e hD)]
        exact b8 _ _ nb (b7 _ _ nb e)
      · exact (P8.more (by omega)).upd (P3.ne_p hD) (P3.ne_c hD)
    · rintro H' ⟨ms, e1, ml, hm, b7, P7⟩
      refine ⟨_, _, rfl, .inl ⟨SqL.of e1, fun wd hwd => ?_⟩⟩
      have s8 := Same.newA (o := .tup (ms.map V.str)) hwd
      have hword : Dp K (upd H' wd (.tup (ms.map V.str))) (.ref wd) (.tuple (ms.map .str)) := .tup (.of upd_same) (dps_strs ms)
      have gword : gd (.tuple (ms.map .str)) = true := gd_tup_of (fun y hy => by obtain ⟨s, hs, rfl⟩ := List.mem_map.mp hy; exact (hN s (hm s hs)).2) (by rw [List.length_map]; omega)
      have hd4 := dp_mono s8 (P3.dp b7 hd3)
      have hs4 := s8.stA (P3.st b7 hs3)
      have bb4 := (bb3.trans b7).trans (.of s8)
      have P4 := (P7.more (m := n + 10) (by omega)).same s8
      generalize upd H' wd (.tup (ms.map V.str)) = H4 at hword hd4 hs4 bb4 P4
      clear s8 P7 b7 e1 hd3 hs3 bb3 P3 hD hwd
      have C : EG K (tVar 3) [some (.ref p), some vd, some (.ref cs), some (.str call), some v2, some (.ref wd), none, none, none, none, none] (nn H4) H4 := eg_var rfl (.str _) gcall
      have O : EG K (tVar 4) [some (.ref p), some vd, some (.ref cs), some (.str call), some v2, some (.ref wd), none, none, none, none, none] (nn H4) H4 := eg_var rfl (ho _ _) go
      refine run_set_lst (ga_cons (eg_t2 eg_str O) (ga_cons (eg_t1 eg_str) (ga_cons (eg_t3 eg_str C C) (ga_cons (eg_l2 eg_str C) (ga_cons (eg_t3 eg_str C C) (ga_cons (eg_t2 eg_str C) (ga_cons (eg_t3 eg_str C O)
        (ga_cons (eg_t2 eg_str C) (ga_cons (eg_t1 C) (ga_cons (eg_tup ga_nil) (ga_cons eg_non (ga_cons eg_int (ga_cons eg_str (ga_cons C ga_nil)))))))))))))) (by decide) fun us7 ds7 l7 H7 s7 e7 hus7 n7 g7 => ?_
      clear C O
      have P7 := P4.same s7
      have hd7 := dp_mono s7 hd4
      have hword7 := dp_mono s7 hword
      have bb7 := bb4.trans (.of s7)
      replace hus7 := dfs_dps hus7
      clear s7 P4 hd4 hword bb4 hs4 H4
      -- some + [..]
      refine ⟨_, rfl, _, rfl, (by show 3 ≤ sizeLine; decide), fun lk hlk => ⟨p, c, lk, (["row", "steps", "never"] : List Str).map V.str, n + 10, rfl, P7.upd (P7.ne_p hlk) (P7.ne_c hlk), .inl (SqL.of upd_same), by decide, by decide, by omega, fun i6 kv H8 hk b8 P8 => ⟨_, rfl, (by show 2 ≤ sizeLine; decide), fun t9 ht9 => ?_⟩⟩⟩
      obtain ⟨kd, hkd, rfl⟩ := pick_str hk
      have gkd : gd (.str kd) = true := by
        simp only [List.mem_cons, List.not_mem_nil, or_false] at hkd
        rcases hkd with rfl | rfl | rfl <;> decide +kernel
      replace b8 : But p H7 H8 := (But.of (Same.newA hlk)).trans b8
      have s9 := Same.newA (o := .tup [.str kd, .ref wd]) ht9
      have b9 : But p H7 (upd H8 t9 (.tup [.str kd, .ref wd])) := b8.trans (.of s9)
      have P9 := P8.same s9
      have et9 : (upd H8 t9 (.tup [.str kd, .ref wd])) t9 = some (.tup [.str kd, .ref wd]) := upd_same
      have hd9 := P7.dp b9 hd7
      have hword9 := P7.dp b9 hword7
      have hus9 := P7.dps b9 hus7
      have e79 := b9 _ _ (P7.ne e7 (fun _ z => nomatch z)) e7
      have bb9 := bb7.trans b9
      generalize upd H8 t9 (.tup [.str kd, .ref wd]) = H9 at b9 P9 et9 hd9 hword9 hus9 e79 bb9
      clear b8 P8 s9 ht9 hk hlk P7 hd7 hword7 hus7 e7 bb7 b9 H7 H8
      have C : EG K (tVar 3) [some (.ref p), some vd, some (.ref cs), some (.str call), some v2, some (.ref wd), none, some (.ref l7), none, none, none] (nn H9) H9 := eg_var rfl (.str _) gcall
      have O : EG K (tVar 4) [some (.ref p), some vd, some (.ref cs), some (.str call), some v2, some (.ref wd), none, some (.ref l7), none, none, none] (nn H9) H9 := eg_var rfl (ho _ _) go
      have U : EG K (tVar 1) [some (.ref p), some vd, some (.ref cs), some (.str call), some v2, some (.ref wd), none, some (.ref l7), none, none, none] (nn H9) H9 := eg_var rfl (dp_df hd9) gdd
      have W : ED K (tVar 5) [some (.ref p), some vd, some (.ref cs), some (.str call), some v2, some (.ref wd), none, some (.ref l7), none, none, none] (nn H9) H9 (.tuple (ms.map .str)) := ed_var rfl (dp_df hword9)
      refine run_ga (ga_cons (eg_t2 eg_str (eg_listOf W gword)) (ga_cons (eg_t2 eg_str (eg_t2 C O)) (ga_cons (eg_t2 eg_str C) (ga_cons (eg_t2 eg_str (eg_tup ga_nil)) (ga_cons (eg_t2 eg_str (eg_t1 U))
        (ga_cons (eg_t2 eg_str (eg_l2 U U)) (ga_cons (eg_t2 eg_str U) (ga_cons (eg_t2 eg_str (eg_t2 U eg_non)) (ga_cons (eg_t2 eg_str (eg_tup ga_nil)) ga_nil))))))))) fun us8 ds8 H10 s10 hus8 n8 g8 => ?_
      clear C O U W
      have lu8 := dfs_len hus8
      have lu7 := dps_len hus9
      refine ⟨by show (us8.length + 1) ≤ sizeLine; exact small5 (by omega), fun l9 hl9 => ⟨l7, l9, us7, _, rfl, rfl, by rw [upd_ne (ne_of_none (s10 _ _ e79) hl9)]; exact s10 _ _ e79, upd_same, by show us7.length + (us8.length + 1) ≤ sizeLine; exact small5 (by omega), fun q hq => ?_⟩⟩
      have s11 : Same H10 (upd (upd H10 l9 (.lst (.ref t9 :: us8))) q (.lst (us7 ++ .ref t9 :: us8))) := (Same.newA hl9).trans (Same.newA hq)
      have eq11 : (upd (upd H10 l9 (.lst (.ref t9 :: us8))) q (.lst (us7 ++ .ref t9 :: us8))) q = some (.lst (us7 ++ .ref t9 :: us8)) := upd_same
      have s911 := s10.trans s11
      have hall := dps_app (dps_mono s911 hus9) (.cons (.tup (.of (s911 _ _ et9)) (.cons (.str kd) (.cons (dp_mono s911 hword9) .nil))) (dps_mono s11 (dfs_dps hus8)))
      have gall : ∀ x ∈ ds7 ++ .tuple [.str kd, .tuple (ms.map .str)] :: ds8, gd x = true := fun x hx => by
        rcases List.mem_append.mp hx with hx | hx
        · exact g7 x hx
        · rcases List.mem_cons.mp hx with rfl | hx
          · refine gd_tup_of (fun y hy => ?_) (Nat.le_of_ble_eq_true rfl)
            rcases List.mem_cons.mp hy with rfl | hy
            · exact gkd
            · rw [List.mem_singleton] at hy; subst hy; exact gword
          · exact g8 x hx
      have lall : (us7 ++ .ref t9 :: us8).length = 24 := by rw [List.length_append, List.length_cons]; omega
      have hd11 := dp_mono s911 hd9
      have bb11 := bb9.trans (.of s911)
      have P11 := P9.same s911
      generalize us7 ++ .ref t9 :: us8 = us at s11 eq11 s911 hall lall hd11 bb11 P11
      generalize ds7 ++ .tuple [.str kd, .tuple (ms.map .str)] :: ds8 = ds at hall gall
      generalize upd (upd H10 l9 (.lst (.ref t9 :: us8))) q (.lst us) = H11 at s11 eq11 s911 hall hd11 bb11 P11
      clear s11 s911 hq hl9 hus8 s10 lu7 lu8 P9 hd9 hword9 hus9 e79 et9 bb9 g7 g8 n7 n8 H10 H9
      -- deep
      refine ⟨_, rfl, ?_⟩
      refine ⟨_, rfl, (by show 4 ≤ sizeLine; decide), fun l12 hl12 => ⟨p, c, l12, ([2, 3, 4, 5] : List Int).map V.int, n + 11, rfl, P11.upd (P11.ne_p hl12) (P11.ne_c hl12), .inl (SqL.of upd_same), by decide, by decide, by omega, fun i12 kv H12 hk b12 P12 => ?_⟩⟩
      obtain ⟨laps, hlaps, rfl⟩ := ints_pick hk
      have hlp : 2 ≤ laps ∧ laps ≤ 5 := by
        simp only [List.mem_cons, List.not_mem_nil, or_false] at hlaps
        omega
      replace b12 : But p H11 H12 := (But.of (Same.newA hl12)).trans b12
      have hd12 := P11.dp b12 hd11
      have hall12 := P11.dps b12 hall
      have e12 := b12 _ _ (P11.ne eq11 (fun _ z => nomatch z)) eq11
      have bb12 := bb11.trans b12
      clear b12 hk hl12 P11 hd11 hall eq11 bb11 hlaps H11
      refine ⟨laps, rfl, by omega, by omega, for_range (n := laps.toNat) (fun i σ' H' => ∃ (vdp : V) (ddp : PyData) (o9 : Option V), σ' = [some (.ref p), some vd, some (.ref cs), some (.str call), some v2, some (.ref wd), none, some (.ref q), some vdp, o9, none] ∧ Dp K H' vdp ddp ∧ gd ddp = true ∧ But p H12 H' ∧ Pen p c (n + 12 + i) H')
        ⟨vd, d, none, rfl, hd12, gdd, .refl _ _, P12⟩ ?_ ?_⟩
      · rintro i σ' H' hi ⟨vdp, ddp, o9, rfl, hdp, gdp, b13, P13⟩
        refine ⟨_, rfl, p, c, 2, n + 12 + i, rfl, P13, by decide, by decide, by omega, fun d14 H14 _ _ b14 P14 => ⟨rfl, _, rfl, ite2 (fun _ => ?_) (fun _ => ?_)⟩⟩
        · have C : EG K (tVar 3) [some (.ref p), some vd, some (.ref cs), some (.str call), some v2, some (.ref wd), none, some (.ref q), some vdp, some (.int (0 + (i : Int))), none] (nn H14) H14 := eg_var rfl (.str _) gcall
          have U : EG K (tVar 8) [some (.ref p), some vd, some (.ref cs), some (.str call), some v2, some (.ref wd), none, some (.ref q), some vdp, some (.int (0 + (i : Int))), none] (nn H14) H14 := eg_var rfl (dp_df (P13.dp b14 hdp)) gdp
          exact run_eg (eg_t2 eg_str (eg_t2 U (eg_t2 eg_str C))) fun v dv H15 s15 hv g => ⟨v, dv, _, rfl, df_dp hv, g, (b13.trans b14).trans (.of s15), (P14.same s15).more (by omega)⟩
        · have C : EG K (tVar 3) [some (.ref p), some vd, some (.ref cs), some (.str call), some v2, some (.ref wd), none, some (.ref q), some vdp, some (.int (0 + (i : Int))), none] (nn H14) H14 := eg_var rfl (.str _) gcall
          have U : EG K (tVar 8) [some (.ref p), some vd, some (.ref cs), some (.str call), some v2, some (.ref wd), none, some (.ref q), some vdp, some (.int (0 + (i : Int))), none] (nn H14) H14 := eg_var rfl (dp_df (P13.dp b14 hdp)) gdp
          exact run_eg (eg_t2 eg_str (eg_t2 (eg_t2 eg_str C) U)) fun v dv H15 s15 hv g => ⟨v, dv, _, rfl, df_dp hv, g, (b13.trans b14).trans (.of s15), (P14.same s15).more (by omega)⟩
      · rintro σ' H' ⟨vdp, ddp, o9, rfl, hdp, gdp, b13, P13⟩
        replace P13 := P13.more (m := n + 20) (by omega)
        have hd13 := P12.dp b13 hd12
        have hall13 := P12.dps b13 hall12
        have e13 := b13 _ _ (P12.ne e12 (fun _ z => nomatch z)) e12
        have bb13 := bb12.trans b13
        clear b13 P12 hd12 hall12 e12 bb12 H12 hlp
        -- many
        refine ⟨_, rfl, (by show 2 ≤ sizeLine; decide), fun t1 ht1 => ⟨(by show 1 ≤ sizeLine; decide), fun t2 ht2 => ⟨_, rfl, (by show 3 ≤ sizeLine; decide), fun l14 hl14 => ⟨p, c, l14, ([3, 4, 5] : List Int).map V.int, n + 20, rfl, ?_, .inl (SqL.of upd_same), by decide, by decide, by omega, fun i14 kv H14 hk b14 P14 => ?_⟩⟩⟩⟩
        · have Pa := P13.upd (o := .tup [.str "call", .str call]) (P13.ne_p ht1) (P13.ne_c ht1)
          have Pb := Pa.upd (o := .tup [.ref t1]) (Pa.ne_p ht2) (Pa.ne_c ht2)
          exact Pb.upd (Pb.ne_p hl14) (Pb.ne_c hl14)
        obtain ⟨times, htimes, rfl⟩ := ints_pick hk
        have htm : 3 ≤ times ∧ times ≤ 5 := by
          simp only [List.mem_cons, List.not_mem_nil, or_false] at htimes
          omega
        have n12 : t1 ≠ t2 := ne_of_none upd_same ht2
        have s3 : Same H' (upd (upd (upd H' t1 (.tup [.str "call", .str call])) t2 (.tup [.ref t1])) l14 (.lst (([3, 4, 5] : List Int).map V.int))) := ((Same.newA ht1).trans (Same.newA ht2)).trans (Same.newA hl14)
        have b0 : But p H' H14 := (But.of s3).trans b14
        have et1 : H14 t1 = some (.tup [.str "call", .str call]) := b14 _ _ (P13.ne_p ht1) (by rw [upd_ne (ne_of_none (by rw [upd_ne n12]; exact upd_same) hl14), upd_ne n12]; exact upd_same)
        have et2 : H14 t2 = some (.tup [.ref t1]) := b14 _ _ (by
          have Pa := P13.upd (o := .tup [.str "call", .str call]) (P13.ne_p ht1) (P13.ne_c ht1)
          exact Pa.ne_p ht2) (by rw [upd_ne (ne_of_none upd_same hl14)]; exact upd_same)
        refine ⟨t2, times, [.ref t1], rfl, rfl, .of et2, (fun z => nomatch z), by omega, by omega, (by decide : 1 ≤ 1000), fun t3 ht3 => ⟨(by show 2 ≤ sizeLine; decide), fun t4 ht4 => ?_⟩⟩
        have n34 : t3 ≠ t4 := ne_of_none upd_same ht4
        have s16 : Same H14 (upd (upd H14 t3 (.tup (List.replicate times.toNat [V.ref t1]).flatten)) t4 (.tup [.str "all", .ref t3])) := (Same.newA ht3).trans (Same.newA ht4)
        have hpair : ∀ H2, Same H14 H2 → DpAll K H2 [.ref t1] [.tuple [.str "call", .str call]] := fun H2 s2 => .cons (.tup (.of (s2 _ _ et1)) (.cons (.str _) (.cons (.str _) .nil))) .nil
        have hmany : Dp K (upd (upd H14 t3 (.tup (List.replicate times.toNat [V.ref t1]).flatten)) t4 (.tup [.str "all", .ref t3])) (.ref t4) (.tuple [.str "all", .tuple (List.replicate times.toNat [PyData.tuple [.str "call", .str call]]).flatten]) :=
          .tup (.of upd_same) (.cons (.str _) (.cons (.tup (.of (by rw [upd_ne n34]; exact upd_same)) (dps_rep (hpair _ s16) _)) .nil))
        have gmany : gd (.tuple [.str "all", .tuple (List.replicate times.toNat [PyData.tuple [.str "call", .str call]]).flatten]) = true := by
          refine gd_tup_of (fun y hy => ?_) (Nat.le_of_ble_eq_true rfl)
          rcases List.mem_cons.mp hy with rfl | hy
          · decide +kernel
          · rw [List.mem_singleton] at hy; subst hy
            refine gd_tup_of (fun z hz => ?_) ?_
            · obtain ⟨l, hl, hz⟩ := List.mem_flatten.mp hz
              have := (List.mem_replicate.mp hl).2
              subst this
              rw [List.mem_singleton] at hz; subst hz
              refine gd_tup_of (fun y hy => ?_) (Nat.le_of_ble_eq_true rfl)
              rcases List.mem_cons.mp hy with rfl | hy
              · decide +kernel
              · rw [List.mem_singleton] at hy; subst hy; exact gcall
            · simp; omega
        have P16 := P14.same s16
        have b016 := b0.trans (.of s16)
        have hd16 := P13.dp b016 hd13
        have hall16 := P13.dps b016 hall13
        have hdp16 := P13.dp b016 hdp
        have e16 := b016 _ _ (P13.ne e13 (fun _ z => nomatch z)) e13
        have bb16 := bb13.trans b016
        generalize upd (upd H14 t3 (.tup (List.replicate times.toNat [V.ref t1]).flatten)) t4 (.tup [.str "all", .ref t3]) = H16 at s16 hmany P16 b016 hd16 hall16 hdp16 e16 bb16
        generalize PyData.tuple [.str "all", .tuple (List.replicate times.toNat [PyData.tuple [.str "call", .str call]]).flatten] = dm at hmany gmany
        clear s16 hpair n34 ht4 ht3 et2 et1 b0 s3 n12 b14 hl14 ht2 ht1 hk hd13 hall13 hdp e13 bb13 P13 b016 P14
        have U : EG K (tVar 1) [some (.ref p), some vd, some (.ref cs), some (.str call), some v2, some (.ref wd), none, some (.ref q), some vdp, o9, some (.ref t4)] (nn H16) H16 := eg_var rfl (dp_df hd16) gdd
        have D8 : EG K (tVar 8) [some (.ref p), some vd, some (.ref cs), some (.str call), some v2, some (.ref wd), none, some (.ref q), some vdp, o9, some (.ref t4)] (nn H16) H16 := eg_var rfl (dp_df hdp16) gdp
        have M : EG K (tVar 10) [some (.ref p), some vd, some (.ref cs), some (.str call), some v2, some (.ref wd), none, some (.ref q), some vdp, o9, some (.ref t4)] (nn H16) H16 := eg_var rfl (dp_df hmany) gmany
        refine ⟨_, rfl, _, rfl, run_ga (ga_cons D8 (ga_cons D8 (ga_cons M (ga_cons (eg_t2 eg_str (eg_t2 M U)) (ga_cons (eg_t2 eg_str (eg_t2 U U)) (ga_cons U ga_nil)))))) fun us17 ds17 H17 s17 hus17 n17 g17 => ?_⟩
        have lu17 := dfs_len hus17
        refine ⟨small5 (by omega), fun l18 hl18 => ⟨q, l18, us, us17, rfl, rfl, by rw [upd_ne (ne_of_none (s17 _ _ e16) hl18)]; exact s17 _ _ e16, upd_same, small5 (by omega), fun l19 hl19 => ?_⟩⟩
        have s19 : Same H17 (upd (upd H17 l18 (.lst us17)) l19 (.lst (us ++ us17))) := (Same.newA hl18).trans (Same.newA hl19)
        have s169 := s17.trans s19
        have hfin := dps_app (dps_mono s169 hall16) (dps_mono s19 (dfs_dps hus17))
        have P19 := P16.same s169
        refine ⟨p, c, l19, us ++ us17, n + 21, rfl, P19, .inl (SqL.of upd_same), by rw [List.length_append]; omega, by rw [List.length_append]; omega, by omega, fun i v H20 hv b20 P20 => ?_⟩
        obtain ⟨dv, hdv, hv⟩ := dps_get' hfin hv
        refine k v dv H20 (P19.dp b20 hv) ?_ (bb16.trans ((But.of s169).trans b20)) (P20.more (by omega))
        rcases List.mem_append.mp (List.mem_of_getElem? hdv) with h | h
        · exact gall _ h
        · exact g17 _ h
end
end Ag

set_option Elab.async false
set_option linter.all false
set_option maxRecDepth 100000
set_option maxHeartbeats 1000000
namespace Ag
open PySem PySem.Spec PyProof.Rows L2
def spSame (K : PySem.W.Frag) : Sp := fun vs H Q E => spSame0 K vs H Q E ∨ spSame1 K vs H Q E
theorem rdc_same {K : PySem.W.Frag} {E : XK} {b : Bool} : RDC K (fun vs H Q => spSame K vs H Q E) [.bool b, .bool b] (.bool true) := fun F vs H1 hv Q q => by
  cases hv with
  | cons x r =>
    cases r with
    | cons y r =>
      cases r
      exact .inl ⟨_, _, .bool b, rfl, df_dp x, df_dp y, rfl, fun H' s => q _ H' s (.bl _)⟩
def spLaw (K : PySem.W.Frag) : Sp := fun vs H Q _ => ∃ (a : Addr) (ns : List Int), vs = [.ref a] ∧ SqL K H a (ns.map V.int) ∧ ns.length ≤ 63 ∧ ∀ H', Q (.bl true) H'
section
variable {P : Program} {w : World} {K : PySem.W.Frag} {mg : Str → Option Value} {base : Heap} (T : Txt w K mg)
theorem ok_law_same : FnOk P w K mg base CX0 3 T.a_law_same T.d_law_same ["told", "due"] (spSame K) := by
  have F := (ok_law_same0 (P := P) (base := base) T).mono (by decide : 2 ≤ 3)
  have G := ok_law_same1 (P := P) (base := base) T
  exact ⟨fun vs H Q E h => h.elim (F.len vs H Q E) (G.len vs H Q E), fun A outer s H args us vs Q E hr he hb hv hs => hs.elim (F.run A outer s H args us vs Q E hr he hb hv) (G.run A outer s H args us vs Q E hr he hb hv)⟩
theorem ok_law : FnOk P w K mg base CX0 8 T.a_law T.d_law ["script"] (spLaw K) := by
  have G_law_pen := ok_law_pen (P := P) (base := base) T
  have G_law_calls := ok_calls (P := P) (base := base) T
  have G_law_draw := ok_draw (P := P) (base := base) T
  have G_law_some_duty := ok_law_some_duty (P := P) (base := base) T 3
  have G_law_plain_ones := ok_law_plain_ones (P := P) (base := base) T 4
  have G_law_plain_names := ok_law_plain_names (P := P) (base := base) T
  have G_is_duty := ok_is_duty (P := P) (base := base) T
  have G_law_same := ok_law_same (P := P) (base := base) T
  have G_duty_names := ok_duty_names (P := P) (base := base) T
  have G_law_bent := ok_law_bent (P := P) (base := base) T
  have G_law_plain_many := ok_law_plain_many (P := P) (base := base) T 4
  refine T.D_law.fn.ok sc_law (fun vs H Q E h => ?_) (fun cdv A outer s H vs Q E hr h => ?_)
  · obtain ⟨a, ns, rfl, _⟩ := h; rfl
  · obtain ⟨a, zs, rfl, hs, hl, k⟩ := h
    refine ⟨_, (pss_cons (ps_set (i := 1) sc_law.nd rfl (by first | exact Or.inl rfl | exact Or.inr rfl) (pe_call (G_law_pen) (hr.mono (by omega)) (by rfl) T.D_law_pen.mg T.D_law_pen.fn.kp T.D_law_pen.bd .nil pass0 (pa_cons (pv 0) pa_nil)))
      (pss_cons (ps_for PassesOwn.never rfl (pi_range1 (by rfl) T.b_range (pa_cons pe_int pa_nil)) (pg_name (i := 2) sc_law.nd rfl (by first | exact Or.inl rfl | exact Or.inr rfl)) (pss_cons (ps_set (i := 3) sc_law.nd rfl (by first | exact Or.inl rfl | exact Or.inr rfl) (pe_call (G_law_calls) (hr.mono (by omega)) (by rfl) T.D_law_calls.mg T.D_law_calls.fn.kp T.D_law_calls.bd .nil pass0 (pa_cons (pv 1) (pa_cons (pe_op op_add pe_int (pe_call (G_law_draw) (hr.mono (by omega)) (by rfl) T.D_law_draw.mg T.D_law_draw.fn.kp T.D_law_draw.bd .nil pass0 (pa_cons (pv 1) (pa_cons pe_int pa_nil)))) pa_nil))))
      (pss_cons (ps_set (i := 4) sc_law.nd rfl (by first | exact Or.inl rfl | exact Or.inr rfl) (pe_call (G_law_some_duty) (hr.mono (by omega)) (by rfl) T.D_law_some_duty.mg T.D_law_some_duty.fn.kp T.D_law_some_duty.bd .nil pass0 (pa_cons (pv 1) (pa_cons (pv 3) (pa_cons (pe_op op_add pe_int (pe_call (G_law_draw) (hr.mono (by omega)) (by rfl) T.D_law_draw.mg T.D_law_draw.fn.kp T.D_law_draw.bd .nil pass0 (pa_cons (pv 1) (pa_cons pe_int pa_nil)))) (pa_cons pe_int pa_nil))))))
      (pss_cons (ps_set (i := 5) sc_law.nd rfl (by first | exact Or.inl rfl | exact Or.inr rfl) (pe_lst pa_nil))
      (pss_cons (ps_for PassesOwn.never rfl (pi_list (pe_call (G_law_plain_ones) (hr.mono (by omega)) (by rfl) T.D_law_plain_ones.mg T.D_law_plain_ones.fn.kp T.D_law_plain_ones.bd .nil pass0 (pa_cons (pv 4) pa_nil))) (pg_name (i := 6) sc_law.nd rfl (by first | exact Or.inl rfl | exact Or.inr rfl)) (pss_one (ps_set (i := 5) sc_law.nd rfl (by first | exact Or.inl rfl | exact Or.inr rfl) (pe_op op_cat (pv 5) (pe_call (G_law_plain_names) (hr.mono (by omega)) (by rfl) T.D_law_plain_names.mg T.D_law_plain_names.fn.kp T.D_law_plain_names.bd .nil pass0 (pa_cons (pv 6) pa_nil))))))
      (pss_cons (ps_if (PW.pt (pw_or (pt_cmpR op_isnotB (pe_call (G_is_duty) (hr.mono (by omega)) (by rfl) T.D_is_duty.mg T.D_is_duty.fn.kp T.D_is_duty.bd .nil pass0 (pa_cons (pv 4) pa_nil)) pe_bl (nomark _)) (pw_or1 (pt_not (pt_val (pe_call (G_law_same) (hr.mono (by omega)) (by rfl) T.D_law_same.mg T.D_law_same.fn.kp T.D_law_same.bd .nil pass0 (pa_cons (pe_call (G_duty_names) (hr.mono (by omega)) (by rfl) T.D_duty_names.mg T.D_duty_names.fn.kp T.D_duty_names.bd .nil pass0 (pa_cons (pv 4) pa_nil)) (pa_cons (pe_callTy call_tuple_of (by rfl) T.b_tuple bt_tuple (pa_cons (pe_callB (cr_sortSetS rfl) (by rfl) T.b_sorted bt_sorted (pa_cons (pe_callTy (cr_setS rfl) (by rfl) T.b_set bt_set (pa_cons (pv 5) pa_nil)) pa_nil)) pa_nil)) pa_nil)))))))) (pss_one (ps_ret pe_bl)) pss_nil)
      (pss_one (ps_for PassesOwn.never rfl (pi_range1 (by rfl) T.b_range (pa_cons pe_int pa_nil)) (pg_name (i := 7) sc_law.nd rfl (by first | exact Or.inl rfl | exact Or.inr rfl)) (pss_cons (ps_set (i := 8) sc_law.nd rfl (by first | exact Or.inl rfl | exact Or.inr rfl) (pe_call (G_law_bent) (hr.mono (by omega)) (by rfl) T.D_law_bent.mg T.D_law_bent.fn.kp T.D_law_bent.bd .nil pass0 (pa_cons (pv 1) (pa_cons (pv 4) (pa_cons (pv 3) pa_nil)))))
      (pss_cons (ps_if (pt_not (pt_val (pe_call (G_law_same) (hr.mono (by omega)) (by rfl) T.D_law_same.mg T.D_law_same.fn.kp T.D_law_same.bd .nil pass0 (pa_cons (pe_call (G_is_duty) (hr.mono (by omega)) (by rfl) T.D_is_duty.mg T.D_is_duty.fn.kp T.D_is_duty.bd .nil pass0 (pa_cons (pv 8) pa_nil)) (pa_cons (pe_cmpR op_le (pe_call (G_law_plain_many) (hr.mono (by omega)) (by rfl) T.D_law_plain_many.mg T.D_law_plain_many.fn.kp T.D_law_plain_many.bd .nil pass0 (pa_cons (pv 8) (pa_cons pe_int pa_nil))) pe_int (nomark _)) pa_nil))))) (pss_one (ps_ret pe_bl)) pss_nil)
      (pss_cons (ps_set (i := 8) sc_law.nd rfl (by first | exact Or.inl rfl | exact Or.inr rfl) (pe_tup (pa_cons pe_str (pa_cons (pe_tup (pa_cons (pv 8) (pa_cons (pe_call (G_law_bent) (hr.mono (by omega)) (by rfl) T.D_law_bent.mg T.D_law_bent.fn.kp T.D_law_bent.bd .nil pass0 (pa_cons (pv 1) (pa_cons (pv 4) (pa_cons (pv 3) pa_nil)))) pa_nil))) pa_nil))))
      (pss_one (ps_if (pt_not (pt_val (pe_call (G_law_same) (hr.mono (by omega)) (by rfl) T.D_law_same.mg T.D_law_same.fn.kp T.D_law_same.bd .nil pass0 (pa_cons (pe_call (G_is_duty) (hr.mono (by omega)) (by rfl) T.D_is_duty.mg T.D_is_duty.fn.kp T.D_is_duty.bd .nil pass0 (pa_cons (pv 8) pa_nil)) (pa_cons (pe_cmpR op_le (pe_call (G_law_plain_many) (hr.mono (by omega)) (by rfl) T.D_law_plain_many.mg T.D_law_plain_many.fn.kp T.D_law_plain_many.bd .nil pass0 (pa_cons (pv 8) (pa_cons pe_int pa_nil))) pe_int (nomark _)) pa_nil))))) (pss_one (ps_ret pe_bl)) pss_nil)))))))))))))
      (pss_one (ps_ret pe_bl)))), ?_⟩
    refine ⟨_, rfl, a, zs, rfl, hs, hl, fun p c H1 _ P1 => ?_⟩
    refine ⟨5, rfl, by decide, by decide, for_range (n := 5) (fun i σ' H' => ∃ (o2 o3 o4 o5 o6 o7 o8 : Option V), σ' = [some (.ref a), some (.ref p), o2, o3, o4, o5, o6, o7, o8] ∧ Pen p c (10000 * i) H') ⟨none, none, none, none, none, none, none, rfl, P1⟩ ?_ ?_⟩
    · rintro i σ' H' hi ⟨o2, o3, o4, o5, o6, o7, o8, rfl, P2⟩
      refine ⟨_, rfl, _, rfl, p, c, 4, 10000 * i, rfl, P2, by decide, by decide, by omega, fun d H3 d0 d1 _ P3 => ⟨_, _, rfl, rfl, ?_⟩⟩
      obtain ⟨e, rfl⟩ : ∃ e : Nat, d = e := ⟨d.toNat, by omega⟩
      refine ⟨p, c, e + 1, 10000 * i + 1, ?_, P3, by omega, by omega, fun cs ns H4 hn _ ecs _ P4 => ?_⟩
      · show [V.ref p, V.int (1 + (e : Int))] ++ [] = _
        rw [show (1 : Int) + (e : Int) = ((e + 1 : Nat) : Int) by omega]; rfl
      have good := good_names hn (by omega) (by omega)
      clear hn P3 P2 hs P1
      refine ⟨_, rfl, _, rfl, _, rfl, p, c, 4, _, rfl, P4, by decide, by decide, by omega, fun d2 H5 d0' d1' b5 P5 => ⟨_, _, rfl, rfl, ?_⟩⟩
      obtain ⟨e2, rfl⟩ : ∃ e2 : Nat, d2 = e2 := ⟨d2.toNat, by omega⟩
      have st5 : SqT K H5 cs (ns.map V.str) := P4.st b5 (.of ecs)
      have c3 : Cst 3 = 2700 := rfl
      refine ⟨p, c, cs, ns, _, e2 + 1, ?_, P5, st5, good, by omega, by omega, by omega, fun vd d H6 hd gdd hpm b6 P6 => ?_⟩
      · show [V.ref p, V.ref cs, V.int (1 + (e2 : Int)), V.int 3] ++ [] = _
        rw [show (1 : Int) + (e2 : Int) = ((e2 + 1 : Nat) : Int) by omega]; rfl
      have st6 := P5.st b6 st5
      have pm4 : pm 4 d ≤ 4 := by have := hpm 4 (by decide); omega
      replace P6 := P6.more (m := 10000 * i + 5000) (by omega)
      clear hpm b6 st5 P5 b5 P4 ecs d0 d1 d0' d1'
      -- names
      refine ⟨(by show 0 ≤ sizeLine; decide), fun q0 hq0 => ?_⟩
      have s7 := Same.newA (o := .lst []) hq0
      have eq7 : (upd H6 q0 (.lst [])) q0 = some (.lst []) := upd_same
      have hd7 := dp_mono s7 hd
      have st7 := s7.stA st6
      have P7 := P6.same s7
      generalize upd H6 q0 (.lst []) = H7 at s7 eq7 hd7 st7 P7
      clear s7 hq0 P6 st6 hd H6
      refine ⟨_, rfl, vd, d, nn H7, rfl, dp_df hd7, ⟨gdd, pm4⟩, fun lo us H8 s8 _ elo hus => ⟨_, rfl, ⟨_, SqL.of elo⟩, for_list (K := K) (a := lo) (xs := us) (fun j σ' H' => ∃ (q : Addr) (o6 : Option V), σ' = [some (.ref a), some (.ref p), some (.int (0 + (i : Int))), some (.ref cs), some vd, some (.ref q), o6, o7, o8] ∧ Same H8 H' ∧ H' q = some (.lst ((((ones 4 d).take j).flatMap nmsOf).map V.str)))
        ⟨q0, o6, rfl, Same.refl _, by simp; exact s8 _ _ eq7⟩ (fun j σ' H' _ ⟨_, _, _, s, _⟩ => SqL.of (s _ _ elo)) ?_ ?_⟩⟩
      · rintro j x σ' H' hx ⟨q, o6, rfl, s9, eq9⟩
        obtain ⟨f, hf, hfx⟩ := dfs_get' hus hx
        have hpl := ones_plain 4 d gdd pm4 f (List.mem_of_getElem? hf)
        have tk : (ones 4 d).take (j + 1) = (ones 4 d).take j ++ [f] := by rw [List.take_succ, hf]; rfl
        refine ⟨_, rfl, _, rfl, x, f, _, rfl, df_mono s9 (fun _ z => z) hfx, hpl, fun l2 us2 H10 s10 _ e10 hus2 => ?_⟩
        have eus := strs_dps (dfs_dps hus2)
        subst eus
        have lol := ones_len 4 d pm4
        have b1 : (((ones 4 d).take j).flatMap nmsOf).length ≤ 16 := by
          have := pnms_len ((ones 4 d).take j) fun g hg => ones_plain 4 d gdd pm4 g (List.mem_of_mem_take hg)
          rw [List.length_take] at this
          omega
        have b2 : (nmsOf f).length ≤ 4 := by
          obtain ⟨_, s, x, r, rfl, hp, _⟩ := hpl
          exact (plain_names hp).1
        refine ⟨q, l2, _, _, rfl, rfl, s10 _ _ eq9, e10, by rw [List.length_map, List.length_map]; exact small5 (by omega), fun r hr => ⟨r, some x, rfl, (s9.trans s10).trans (Same.newA hr), ?_⟩⟩
        rw [tk, List.flatMap_append, List.flatMap_singleton, List.map_append]
        exact upd_same
      · rintro σ' H' ⟨q, o6, rfl, s9, eq9⟩
        rw [dfs_len hus, List.take_length] at eq9
        have s79 := s8.trans s9
        have hd9 := dp_mono s79 hd7
        have st9 := s79.stA st7
        have P9 := P7.same s79
        clear elo hus s9 eq7 hd7 st7 P7 s79 s8
        have lol := ones_len 4 d pm4
        have bn : ((ones 4 d).flatMap nmsOf).length ≤ 16 := by
          have := pnms_len (ones 4 d) fun g hg => ones_plain 4 d gdd pm4 g hg
          omega
        have dvar : ∀ H1, Same H' H1 → ED K (tVar 4) [some (.ref a), some (.ref p), some (.int (0 + (i : Int))), some (.ref cs), some vd, some (.ref q), o6, o7, o8] (nn H') H1 d := fun H1 s1 => ed_var rfl (df_mono s1 (fun _ z => z) (dp_df hd9))
        have hduty : isDuty d = true := decide_eq_true pm4
        refine s_if (b := false) (et_or (b := false) (et_is (et_test (ed_isnotB (b := true) (ed_call (ea_cons (dvar H' (Same.refl _)) ea_nil) (rdc_spB (pre := fun d => gd d = true) (f := isDuty) gdd)))) (by rw [hduty])) fun _ H1 s1 Q1 q1 => ?_) (fun h => nomatch h) fun _ H1 s1 => ?_
        · refine ⟨_, rfl, vd, d, nn H1, rfl, dp_df (dp_mono s1 hd9), ⟨gdd, pm4⟩, fun l ys H2 s2 sy nd mem el => ⟨_, rfl, q, (ones 4 d).flatMap nmsOf, rfl, SqL.of (s2 _ _ (s1 _ _ eq9)), by omega, fun p1 hp1 => ⟨p1, _, rfl, upd_same, fun zs q3 sz ndz memz hq3 => ⟨_, _, rfl, .inl ⟨SqL.of upd_same, fun r hr => ?_⟩⟩⟩⟩⟩
          have e : ys = zs := sorted_uniq sy sz nd ndz fun k => by
            rw [mem, memz, List.mem_flatMap, List.mem_flatMap]
            constructor
            · rintro ⟨f, h1, h2⟩; exact ⟨f, (ones_mem 4 d f).mp h1, h2⟩
            · rintro ⟨f, h1, h2⟩; exact ⟨f, (ones_mem 4 d f).mpr h1, h2⟩
          subst e
          have s3 := ((Same.newA (o := StrSet P w p1 ((ones 4 d).flatMap nmsOf)) hp1).trans (Same.newA (o := .lst (ys.map V.str)) hq3)).trans (Same.newA (o := .tup (ys.map V.str)) hr)
          have ly : ys.length ≤ 16 := by
            have := List.Nodup.length_le_of_subset nd (l₂ := (ones 4 d).flatMap nmsOf) fun k hk => (memz k).mp hk
            omega
          refine .inr ⟨_, _, ys.map .str, rfl, .tup (.of (s3 _ _ el)) (dps_strs ys), .tup (.of upd_same) (dps_strs ys), by rw [List.length_map]; omega, fun d hd => ?_, fun H4 s4 => ⟨true, rfl, ?_⟩⟩
          · obtain ⟨s, _, rfl⟩ := List.mem_map.mp hd; rfl
          · exact q1 H4 ((s2.trans s3).trans s4)
        · have hd1 := dp_mono s1 hd9
          have st1 := s1.stA st9
          have P10 := P9.same s1
          clear dvar hd9 st9 P9 eq9 s1 H' bn lol hduty
          refine ⟨6, rfl, by decide, by decide, for_range (n := 6) (fun j σ' H' => ∃ (o5 o6 o7 o8 : Option V), σ' = [some (.ref a), some (.ref p), some (.int (0 + (i : Int))), some (.ref cs), some vd, o5, o6, o7, o8] ∧ Dp K H' vd d ∧ SqT K H' cs (ns.map V.str) ∧ Pen p c (10000 * i + 5000 + 200 * j) H')
            ⟨_, _, _, _, rfl, hd1, st1, P10⟩ ?_ ?_⟩
          · rintro j σ' H' hj ⟨o5, o6, o7, o8, rfl, hd, st, PP⟩
            refine ⟨_, rfl, _, rfl, _, rfl, p, c, cs, vd, d, ns, _, rfl, PP, hd, gdd, st, good, by omega, fun v dv H2 hv gv b2 P2 => ?_⟩
            have hd2 := PP.dp b2 hd
            have st2 := PP.st b2 st
            have vvar : ED K (tVar 8) [some (.ref a), some (.ref p), some (.int (0 + (i : Int))), some (.ref cs), some vd, o5, o6, some (.int (0 + (j : Int))), some v] (nn H2) H2 dv := ed_var rfl (dp_df hv)
            refine s_if (b := false) (et_is (et_not (a := true) (et_B (ed_call (ea_cons (ed_call (ea_cons vvar ea_nil) (rdc_spB (pre := fun d => gd d = true) (f := isDuty) gv)) (ea_cons (ed_le (ed_call (ea_cons vvar (ea_cons (ed_int (i := 0)) ea_nil)) (rdc_pm (k := 4) gv (by decide) (by decide))) (ed_int (i := 4))) ea_nil)) (rdc_same (b := isDuty dv))))) rfl) (fun h => nomatch h) fun _ H3 s3 => ?_
            have hd3 := dp_mono s3 hd2
            have st3 := s3.stA st2
            have hv3 := dp_mono s3 hv
            have P3 := P2.same s3
            clear vvar hd2 st2 hv P2 b2 s3 PP hd st H2
            refine ⟨_, rfl, _, rfl, _, rfl, _, rfl, p, c, cs, vd, d, ns, _, rfl, P3, hd3, gdd, st3, good, by omega, fun u du H4 hu gu b4 P4 => ⟨(by show 2 ≤ sizeLine; decide), fun t1 ht1 => ⟨(by show 2 ≤ sizeLine; decide), fun t2 ht2 => ?_⟩⟩⟩
            have n12 : t1 ≠ t2 := ne_of_none upd_same ht2
            have s5 : Same H4 (upd (upd H4 t1 (.tup [v, u])) t2 (.tup [.str "any", .ref t1])) := (Same.newA ht1).trans (Same.newA ht2)
            have hval : Dp K (upd (upd H4 t1 (.tup [v, u])) t2 (.tup [.str "any", .ref t1])) (.ref t2) (.tuple [.str "any", .tuple [dv, du]]) := .tup (.of upd_same) (.cons (.str _) (.cons (.tup (.of (by rw [upd_ne n12]; exact upd_same)) (.cons (dp_mono s5 (P3.dp b4 hv3)) (.cons (dp_mono s5 hu) .nil))) .nil))
            have gval : gd (.tuple [.str "any", .tuple [dv, du]]) = true := by
              refine gd_tup_of (fun y hy => ?_) (Nat.le_of_ble_eq_true rfl)
              rcases List.mem_cons.mp hy with rfl | hy
              · decide +kernel
              · rw [List.mem_singleton] at hy; subst hy
                refine gd_tup_of (fun y hy => ?_) (Nat.le_of_ble_eq_true rfl)
                rcases List.mem_cons.mp hy with rfl | hy
                · exact gv
                · rw [List.mem_singleton] at hy; subst hy; exact gu
            have hd5 := dp_mono s5 (P3.dp b4 hd3)
            have st5 := s5.stA (P3.st b4 st3)
            have P5 := P4.same s5
            generalize upd (upd H4 t1 (.tup [v, u])) t2 (.tup [.str "any", .ref t1]) = H5 at s5 hval hd5 st5 P5
            generalize PyData.tuple [.str "any", .tuple [dv, du]] = dw at hval gval
            have vvar : ED K (tVar 8) [some (.ref a), some (.ref p), some (.int (0 + (i : Int))), some (.ref cs), some vd, o5, o6, some (.int (0 + (j : Int))), some (.ref t2)] (nn H5) H5 dw := ed_var rfl (dp_df hval)
            refine s_if (b := false) (et_is (et_not (a := true) (et_B (ed_call (ea_cons (ed_call (ea_cons vvar ea_nil) (rdc_spB (pre := fun d => gd d = true) (f := isDuty) gval)) (ea_cons (ed_le (ed_call (ea_cons vvar (ea_cons (ed_int (i := 0)) ea_nil)) (rdc_pm (k := 4) gval (by decide) (by decide))) (ed_int (i := 4))) ea_nil)) (rdc_same (b := isDuty dw))))) rfl) (fun h => nomatch h) fun _ H6 s6 => ?_
            exact ⟨_, _, _, _, rfl, dp_mono s6 hd5, s6.stA st5, (P5.same s6).more (by omega)⟩
          · rintro σ' H' ⟨o5, o6, o7, o8, rfl, hd, st, PP⟩
            exact ⟨_, _, _, _, _, _, _, rfl, PP.more (by omega)⟩
    · rintro σ' H' ⟨o2, o3, o4, o5, o6, o7, o8, rfl, P2⟩
      exact k H'
end
end Ag

set_option Elab.async false
set_option linter.all false
set_option maxRecDepth 100000
set_option maxHeartbeats 1000000
namespace Ag
open PySem PySem.Spec PyProof.Rows L2
/-! ### a table with text keys, as written -/
def TabOf : List DictEntry → List (Str × Int) → Prop
  | [], [] => True
  | e :: r, q :: s => (∃ t u, e.key = .str q.1 t ∧ e.val = .int q.2 u) ∧ TabOf r s
  | _, _ => False
theorem tab_find : ∀ {es : List DictEntry} {kvs : List (Str × Int)} (z : Str), TabOf es kvs → es.any (·.refKey) = false ∧ ((∃ i e u, (z, i) ∈ kvs ∧ (∀ j, kvs.lookup z = some j → j = i) ∧ es.find? (·.key.isStr z) = some e ∧ e.val = .int i u) ∨ (z ∉ kvs.map (·.1) ∧ es.find? (·.key.isStr z) = none))
  | [], [], z, _ => ⟨rfl, .inr ⟨by simp, rfl⟩⟩
  | e :: r, q :: s, z, ⟨⟨t, u, h1, h2⟩, h⟩ => by
    obtain ⟨a, b⟩ := tab_find z h
    have hr : e.refKey = false := by unfold DictEntry.refKey; rw [h1]
    refine ⟨by rw [List.any_cons, hr, a]; rfl, ?_⟩
    have hs : e.key.isStr z = (q.1 == z) := by rw [h1]; rfl
    by_cases hz : q.1 = z
    · refine .inl ⟨q.2, e, u, ?_, fun j hj => ?_, ?_, h2⟩
      · rw [← hz]; exact List.mem_cons_self
      · obtain ⟨q1, q2⟩ := q
        simp only at hz; subst hz
        simp at hj; exact hj.symm
      · rw [List.find?_cons, hs, beq_iff_eq.mpr hz]
    · have hf : (q.1 == z) = false := beq_eq_false_iff_ne.mpr hz
      have hf2 : (z == q.1) = false := beq_eq_false_iff_ne.mpr fun w => hz w.symm
      rcases b with ⟨i, e2, u2, m, l, f, v⟩ | ⟨m, f⟩
      · refine .inl ⟨i, e2, u2, List.mem_cons_of_mem _ m, fun j hj => l j ?_, ?_, v⟩
        · obtain ⟨q1, q2⟩ := q
          simp only at hf2
          rw [List.lookup_cons, hf2] at hj; exact hj
        · rw [List.find?_cons, hs, hf]; exact f
      · refine .inr ⟨?_, ?_⟩
        · rw [List.map_cons, List.mem_cons]; rintro (w | w)
          · exact hz w.symm
          · exact m w
        · rw [List.find?_cons, hs, hf]; exact f
section
variable {w : World} {K : PySem.W.Frag} {a : Addr} {es : Array DictEntry} {n : Nat} {kvs : List (Str × Int)}
theorem tab_in (l : K.lookup a = some ⟨.type "dict", none, .dict es n, #[]⟩) (t : TabOf es.toList kvs) (z : Str) : ∃ r, PySem.W.nsIn K a z = some r ∧ r.isSome = decide (z ∈ kvs.map (·.1)) := by
  obtain ⟨h1, h2⟩ := tab_find z t
  unfold PySem.W.nsIn
  rw [l]
  rcases h2 with ⟨i, e, u, m, _, f, v⟩ | ⟨m, f⟩
  · refine ⟨some e.val, ?_, ?_⟩
    · simp only [f]
    · exact (decide_eq_true (List.mem_map.mpr ⟨_, m, rfl⟩)).symm
  · refine ⟨none, ?_, (decide_eq_false m).symm⟩
    simp only [f, h1]; rfl
theorem tab_at (l : K.lookup a = some ⟨.type "dict", none, .dict es n, #[]⟩) (k : PySem.W.KeysLit w.params es.toList) (t : TabOf es.toList kvs) (nd : kvs.all (fun q => kvs.lookup q.1 == some q.2) = true) (z : Str) (i : Int) (hm : (z, i) ∈ kvs) : KDct K w a z (.int i) := by
  obtain ⟨h1, h2⟩ := tab_find z t
  have hl : kvs.lookup z = some i := by simpa using List.all_eq_true.mp nd _ hm
  rcases h2 with ⟨j, e, u, m, lk, f, v⟩ | ⟨m, f⟩
  · have := lk i hl; subst this
    refine ⟨es, n, e.val, l, k, ?_, u, v⟩
    unfold PySem.W.nsIn
    rw [l]
    simp only [f]
  · exact absurd (List.mem_map.mpr ⟨_, hm, rfl⟩) m
end
theorem all_mk {l : PySem.W.OpenLaw} {w : World} {K : PySem.W.Frag} {h : Heap} {mg : Str → Option Value} {fa : Addr} (X : K.In h) (G : h.Ns mainGlobals mg) (hfa : mg "law" = some (.ref fa))
    {f0 : Addr} {od0 an0 : Option Addr} {sl0 : Array (Option Value)} {oc0 kV0 dc0 pm0 cd0 ct0 : Value}
    {f1 : Addr} {od1 an1 : Option Addr} {sl1 : Array (Option Value)} {oc1 kV1 dc1 pm1 cd1 ct1 : Value}
    {f2 : Addr} {od2 an2 : Option Addr} {sl2 : Array (Option Value)} {oc2 kV2 dc2 pm2 cd2 ct2 : Value}
    {f3 : Addr} {od3 an3 : Option Addr} {sl3 : Array (Option Value)} {oc3 kV3 dc3 pm3 cd3 ct3 : Value}
    {f4 : Addr} {od4 an4 : Option Addr} {sl4 : Array (Option Value)} {oc4 kV4 dc4 pm4 cd4 ct4 : Value}
    {f5 : Addr} {od5 an5 : Option Addr} {sl5 : Array (Option Value)} {oc5 kV5 dc5 pm5 cd5 ct5 : Value}
    {f6 : Addr} {od6 an6 : Option Addr} {sl6 : Array (Option Value)} {oc6 kV6 dc6 pm6 cd6 ct6 : Value}
    {f7 : Addr} {od7 an7 : Option Addr} {sl7 : Array (Option Value)} {oc7 kV7 dc7 pm7 cd7 ct7 : Value}
    {f8 : Addr} {od8 an8 : Option Addr} {sl8 : Array (Option Value)} {oc8 kV8 dc8 pm8 cd8 ct8 : Value}
    {f9 : Addr} {od9 an9 : Option Addr} {sl9 : Array (Option Value)} {oc9 kV9 dc9 pm9 cd9 ct9 : Value}
    {f10 : Addr} {od10 an10 : Option Addr} {sl10 : Array (Option Value)} {oc10 kV10 dc10 pm10 cd10 ct10 : Value}
    {f11 : Addr} {od11 an11 : Option Addr} {sl11 : Array (Option Value)} {oc11 kV11 dc11 pm11 cd11 ct11 : Value}
    {f12 : Addr} {od12 an12 : Option Addr} {sl12 : Array (Option Value)} {oc12 kV12 dc12 pm12 cd12 ct12 : Value}
    {f13 : Addr} {od13 an13 : Option Addr} {sl13 : Array (Option Value)} {oc13 kV13 dc13 pm13 cd13 ct13 : Value}
    {f14 : Addr} {od14 an14 : Option Addr} {sl14 : Array (Option Value)} {oc14 kV14 dc14 pm14 cd14 ct14 : Value}
    {f15 : Addr} {od15 an15 : Option Addr} {sl15 : Array (Option Value)} {oc15 kV15 dc15 pm15 cd15 ct15 : Value}
    {f16 : Addr} {od16 an16 : Option Addr} {sl16 : Array (Option Value)} {oc16 kV16 dc16 pm16 cd16 ct16 : Value}
    {f17 : Addr} {od17 an17 : Option Addr} {sl17 : Array (Option Value)} {oc17 kV17 dc17 pm17 cd17 ct17 : Value}
    {f18 : Addr} {od18 an18 : Option Addr} {sl18 : Array (Option Value)} {oc18 kV18 dc18 pm18 cd18 ct18 : Value}
    {f19 : Addr} {od19 an19 : Option Addr} {sl19 : Array (Option Value)} {oc19 kV19 dc19 pm19 cd19 ct19 : Value}
    {f20 : Addr} {od20 an20 : Option Addr} {sl20 : Array (Option Value)} {oc20 kV20 dc20 pm20 cd20 ct20 : Value}
    {f21 : Addr} {od21 an21 : Option Addr} {sl21 : Array (Option Value)} {oc21 kV21 dc21 pm21 cd21 ct21 : Value}
    {f22 : Addr} {od22 an22 : Option Addr} {sl22 : Array (Option Value)} {oc22 kV22 dc22 pm22 cd22 ct22 : Value}
    {f23 : Addr} {od23 an23 : Option Addr} {sl23 : Array (Option Value)} {oc23 kV23 dc23 pm23 cd23 ct23 : Value}
    {tFIGURES : Tok}
    {tLETTERS : Tok}
    {tMOST_PLAIN : Tok}
    {tMOST_AROUND : Tok}
    {aLEAST_CALLS : Addr} {nLEAST_CALLS : Nat}
    {tLEAST_CALLS0 uLEAST_CALLS0 : Tok} {tLEAST_CALLS1 uLEAST_CALLS1 : Tok} {tLEAST_CALLS2 uLEAST_CALLS2 : Tok} {tLEAST_CALLS3 uLEAST_CALLS3 : Tok} {tLEAST_CALLS4 uLEAST_CALLS4 : Tok}
    {aMOST_CALLS : Addr} {nMOST_CALLS : Nat}
    {tMOST_CALLS0 uMOST_CALLS0 : Tok} {tMOST_CALLS1 uMOST_CALLS1 : Tok} {tMOST_CALLS2 uMOST_CALLS2 : Tok} {tMOST_CALLS3 uMOST_CALLS3 : Tok} {tMOST_CALLS4 uMOST_CALLS4 : Tok}
    {aJOINTS : Addr} {nJOINTS : Nat}
    {odJOINTS : Option Addr} {slJOINTS : Array (Option Value)} {tJOINTS0 : Tok} {tJOINTS1 : Tok}
    (a0 : PySem.W.nsIn K mainGlobals "ascending" = some (some (.ref f0)))
    (l0 : K.lookup f0 = some ⟨oc0, od0, .func (PySem.W.fnOf "ascending" "ascending" (defArgs s_ascending) (defBody s_ascending) (defScope s_ascending) .none kV0 dc0 pm0 an0 cd0 ct0), sl0⟩)
    (c0 : PySem.W.codeIn K cd0 "ascending" = true)
    (k0 : PySem.W.keepIn K (.ref f0) = true)
    (a1 : PySem.W.nsIn K mainGlobals "is_name" = some (some (.ref f1)))
    (l1 : K.lookup f1 = some ⟨oc1, od1, .func (PySem.W.fnOf "is_name" "is_name" (defArgs s_is_name) (defBody s_is_name) (defScope s_is_name) .none kV1 dc1 pm1 an1 cd1 ct1), sl1⟩)
    (c1 : PySem.W.codeIn K cd1 "is_name" = true)
    (k1 : PySem.W.keepIn K (.ref f1) = true)
    (a2 : PySem.W.nsIn K mainGlobals "is_word" = some (some (.ref f2)))
    (l2 : K.lookup f2 = some ⟨oc2, od2, .func (PySem.W.fnOf "is_word" "is_word" (defArgs s_is_word) (defBody s_is_word) (defScope s_is_word) .none kV2 dc2 pm2 an2 cd2 ct2), sl2⟩)
    (c2 : PySem.W.codeIn K cd2 "is_word" = true)
    (k2 : PySem.W.keepIn K (.ref f2) = true)
    (a3 : PySem.W.nsIn K mainGlobals "is_plain" = some (some (.ref f3)))
    (l3 : K.lookup f3 = some ⟨oc3, od3, .func (PySem.W.fnOf "is_plain" "is_plain" (defArgs s_is_plain) (defBody s_is_plain) (defScope s_is_plain) .none kV3 dc3 pm3 an3 cd3 ct3), sl3⟩)
    (c3 : PySem.W.codeIn K cd3 "is_plain" = true)
    (k3 : PySem.W.keepIn K (.ref f3) = true)
    (a4 : PySem.W.nsIn K mainGlobals "is_duty" = some (some (.ref f4)))
    (l4 : K.lookup f4 = some ⟨oc4, od4, .func (PySem.W.fnOf "is_duty" "is_duty" (defArgs s_is_duty) (defBody s_is_duty) (defScope s_is_duty) .none kV4 dc4 pm4 an4 cd4 ct4), sl4⟩)
    (c4 : PySem.W.codeIn K cd4 "is_duty" = true)
    (k4 : PySem.W.keepIn K (.ref f4) = true)
    (a5 : PySem.W.nsIn K mainGlobals "names_in" = some (some (.ref f5)))
    (l5 : K.lookup f5 = some ⟨oc5, od5, .func (PySem.W.fnOf "names_in" "names_in" (defArgs s_names_in) (defBody s_names_in) (defScope s_names_in) .none kV5 dc5 pm5 an5 cd5 ct5), sl5⟩)
    (c5 : PySem.W.codeIn K cd5 "names_in" = true)
    (k5 : PySem.W.keepIn K (.ref f5) = true)
    (a6 : PySem.W.nsIn K mainGlobals "plain_ones" = some (some (.ref f6)))
    (l6 : K.lookup f6 = some ⟨oc6, od6, .func (PySem.W.fnOf "plain_ones" "plain_ones" (defArgs s_plain_ones) (defBody s_plain_ones) (defScope s_plain_ones) .none kV6 dc6 pm6 an6 cd6 ct6), sl6⟩)
    (c6 : PySem.W.codeIn K cd6 "plain_ones" = true)
    (k6 : PySem.W.keepIn K (.ref f6) = true)
    (a7 : PySem.W.nsIn K mainGlobals "duty_names" = some (some (.ref f7)))
    (l7 : K.lookup f7 = some ⟨oc7, od7, .func (PySem.W.fnOf "duty_names" "duty_names" (defArgs s_duty_names) (defBody s_duty_names) (defScope s_duty_names) .none kV7 dc7 pm7 an7 cd7 ct7), sl7⟩)
    (c7 : PySem.W.codeIn K cd7 "duty_names" = true)
    (k7 : PySem.W.keepIn K (.ref f7) = true)
    (a8 : PySem.W.nsIn K mainGlobals "_law_pen" = some (some (.ref f8)))
    (l8 : K.lookup f8 = some ⟨oc8, od8, .func (PySem.W.fnOf "_law_pen" "_law_pen" (defArgs s_law_pen) (defBody s_law_pen) (defScope s_law_pen) .none kV8 dc8 pm8 an8 cd8 ct8), sl8⟩)
    (c8 : PySem.W.codeIn K cd8 "_law_pen" = true)
    (k8 : PySem.W.keepIn K (.ref f8) = true)
    (a9 : PySem.W.nsIn K mainGlobals "_law_draw" = some (some (.ref f9)))
    (l9 : K.lookup f9 = some ⟨oc9, od9, .func (PySem.W.fnOf "_law_draw" "_law_draw" (defArgs s_law_draw) (defBody s_law_draw) (defScope s_law_draw) .none kV9 dc9 pm9 an9 cd9 ct9), sl9⟩)
    (c9 : PySem.W.codeIn K cd9 "_law_draw" = true)
    (k9 : PySem.W.keepIn K (.ref f9) = true)
    (a10 : PySem.W.nsIn K mainGlobals "_law_pick" = some (some (.ref f10)))
    (l10 : K.lookup f10 = some ⟨oc10, od10, .func (PySem.W.fnOf "_law_pick" "_law_pick" (defArgs s_law_pick) (defBody s_law_pick) (defScope s_law_pick) .none kV10 dc10 pm10 an10 cd10 ct10), sl10⟩)
    (c10 : PySem.W.codeIn K cd10 "_law_pick" = true)
    (k10 : PySem.W.keepIn K (.ref f10) = true)
    (a11 : PySem.W.nsIn K mainGlobals "_law_shuffled" = some (some (.ref f11)))
    (l11 : K.lookup f11 = some ⟨oc11, od11, .func (PySem.W.fnOf "_law_shuffled" "_law_shuffled" (defArgs s_law_shuffled) (defBody s_law_shuffled) (defScope s_law_shuffled) .none kV11 dc11 pm11 an11 cd11 ct11), sl11⟩)
    (c11 : PySem.W.codeIn K cd11 "_law_shuffled" = true)
    (k11 : PySem.W.keepIn K (.ref f11) = true)
    (a12 : PySem.W.nsIn K mainGlobals "_law_name" = some (some (.ref f12)))
    (l12 : K.lookup f12 = some ⟨oc12, od12, .func (PySem.W.fnOf "_law_name" "_law_name" (defArgs s_law_name) (defBody s_law_name) (defScope s_law_name) .none kV12 dc12 pm12 an12 cd12 ct12), sl12⟩)
    (c12 : PySem.W.codeIn K cd12 "_law_name" = true)
    (k12 : PySem.W.keepIn K (.ref f12) = true)
    (a13 : PySem.W.nsIn K mainGlobals "_law_names" = some (some (.ref f13)))
    (l13 : K.lookup f13 = some ⟨oc13, od13, .func (PySem.W.fnOf "_law_names" "_law_names" (defArgs s_law_names) (defBody s_law_names) (defScope s_law_names) .none kV13 dc13 pm13 an13 cd13 ct13), sl13⟩)
    (c13 : PySem.W.codeIn K cd13 "_law_names" = true)
    (k13 : PySem.W.keepIn K (.ref f13) = true)
    (a14 : PySem.W.nsIn K mainGlobals "_law_same" = some (some (.ref f14)))
    (l14 : K.lookup f14 = some ⟨oc14, od14, .func (PySem.W.fnOf "_law_same" "_law_same" (defArgs s_law_same) (defBody s_law_same) (defScope s_law_same) .none kV14 dc14 pm14 an14 cd14 ct14), sl14⟩)
    (c14 : PySem.W.codeIn K cd14 "_law_same" = true)
    (k14 : PySem.W.keepIn K (.ref f14) = true)
    (a15 : PySem.W.nsIn K mainGlobals "_law_is_name" = some (some (.ref f15)))
    (l15 : K.lookup f15 = some ⟨oc15, od15, .func (PySem.W.fnOf "_law_is_name" "_law_is_name" (defArgs s_law_is_name) (defBody s_law_is_name) (defScope s_law_is_name) .none kV15 dc15 pm15 an15 cd15 ct15), sl15⟩)
    (c15 : PySem.W.codeIn K cd15 "_law_is_name" = true)
    (k15 : PySem.W.keepIn K (.ref f15) = true)
    (a16 : PySem.W.nsIn K mainGlobals "_law_calls" = some (some (.ref f16)))
    (l16 : K.lookup f16 = some ⟨oc16, od16, .func (PySem.W.fnOf "_law_calls" "_law_calls" (defArgs s_law_calls) (defBody s_law_calls) (defScope s_law_calls) .none kV16 dc16 pm16 an16 cd16 ct16), sl16⟩)
    (c16 : PySem.W.codeIn K cd16 "_law_calls" = true)
    (k16 : PySem.W.keepIn K (.ref f16) = true)
    (a17 : PySem.W.nsIn K mainGlobals "_law_some_plain" = some (some (.ref f17)))
    (l17 : K.lookup f17 = some ⟨oc17, od17, .func (PySem.W.fnOf "_law_some_plain" "_law_some_plain" (defArgs s_law_some_plain) (defBody s_law_some_plain) (defScope s_law_some_plain) .none kV17 dc17 pm17 an17 cd17 ct17), sl17⟩)
    (c17 : PySem.W.codeIn K cd17 "_law_some_plain" = true)
    (k17 : PySem.W.keepIn K (.ref f17) = true)
    (a18 : PySem.W.nsIn K mainGlobals "_law_some_duty" = some (some (.ref f18)))
    (l18 : K.lookup f18 = some ⟨oc18, od18, .func (PySem.W.fnOf "_law_some_duty" "_law_some_duty" (defArgs s_law_some_duty) (defBody s_law_some_duty) (defScope s_law_some_duty) .none kV18 dc18 pm18 an18 cd18 ct18), sl18⟩)
    (c18 : PySem.W.codeIn K cd18 "_law_some_duty" = true)
    (k18 : PySem.W.keepIn K (.ref f18) = true)
    (a19 : PySem.W.nsIn K mainGlobals "_law_plain_names" = some (some (.ref f19)))
    (l19 : K.lookup f19 = some ⟨oc19, od19, .func (PySem.W.fnOf "_law_plain_names" "_law_plain_names" (defArgs s_law_plain_names) (defBody s_law_plain_names) (defScope s_law_plain_names) .none kV19 dc19 pm19 an19 cd19 ct19), sl19⟩)
    (c19 : PySem.W.codeIn K cd19 "_law_plain_names" = true)
    (k19 : PySem.W.keepIn K (.ref f19) = true)
    (a20 : PySem.W.nsIn K mainGlobals "_law_plain_ones" = some (some (.ref f20)))
    (l20 : K.lookup f20 = some ⟨oc20, od20, .func (PySem.W.fnOf "_law_plain_ones" "_law_plain_ones" (defArgs s_law_plain_ones) (defBody s_law_plain_ones) (defScope s_law_plain_ones) .none kV20 dc20 pm20 an20 cd20 ct20), sl20⟩)
    (c20 : PySem.W.codeIn K cd20 "_law_plain_ones" = true)
    (k20 : PySem.W.keepIn K (.ref f20) = true)
    (a21 : PySem.W.nsIn K mainGlobals "_law_plain_many" = some (some (.ref f21)))
    (l21 : K.lookup f21 = some ⟨oc21, od21, .func (PySem.W.fnOf "_law_plain_many" "_law_plain_many" (defArgs s_law_plain_many) (defBody s_law_plain_many) (defScope s_law_plain_many) .none kV21 dc21 pm21 an21 cd21 ct21), sl21⟩)
    (c21 : PySem.W.codeIn K cd21 "_law_plain_many" = true)
    (k21 : PySem.W.keepIn K (.ref f21) = true)
    (a22 : PySem.W.nsIn K mainGlobals "_law_bent" = some (some (.ref f22)))
    (l22 : K.lookup f22 = some ⟨oc22, od22, .func (PySem.W.fnOf "_law_bent" "_law_bent" (defArgs s_law_bent) (defBody s_law_bent) (defScope s_law_bent) .none kV22 dc22 pm22 an22 cd22 ct22), sl22⟩)
    (c22 : PySem.W.codeIn K cd22 "_law_bent" = true)
    (k22 : PySem.W.keepIn K (.ref f22) = true)
    (a23 : PySem.W.nsIn K mainGlobals "law" = some (some (.ref f23)))
    (l23 : K.lookup f23 = some ⟨oc23, od23, .func (PySem.W.fnOf "law" "law" (defArgs s_law) (defBody s_law) (defScope s_law) .none kV23 dc23 pm23 an23 cd23 ct23), sl23⟩)
    (c23 : PySem.W.codeIn K cd23 "law" = true)
    (k23 : PySem.W.keepIn K (.ref f23) = true)
    (gFIGURES : PySem.W.nsIn K mainGlobals "FIGURES" = some (some (.str "0123456789" tFIGURES)))
    (gLETTERS : PySem.W.nsIn K mainGlobals "LETTERS" = some (some (.str "abcdefghijklmnopqrstuvwxyz" tLETTERS)))
    (gMOST_PLAIN : PySem.W.nsIn K mainGlobals "MOST_PLAIN" = some (some (.int 4 tMOST_PLAIN)))
    (gMOST_AROUND : PySem.W.nsIn K mainGlobals "MOST_AROUND" = some (some (.int 4 tMOST_AROUND)))
    (gLEAST_CALLS : PySem.W.nsIn K mainGlobals "LEAST_CALLS" = some (some (.ref aLEAST_CALLS)))
    (lLEAST_CALLS : K.lookup aLEAST_CALLS = some ⟨.type "dict", none, .dict #[⟨PyData.keyHash w.params "call", .str "call" tLEAST_CALLS0, .int 1 uLEAST_CALLS0⟩, ⟨PyData.keyHash w.params "row", .str "row" tLEAST_CALLS1, .int 2 uLEAST_CALLS1⟩, ⟨PyData.keyHash w.params "steps", .str "steps" tLEAST_CALLS2, .int 2 uLEAST_CALLS2⟩, ⟨PyData.keyHash w.params "answer", .str "answer" tLEAST_CALLS3, .int 2 uLEAST_CALLS3⟩, ⟨PyData.keyHash w.params "never", .str "never" tLEAST_CALLS4, .int 1 uLEAST_CALLS4⟩] nLEAST_CALLS, #[]⟩)
    (zLEAST_CALLS : (aLEAST_CALLS == sysModules) = false)
    (gMOST_CALLS : PySem.W.nsIn K mainGlobals "MOST_CALLS" = some (some (.ref aMOST_CALLS)))
    (lMOST_CALLS : K.lookup aMOST_CALLS = some ⟨.type "dict", none, .dict #[⟨PyData.keyHash w.params "call", .str "call" tMOST_CALLS0, .int 1 uMOST_CALLS0⟩, ⟨PyData.keyHash w.params "row", .str "row" tMOST_CALLS1, .int 4 uMOST_CALLS1⟩, ⟨PyData.keyHash w.params "steps", .str "steps" tMOST_CALLS2, .int 4 uMOST_CALLS2⟩, ⟨PyData.keyHash w.params "answer", .str "answer" tMOST_CALLS3, .int 2 uMOST_CALLS3⟩, ⟨PyData.keyHash w.params "never", .str "never" tMOST_CALLS4, .int 4 uMOST_CALLS4⟩] nMOST_CALLS, #[]⟩)
    (zMOST_CALLS : (aMOST_CALLS == sysModules) = false)
    (gJOINTS : PySem.W.nsIn K mainGlobals "JOINTS" = some (some (.ref aJOINTS)))
    (lJOINTS : K.lookup aJOINTS = some ⟨.type "tuple", odJOINTS, .seq #[.str "all" tJOINTS0, .str "any" tJOINTS1] nJOINTS, slJOINTS⟩)
    (btuple : PySem.W.nsIn K mainGlobals "tuple" = some none)
    (ball : PySem.W.nsIn K mainGlobals "all" = some none)
    (brange : PySem.W.nsIn K mainGlobals "range" = some none)
    (bisinstance : PySem.W.nsIn K mainGlobals "isinstance" = some none)
    (bint : PySem.W.nsIn K mainGlobals "int" = some none)
    (bsorted : PySem.W.nsIn K mainGlobals "sorted" = some none)
    (blen : PySem.W.nsIn K mainGlobals "len" = some none)
    (blist : PySem.W.nsIn K mainGlobals "list" = some none)
    (bstr : PySem.W.nsIn K mainGlobals "str" = some none)
    (bsum : PySem.W.nsIn K mainGlobals "sum" = some none)
    (bset : PySem.W.nsIn K mainGlobals "set" = some none)
    (bbool : PySem.W.nsIn K mainGlobals "bool" = some none)
    (bzip : PySem.W.nsIn K mainGlobals "zip" = some none) :
    ∃ fd : FuncData, (∀ (s : Shared) (v : Value), BindsTo s fd ⟨[v], []⟩ [("script", v)]) ∧ ∀ base : Heap, K.In base → base.Ns mainGlobals mg → FnOk l.prog w K mg base CX0 8 fa fd ["script"] (spLaw K) := by
  have e : f23 = fa := Value.ref.inj (Option.some.inj ((PySem.W.mg_of X G a23).symm.trans hfa))
  subst e
  let T : Txt w K mg := {
    a_ascending := f0
    d_ascending := (PySem.W.fnOf "ascending" "ascending" (defArgs s_ascending) (defBody s_ascending) (defScope s_ascending) .none kV0 dc0 pm0 an0 cd0 ct0)
    D_ascending := ⟨fun_mk (st := s_ascending) l0 c0 k0, PySem.W.mg_of X G a0, (fun_mk (x := "ascending") (qual := "ascending") (st := s_ascending) l0 c0 k0).binds (ps := ["names"]) fun _ _ _ _ _ _ us hl => match us, hl with | [_], _ => rfl⟩
    a_is_name := f1
    d_is_name := (PySem.W.fnOf "is_name" "is_name" (defArgs s_is_name) (defBody s_is_name) (defScope s_is_name) .none kV1 dc1 pm1 an1 cd1 ct1)
    D_is_name := ⟨fun_mk (st := s_is_name) l1 c1 k1, PySem.W.mg_of X G a1, (fun_mk (x := "is_name") (qual := "is_name") (st := s_is_name) l1 c1 k1).binds (ps := ["value"]) fun _ _ _ _ _ _ us hl => match us, hl with | [_], _ => rfl⟩
    a_is_word := f2
    d_is_word := (PySem.W.fnOf "is_word" "is_word" (defArgs s_is_word) (defBody s_is_word) (defScope s_is_word) .none kV2 dc2 pm2 an2 cd2 ct2)
    D_is_word := ⟨fun_mk (st := s_is_word) l2 c2 k2, PySem.W.mg_of X G a2, (fun_mk (x := "is_word") (qual := "is_word") (st := s_is_word) l2 c2 k2).binds (ps := ["value"]) fun _ _ _ _ _ _ us hl => match us, hl with | [_], _ => rfl⟩
    a_is_plain := f3
    d_is_plain := (PySem.W.fnOf "is_plain" "is_plain" (defArgs s_is_plain) (defBody s_is_plain) (defScope s_is_plain) .none kV3 dc3 pm3 an3 cd3 ct3)
    D_is_plain := ⟨fun_mk (st := s_is_plain) l3 c3 k3, PySem.W.mg_of X G a3, (fun_mk (x := "is_plain") (qual := "is_plain") (st := s_is_plain) l3 c3 k3).binds (ps := ["value"]) fun _ _ _ _ _ _ us hl => match us, hl with | [_], _ => rfl⟩
    a_is_duty := f4
    d_is_duty := (PySem.W.fnOf "is_duty" "is_duty" (defArgs s_is_duty) (defBody s_is_duty) (defScope s_is_duty) .none kV4 dc4 pm4 an4 cd4 ct4)
    D_is_duty := ⟨fun_mk (st := s_is_duty) l4 c4 k4, PySem.W.mg_of X G a4, (fun_mk (x := "is_duty") (qual := "is_duty") (st := s_is_duty) l4 c4 k4).binds (ps := ["value"]) fun _ _ _ _ _ _ us hl => match us, hl with | [_], _ => rfl⟩
    a_names_in := f5
    d_names_in := (PySem.W.fnOf "names_in" "names_in" (defArgs s_names_in) (defBody s_names_in) (defScope s_names_in) .none kV5 dc5 pm5 an5 cd5 ct5)
    D_names_in := ⟨fun_mk (st := s_names_in) l5 c5 k5, PySem.W.mg_of X G a5, (fun_mk (x := "names_in") (qual := "names_in") (st := s_names_in) l5 c5 k5).binds (ps := ["duty"]) fun _ _ _ _ _ _ us hl => match us, hl with | [_], _ => rfl⟩
    a_plain_ones := f6
    d_plain_ones := (PySem.W.fnOf "plain_ones" "plain_ones" (defArgs s_plain_ones) (defBody s_plain_ones) (defScope s_plain_ones) .none kV6 dc6 pm6 an6 cd6 ct6)
    D_plain_ones := ⟨fun_mk (st := s_plain_ones) l6 c6 k6, PySem.W.mg_of X G a6, (fun_mk (x := "plain_ones") (qual := "plain_ones") (st := s_plain_ones) l6 c6 k6).binds (ps := ["duty"]) fun _ _ _ _ _ _ us hl => match us, hl with | [_], _ => rfl⟩
    a_duty_names := f7
    d_duty_names := (PySem.W.fnOf "duty_names" "duty_names" (defArgs s_duty_names) (defBody s_duty_names) (defScope s_duty_names) .none kV7 dc7 pm7 an7 cd7 ct7)
    D_duty_names := ⟨fun_mk (st := s_duty_names) l7 c7 k7, PySem.W.mg_of X G a7, (fun_mk (x := "duty_names") (qual := "duty_names") (st := s_duty_names) l7 c7 k7).binds (ps := ["duty"]) fun _ _ _ _ _ _ us hl => match us, hl with | [_], _ => rfl⟩
    a_law_pen := f8
    d_law_pen := (PySem.W.fnOf "_law_pen" "_law_pen" (defArgs s_law_pen) (defBody s_law_pen) (defScope s_law_pen) .none kV8 dc8 pm8 an8 cd8 ct8)
    D_law_pen := ⟨fun_mk (st := s_law_pen) l8 c8 k8, PySem.W.mg_of X G a8, (fun_mk (x := "_law_pen") (qual := "_law_pen") (st := s_law_pen) l8 c8 k8).binds (ps := ["script"]) fun _ _ _ _ _ _ us hl => match us, hl with | [_], _ => rfl⟩
    a_law_draw := f9
    d_law_draw := (PySem.W.fnOf "_law_draw" "_law_draw" (defArgs s_law_draw) (defBody s_law_draw) (defScope s_law_draw) .none kV9 dc9 pm9 an9 cd9 ct9)
    D_law_draw := ⟨fun_mk (st := s_law_draw) l9 c9 k9, PySem.W.mg_of X G a9, (fun_mk (x := "_law_draw") (qual := "_law_draw") (st := s_law_draw) l9 c9 k9).binds (ps := ["pen", "many"]) fun _ _ _ _ _ _ us hl => match us, hl with | [_, _], _ => rfl⟩
    a_law_pick := f10
    d_law_pick := (PySem.W.fnOf "_law_pick" "_law_pick" (defArgs s_law_pick) (defBody s_law_pick) (defScope s_law_pick) .none kV10 dc10 pm10 an10 cd10 ct10)
    D_law_pick := ⟨fun_mk (st := s_law_pick) l10 c10 k10, PySem.W.mg_of X G a10, (fun_mk (x := "_law_pick") (qual := "_law_pick") (st := s_law_pick) l10 c10 k10).binds (ps := ["pen", "some"]) fun _ _ _ _ _ _ us hl => match us, hl with | [_, _], _ => rfl⟩
    a_law_shuffled := f11
    d_law_shuffled := (PySem.W.fnOf "_law_shuffled" "_law_shuffled" (defArgs s_law_shuffled) (defBody s_law_shuffled) (defScope s_law_shuffled) .none kV11 dc11 pm11 an11 cd11 ct11)
    D_law_shuffled := ⟨fun_mk (st := s_law_shuffled) l11 c11 k11, PySem.W.mg_of X G a11, (fun_mk (x := "_law_shuffled") (qual := "_law_shuffled") (st := s_law_shuffled) l11 c11 k11).binds (ps := ["pen", "some"]) fun _ _ _ _ _ _ us hl => match us, hl with | [_, _], _ => rfl⟩
    a_law_name := f12
    d_law_name := (PySem.W.fnOf "_law_name" "_law_name" (defArgs s_law_name) (defBody s_law_name) (defScope s_law_name) .none kV12 dc12 pm12 an12 cd12 ct12)
    D_law_name := ⟨fun_mk (st := s_law_name) l12 c12 k12, PySem.W.mg_of X G a12, (fun_mk (x := "_law_name") (qual := "_law_name") (st := s_law_name) l12 c12 k12).binds (ps := ["pen", "index"]) fun _ _ _ _ _ _ us hl => match us, hl with | [_, _], _ => rfl⟩
    a_law_names := f13
    d_law_names := (PySem.W.fnOf "_law_names" "_law_names" (defArgs s_law_names) (defBody s_law_names) (defScope s_law_names) .none kV13 dc13 pm13 an13 cd13 ct13)
    D_law_names := ⟨fun_mk (st := s_law_names) l13 c13 k13, PySem.W.mg_of X G a13, (fun_mk (x := "_law_names") (qual := "_law_names") (st := s_law_names) l13 c13 k13).binds (ps := ["pen", "many"]) fun _ _ _ _ _ _ us hl => match us, hl with | [_, _], _ => rfl⟩
    a_law_same := f14
    d_law_same := (PySem.W.fnOf "_law_same" "_law_same" (defArgs s_law_same) (defBody s_law_same) (defScope s_law_same) .none kV14 dc14 pm14 an14 cd14 ct14)
    D_law_same := ⟨fun_mk (st := s_law_same) l14 c14 k14, PySem.W.mg_of X G a14, (fun_mk (x := "_law_same") (qual := "_law_same") (st := s_law_same) l14 c14 k14).binds (ps := ["told", "due"]) fun _ _ _ _ _ _ us hl => match us, hl with | [_, _], _ => rfl⟩
    a_law_is_name := f15
    d_law_is_name := (PySem.W.fnOf "_law_is_name" "_law_is_name" (defArgs s_law_is_name) (defBody s_law_is_name) (defScope s_law_is_name) .none kV15 dc15 pm15 an15 cd15 ct15)
    D_law_is_name := ⟨fun_mk (st := s_law_is_name) l15 c15 k15, PySem.W.mg_of X G a15, (fun_mk (x := "_law_is_name") (qual := "_law_is_name") (st := s_law_is_name) l15 c15 k15).binds (ps := ["value"]) fun _ _ _ _ _ _ us hl => match us, hl with | [_], _ => rfl⟩
    a_law_calls := f16
    d_law_calls := (PySem.W.fnOf "_law_calls" "_law_calls" (defArgs s_law_calls) (defBody s_law_calls) (defScope s_law_calls) .none kV16 dc16 pm16 an16 cd16 ct16)
    D_law_calls := ⟨fun_mk (st := s_law_calls) l16 c16 k16, PySem.W.mg_of X G a16, (fun_mk (x := "_law_calls") (qual := "_law_calls") (st := s_law_calls) l16 c16 k16).binds (ps := ["pen", "many"]) fun _ _ _ _ _ _ us hl => match us, hl with | [_, _], _ => rfl⟩
    a_law_some_plain := f17
    d_law_some_plain := (PySem.W.fnOf "_law_some_plain" "_law_some_plain" (defArgs s_law_some_plain) (defBody s_law_some_plain) (defScope s_law_some_plain) .none kV17 dc17 pm17 an17 cd17 ct17)
    D_law_some_plain := ⟨fun_mk (st := s_law_some_plain) l17 c17 k17, PySem.W.mg_of X G a17, (fun_mk (x := "_law_some_plain") (qual := "_law_some_plain") (st := s_law_some_plain) l17 c17 k17).binds (ps := ["pen", "calls"]) fun _ _ _ _ _ _ us hl => match us, hl with | [_, _], _ => rfl⟩
    a_law_some_duty := f18
    d_law_some_duty := (PySem.W.fnOf "_law_some_duty" "_law_some_duty" (defArgs s_law_some_duty) (defBody s_law_some_duty) (defScope s_law_some_duty) .none kV18 dc18 pm18 an18 cd18 ct18)
    D_law_some_duty := ⟨fun_mk (st := s_law_some_duty) l18 c18 k18, PySem.W.mg_of X G a18, (fun_mk (x := "_law_some_duty") (qual := "_law_some_duty") (st := s_law_some_duty) l18 c18 k18).binds (ps := ["pen", "calls", "many", "deep"]) fun _ _ _ _ _ _ us hl => match us, hl with | [_, _, _, _], _ => rfl⟩
    a_law_plain_names := f19
    d_law_plain_names := (PySem.W.fnOf "_law_plain_names" "_law_plain_names" (defArgs s_law_plain_names) (defBody s_law_plain_names) (defScope s_law_plain_names) .none kV19 dc19 pm19 an19 cd19 ct19)
    D_law_plain_names := ⟨fun_mk (st := s_law_plain_names) l19 c19 k19, PySem.W.mg_of X G a19, (fun_mk (x := "_law_plain_names") (qual := "_law_plain_names") (st := s_law_plain_names) l19 c19 k19).binds (ps := ["duty"]) fun _ _ _ _ _ _ us hl => match us, hl with | [_], _ => rfl⟩
    a_law_plain_ones := f20
    d_law_plain_ones := (PySem.W.fnOf "_law_plain_ones" "_law_plain_ones" (defArgs s_law_plain_ones) (defBody s_law_plain_ones) (defScope s_law_plain_ones) .none kV20 dc20 pm20 an20 cd20 ct20)
    D_law_plain_ones := ⟨fun_mk (st := s_law_plain_ones) l20 c20 k20, PySem.W.mg_of X G a20, (fun_mk (x := "_law_plain_ones") (qual := "_law_plain_ones") (st := s_law_plain_ones) l20 c20 k20).binds (ps := ["duty"]) fun _ _ _ _ _ _ us hl => match us, hl with | [_], _ => rfl⟩
    a_law_plain_many := f21
    d_law_plain_many := (PySem.W.fnOf "_law_plain_many" "_law_plain_many" (defArgs s_law_plain_many) (defBody s_law_plain_many) (defScope s_law_plain_many) .none kV21 dc21 pm21 an21 cd21 ct21)
    D_law_plain_many := ⟨fun_mk (st := s_law_plain_many) l21 c21 k21, PySem.W.mg_of X G a21, (fun_mk (x := "_law_plain_many") (qual := "_law_plain_many") (st := s_law_plain_many) l21 c21 k21).binds (ps := ["value", "around"]) fun _ _ _ _ _ _ us hl => match us, hl with | [_, _], _ => rfl⟩
    a_law_bent := f22
    d_law_bent := (PySem.W.fnOf "_law_bent" "_law_bent" (defArgs s_law_bent) (defBody s_law_bent) (defScope s_law_bent) .none kV22 dc22 pm22 an22 cd22 ct22)
    D_law_bent := ⟨fun_mk (st := s_law_bent) l22 c22 k22, PySem.W.mg_of X G a22, (fun_mk (x := "_law_bent") (qual := "_law_bent") (st := s_law_bent) l22 c22 k22).binds (ps := ["pen", "duty", "calls"]) fun _ _ _ _ _ _ us hl => match us, hl with | [_, _, _], _ => rfl⟩
    a_law := f23
    d_law := (PySem.W.fnOf "law" "law" (defArgs s_law) (defBody s_law) (defScope s_law) .none kV23 dc23 pm23 an23 cd23 ct23)
    D_law := ⟨fun_mk (st := s_law) l23 c23 k23, PySem.W.mg_of X G a23, (fun_mk (x := "law") (qual := "law") (st := s_law) l23 c23 k23).binds (ps := ["script"]) fun _ _ _ _ _ _ us hl => match us, hl with | [_], _ => rfl⟩
    t_FIGURES := tFIGURES
    g_FIGURES := PySem.W.mg_of X G gFIGURES
    t_LETTERS := tLETTERS
    g_LETTERS := PySem.W.mg_of X G gLETTERS
    t_MOST_PLAIN := tMOST_PLAIN
    g_MOST_PLAIN := PySem.W.mg_of X G gMOST_PLAIN
    t_MOST_AROUND := tMOST_AROUND
    g_MOST_AROUND := PySem.W.mg_of X G gMOST_AROUND
    a_LEAST_CALLS := aLEAST_CALLS
    g_LEAST_CALLS := PySem.W.mg_of X G gLEAST_CALLS
    es_LEAST_CALLS := #[⟨PyData.keyHash w.params "call", .str "call" tLEAST_CALLS0, .int 1 uLEAST_CALLS0⟩, ⟨PyData.keyHash w.params "row", .str "row" tLEAST_CALLS1, .int 2 uLEAST_CALLS1⟩, ⟨PyData.keyHash w.params "steps", .str "steps" tLEAST_CALLS2, .int 2 uLEAST_CALLS2⟩, ⟨PyData.keyHash w.params "answer", .str "answer" tLEAST_CALLS3, .int 2 uLEAST_CALLS3⟩, ⟨PyData.keyHash w.params "never", .str "never" tLEAST_CALLS4, .int 1 uLEAST_CALLS4⟩]
    n_LEAST_CALLS := nLEAST_CALLS
    kd_LEAST_CALLS := ⟨lLEAST_CALLS, ⟨⟨_, _, rfl, rfl⟩, ⟨_, _, rfl, rfl⟩, ⟨_, _, rfl, rfl⟩, ⟨_, _, rfl, rfl⟩, ⟨_, _, rfl, rfl⟩, trivial⟩, zLEAST_CALLS⟩
    in_LEAST_CALLS := tab_in (kvs := [("call", 1), ("row", 2), ("steps", 2), ("answer", 2), ("never", 1)]) lLEAST_CALLS ⟨⟨_, _, rfl, rfl⟩, ⟨_, _, rfl, rfl⟩, ⟨_, _, rfl, rfl⟩, ⟨_, _, rfl, rfl⟩, ⟨_, _, rfl, rfl⟩, trivial⟩
    at_LEAST_CALLS := tab_at (kvs := [("call", 1), ("row", 2), ("steps", 2), ("answer", 2), ("never", 1)]) lLEAST_CALLS ⟨⟨_, _, rfl, rfl⟩, ⟨_, _, rfl, rfl⟩, ⟨_, _, rfl, rfl⟩, ⟨_, _, rfl, rfl⟩, ⟨_, _, rfl, rfl⟩, trivial⟩ ⟨⟨_, _, rfl, rfl⟩, ⟨_, _, rfl, rfl⟩, ⟨_, _, rfl, rfl⟩, ⟨_, _, rfl, rfl⟩, ⟨_, _, rfl, rfl⟩, trivial⟩ (by decide +kernel)
    a_MOST_CALLS := aMOST_CALLS
    g_MOST_CALLS := PySem.W.mg_of X G gMOST_CALLS
    es_MOST_CALLS := #[⟨PyData.keyHash w.params "call", .str "call" tMOST_CALLS0, .int 1 uMOST_CALLS0⟩, ⟨PyData.keyHash w.params "row", .str "row" tMOST_CALLS1, .int 4 uMOST_CALLS1⟩, ⟨PyData.keyHash w.params "steps", .str "steps" tMOST_CALLS2, .int 4 uMOST_CALLS2⟩, ⟨PyData.keyHash w.params "answer", .str "answer" tMOST_CALLS3, .int 2 uMOST_CALLS3⟩, ⟨PyData.keyHash w.params "never", .str "never" tMOST_CALLS4, .int 4 uMOST_CALLS4⟩]
    n_MOST_CALLS := nMOST_CALLS
    kd_MOST_CALLS := ⟨lMOST_CALLS, ⟨⟨_, _, rfl, rfl⟩, ⟨_, _, rfl, rfl⟩, ⟨_, _, rfl, rfl⟩, ⟨_, _, rfl, rfl⟩, ⟨_, _, rfl, rfl⟩, trivial⟩, zMOST_CALLS⟩
    in_MOST_CALLS := tab_in (kvs := [("call", 1), ("row", 4), ("steps", 4), ("answer", 2), ("never", 4)]) lMOST_CALLS ⟨⟨_, _, rfl, rfl⟩, ⟨_, _, rfl, rfl⟩, ⟨_, _, rfl, rfl⟩, ⟨_, _, rfl, rfl⟩, ⟨_, _, rfl, rfl⟩, trivial⟩
    at_MOST_CALLS := tab_at (kvs := [("call", 1), ("row", 4), ("steps", 4), ("answer", 2), ("never", 4)]) lMOST_CALLS ⟨⟨_, _, rfl, rfl⟩, ⟨_, _, rfl, rfl⟩, ⟨_, _, rfl, rfl⟩, ⟨_, _, rfl, rfl⟩, ⟨_, _, rfl, rfl⟩, trivial⟩ ⟨⟨_, _, rfl, rfl⟩, ⟨_, _, rfl, rfl⟩, ⟨_, _, rfl, rfl⟩, ⟨_, _, rfl, rfl⟩, ⟨_, _, rfl, rfl⟩, trivial⟩ (by decide +kernel)
    a_JOINTS := aJOINTS
    g_JOINTS := PySem.W.mg_of X G gJOINTS
    sq_JOINTS := fun H => .inr ⟨_, _, _, lJOINTS, rfl, rfl, (by show 2 ≤ sizeLine; decide), (.cons ⟨_, rfl⟩ (.cons ⟨_, rfl⟩ .nil))⟩
    b_tuple := PySem.W.mg_none_of X G btuple
    b_all := PySem.W.mg_none_of X G ball
    b_range := PySem.W.mg_none_of X G brange
    b_isinstance := PySem.W.mg_none_of X G bisinstance
    b_int := PySem.W.mg_none_of X G bint
    b_sorted := PySem.W.mg_none_of X G bsorted
    b_len := PySem.W.mg_none_of X G blen
    b_list := PySem.W.mg_none_of X G blist
    b_str := PySem.W.mg_none_of X G bstr
    b_sum := PySem.W.mg_none_of X G bsum
    b_set := PySem.W.mg_none_of X G bset
    b_bool := PySem.W.mg_none_of X G bbool
    b_zip := PySem.W.mg_none_of X G bzip }
  exact ⟨(PySem.W.fnOf "law" "law" (defArgs s_law) (defBody s_law) (defScope s_law) .none kV23 dc23 pm23 an23 cd23 ct23), fun s v => .of_eq rfl, fun base _ _ => ok_law (P := l.prog) (base := base) T⟩
theorem walk {l : PySem.W.OpenLaw} {q : Program} {loose : List Str} {XP : (Str → Option Value) → Heap → Prop} {YP : World → Heap → Prop} {d : DefRec} {K : Params → PySem.W.Frag} (hn : l.most = some 63) (hdf : d.params.defaults = [])
    (hY : ∀ (w : World) (h : Heap), YP w h → (K w.params).In h)
    (F : ∀ (w : World) (mg : Str → Option Value) (fa : Addr) (h : Heap), (K w.params).In h → h.Ns mainGlobals mg → mg d.name = some (.ref fa) →
      ∃ fd : FuncData, (∀ (s : Shared) (u : Value), BindsTo s fd ⟨[u], []⟩ [("script", u)]) ∧ ∀ base : Heap, (K w.params).In base → base.Ns mainGlobals mg → FnOk l.prog w (K w.params) mg base CX0 8 fa fd ["script"] (spLaw (K w.params))) :
    PySem.W.WalkO q loose XP YP l.row.toRowW d [] (fun f vs => PySem.call f vs) :=
  L2.walk_of (n := 63) (k := 8) (x := "script") (CX := fun _ => CX0) (sp := fun w => spLaw (K w.params)) hn (by decide) hdf ⟨rfl, by decide, by decide⟩ hY F (fun _ _ a ns hl _ hS => ⟨a, ns, rfl, hS, hl, fun _ => rfl⟩) fun _ _ _ _ _ z => z
end Ag
open PySem PySem.W PyProof.Rows in
set_option maxRecDepth 100000 in
set_option maxHeartbeats 0 in
theorem PySem.Challenge.cw_againnotes_k03_duties_judged_holds : PySem.Challenge.rw_againnotes_k03_duties_judged.Holds := by
  w_on; o_law; k_head; (case hw => w_witness2)
  k_fill
  refine Ag.walk (l := PySem.Challenge.rw_againnotes_k03_duties_judged) rfl rfl (fun w h Y => PySem.W.kIn_of Y) ?F
  case F =>
    intro w mg fa h KX G hmg
    refine' Ag.all_mk KX G hmg ?a0 ?l0 ?c0 ?k0 ?a1 ?l1 ?c1 ?k1 ?a2 ?l2 ?c2 ?k2 ?a3 ?l3 ?c3 ?k3 ?a4 ?l4 ?c4 ?k4 ?a5 ?l5 ?c5 ?k5 ?a6 ?l6 ?c6 ?k6 ?a7 ?l7 ?c7 ?k7 ?a8 ?l8 ?c8 ?k8 ?a9 ?l9 ?c9 ?k9 ?a10 ?l10 ?c10 ?k10 ?a11 ?l11 ?c11 ?k11 ?a12 ?l12 ?c12 ?k12 ?a13 ?l13 ?c13 ?k13 ?a14 ?l14 ?c14 ?k14 ?a15 ?l15 ?c15 ?k15 ?a16 ?l16 ?c16 ?k16 ?a17 ?l17 ?c17 ?k17 ?a18 ?l18 ?c18 ?k18 ?a19 ?l19 ?c19 ?k19 ?a20 ?l20 ?c20 ?k20 ?a21 ?l21 ?c21 ?k21 ?a22 ?l22 ?c22 ?k22 ?a23 ?l23 ?c23 ?k23 ?gFIGURES ?gLETTERS ?gMOST_PLAIN ?gMOST_AROUND ?gLEAST_CALLS ?lLEAST_CALLS ?zLEAST_CALLS ?gMOST_CALLS ?lMOST_CALLS ?zMOST_CALLS ?gJOINTS ?lJOINTS ?btuple ?ball ?brange ?bisinstance ?bint ?bsorted ?blen ?blist ?bstr ?bsum ?bset ?bbool ?bzip
    (case a0 => k_is)
    (case l0 => k_is)
    (case c0 => k_is)
    (case k0 => k_is)
    (case a1 => k_is)
    (case l1 => k_is)
    (case c1 => k_is)
    (case k1 => k_is)
    (case a2 => k_is)
    (case l2 => k_is)
    (case c2 => k_is)
    (case k2 => k_is)
    (case a3 => k_is)
    (case l3 => k_is)
    (case c3 => k_is)
    (case k3 => k_is)
    (case a4 => k_is)
    (case l4 => k_is)
    (case c4 => k_is)
    (case k4 => k_is)
    (case a5 => k_is)
    (case l5 => k_is)
    (case c5 => k_is)
    (case k5 => k_is)
    (case a6 => k_is)
    (case l6 => k_is)
    (case c6 => k_is)
    (case k6 => k_is)
    (case a7 => k_is)
    (case l7 => k_is)
    (case c7 => k_is)
    (case k7 => k_is)
    (case a8 => k_is)
    (case l8 => k_is)
    (case c8 => k_is)
    (case k8 => k_is)
    (case a9 => k_is)
    (case l9 => k_is)
    (case c9 => k_is)
    (case k9 => k_is)
    (case a10 => k_is)
    (case l10 => k_is)
    (case c10 => k_is)
    (case k10 => k_is)
    (case a11 => k_is)
    (case l11 => k_is)
    (case c11 => k_is)
    (case k11 => k_is)
    (case a12 => k_is)
    (case l12 => k_is)
    (case c12 => k_is)
    (case k12 => k_is)
    (case a13 => k_is)
    (case l13 => k_is)
    (case c13 => k_is)
    (case k13 => k_is)
    (case a14 => k_is)
    (case l14 => k_is)
    (case c14 => k_is)
    (case k14 => k_is)
    (case a15 => k_is)
    (case l15 => k_is)
    (case c15 => k_is)
    (case k15 => k_is)
    (case a16 => k_is)
    (case l16 => k_is)
    (case c16 => k_is)
    (case k16 => k_is)
    (case a17 => k_is)
    (case l17 => k_is)
    (case c17 => k_is)
    (case k17 => k_is)
    (case a18 => k_is)
    (case l18 => k_is)
    (case c18 => k_is)
    (case k18 => k_is)
    (case a19 => k_is)
    (case l19 => k_is)
    (case c19 => k_is)
    (case k19 => k_is)
    (case a20 => k_is)
    (case l20 => k_is)
    (case c20 => k_is)
    (case k20 => k_is)
    (case a21 => k_is)
    (case l21 => k_is)
    (case c21 => k_is)
    (case k21 => k_is)
    (case a22 => k_is)
    (case l22 => k_is)
    (case c22 => k_is)
    (case k22 => k_is)
    (case a23 => k_is)
    (case l23 => k_is)
    (case c23 => k_is)
    (case k23 => k_is)
    (case gFIGURES => k_is)
    (case gLETTERS => k_is)
    (case gMOST_PLAIN => k_is)
    (case gMOST_AROUND => k_is)
    (case gLEAST_CALLS => k_is)
    (case lLEAST_CALLS => k_is)
    (case zLEAST_CALLS => (first | rfl | decide | kernel_rfl))
    (case gMOST_CALLS => k_is)
    (case lMOST_CALLS => k_is)
    (case zMOST_CALLS => (first | rfl | decide | kernel_rfl))
    (case gJOINTS => k_is)
    (case lJOINTS => k_is)
    (case btuple => k_is)
    (case ball => k_is)
    (case brange => k_is)
    (case bisinstance => k_is)
    (case bint => k_is)
    (case bsorted => k_is)
    (case blen => k_is)
    (case blist => k_is)
    (case bstr => k_is)
    (case bsum => k_is)
    (case bset => k_is)
    (case bbool => k_is)
    (case bzip => k_is)
#print axioms PySem.Challenge.cw_againnotes_k03_duties_judged_holds
