import PyProof.Rows.All
import Wide.All
import OpenK.AllK
import Wide.FinOn
import HandS.ForMost
import HandS.Set
import HandS.SetKeys
import HandS.TupSets
import PyProof.Rows.SortShellAny
import HandS.Strs
import HandS.IsInst
import HandS.TupAny
import HandS.TupMul
import HandS.TupLe
import HandS.Style
import HandS.Deep
import HandS.NoneIn
import HandS.Codes
import HandS.Lambda
import HandS.EndTab
import PyProof.ReprRoads
import HandS.TryMany
import HandS.ExcField
import HandS.Zip
import PyProof.IsRules
import PyProof.AutoSeq1
import PyProof.NeData
import PyProof.StrBlock2
import PyProof.Rows.StrMul
import KE.SortCalls
import HandS.Text
import PyProof.StrLawsRepr
import PyProof.CallFns
import KE.DataCmp
import HandS.ExcInit
import HandS.WordsExc
import HandS.Defaults
import HandS.ExcIs
import KE.KNest
import KE.KNestM
import HandS.HeadWalk
import PySem.Challenge.RW_againnotes_k04_whole_fulfilled_duties
set_option Elab.async false
set_option linter.all false
set_option maxRecDepth 100000
set_option maxHeartbeats 4000000
/-! Sets of scannable keys of one kind, with what a walk over them asks for; set(list of texts), sorted of such a set. -/
namespace Ag
open PySem PySem.Spec PyProof.Rows L2

section gen
variable {P : Program} {w : World} {κ : Type} [DecidableEq κ] {kd : KeyKind P w κ}
/-- two entries have no key in common -/
def Apart (kd : KeyKind P w κ) (e f : Int × Value) : Prop := ∀ k, kd.is k e.2 = true → kd.is k f.2 = false
theorem Apart.symm {e f : Int × Value} (h : Apart kd e f) : Apart kd f e := fun k hf => by
  cases q : kd.is k e.2 with
  | false => rfl
  | true => have := h k q; rw [hf] at this; cases this

structure SetG (kd : KeyKind P w κ) (h : Heap) (a : Addr) (S : κ → Bool) (n : Nat) (o : Obj) (es : Array (Int × Value)) (ep : Nat) (t : SetTable) : Prop where
  at_ : h.get? a = some o
  ex : o.ExactSet
  dat : o.data = .set es ep t
  els : ElemsOf kd es.toList
  mem : ∀ k, S k = true ↔ ∃ e ∈ es.toList, kd.is k e.2 = true
  room : es.size < scanBound
  fit : t.fits es.size = true
  num : es.size = n
  ris : Ris t.place.toList
  led : w.params.followText "set-order" = true ∨ t.led = true
  nd : es.toList.Pairwise (Apart kd)

def SetAtG (kd : KeyKind P w κ) (h : Heap) (a : Addr) (S : κ → Bool) (n : Nat) : Prop := ∃ o es ep t, SetG kd h a S n o es ep t
theorem SetAtG.keep {h h' : Heap} {a : Addr} {S : κ → Bool} {n : Nat} (R : SetAtG kd h a S n) (k : ∀ o, h.get? a = some o → h'.get? a = some o) : SetAtG kd h' a S n := by
  obtain ⟨o, es, ep, t, r⟩ := R
  exact ⟨o, es, ep, t, ⟨k o r.at_, r.ex, r.dat, r.els, r.mem, r.room, r.fit, r.num, r.ris, r.led, r.nd⟩⟩
theorem SetAtG.fresh {h : Heap} {a : Addr} (ho : h.get? a = some { cls := .type "set", dict := none, data := .set #[] 0 (.fresh 0 0 (!w.params.followText "set-order")) }) : SetAtG kd h a (fun _ => false) 0 :=
  ⟨_, #[], 0, _, ⟨ho, ⟨rfl, rfl, rfl⟩, rfl, fun e he => (by simp at he), fun k => (by simp), (by decide), (by rfl), rfl, List.Pairwise.nil, by
    show _ ∨ (!w.params.followText "set-order") = true
    cases w.params.followText "set-order" <;> simp, List.Pairwise.nil⟩⟩

variable {A : Around} {E : Value → Shared → Prop} {s : Shared} {a : Addr} {S : κ → Bool} {n : Nat}

theorem addG_tail {g : Bool → Sem Unit} (hg : ∀ (b : Bool) (s₁ : Shared) (Q' : Unit → Shared → Prop), Q' () s₁ → wpAny (model P w) A (g b) Q' E s₁)
    {o : Obj} {es es1 : Array (Int × Value)} {ep : Nat} {t t2 : SetTable} {S' : κ → Bool} (ho : s.heap.get? a = some o) (hex : o.ExactSet) (hd : o.data = .set es ep t)
    (el1 : ElemsOf kd es1.toList) (m1 : ∀ k, S' k = true ↔ ∃ e ∈ es1.toList, kd.is k e.2 = true) (nd1 : es1.toList.Pairwise (Apart kd))
    (b1 : es1.size < scanBound) (f2 : t2.fits es1.size = true) (r2 : Ris t2.place.toList) (l2 : w.params.followText "set-order" = true ∨ t2.led = true) {wasD : Bool} {R : Option Bool → Shared → Prop}
    (hR : ∀ h', Heap.SameBut a s.heap h' → SetAtG kd h' a S' es1.size → R (some true) { s with heap := h' }) :
    wpAny (model P w) A (do
        storeSet a es1 t2
        if (!wasD && t2.tooFull) = true then do
            g (relayAll t2 es1 (SetTable.grown es1.size)).2.2
            storeSet a (relayAll t2 es1 (SetTable.grown es1.size)).1 (relayAll t2 es1 (SetTable.grown es1.size)).2.1
            pure (some true)
          else pure (some true)) R E s := by
  refine wpAny_bind (wpAny_storeSet_of ho hd ?_ (fits_of_scanBound b1))
  have q1 := store_at (es' := es1) (t' := t2) ho hd
  have k1 := Heap.SameBut.update s.heap a (Obj.putSet es1 t2)
  by_cases hc : (!wasD && t2.tooFull) = true
  · rw [if_pos hc]
    have pm := relayAll_perm t2 es1 (SetTable.grown es1.size)
    have f3 := relayAll_fits t2 es1 (SetTable.grown es1.size)
    have r3 := relayAll_ris t2 es1 (SetTable.grown es1.size)
    have l3 := relayAll_led t2 es1 (SetTable.grown es1.size)
    generalize relayAll t2 es1 (SetTable.grown es1.size) = Z at pm f3 r3 l3 ⊢
    obtain ⟨es2, t3, gv⟩ := Z
    dsimp only at pm f3 r3 l3 ⊢
    have z2 : es2.size = es1.size := by rw [← Array.length_toList, pm.length_eq, Array.length_toList]
    have b2 : es2.size < scanBound := z2 ▸ b1
    refine wpAny_bind (hg _ _ _ ?_)
    refine wpAny_bind (wpAny_storeSet_of q1 rfl ?_ (fits_of_scanBound b2))
    have q2 := store_at (es' := es2) (t' := t3) q1 rfl
    have m2 : ∀ k, S' k = true ↔ ∃ e ∈ es2.toList, kd.is k e.2 = true := fun k => (m1 k).trans ⟨fun ⟨e, he, q⟩ => ⟨e, pm.mem_iff.mpr he, q⟩, fun ⟨e, he, q⟩ => ⟨e, pm.mem_iff.mp he, q⟩⟩
    exact wpAny_pure (hR _ (k1.trans (Heap.SameBut.update _ a _)) ⟨_, es2, _, t3, ⟨q2, hex, rfl, el1.perm pm, m2, b2, f3, z2, r3, l2.imp id fun z => l3 ▸ z, (pm.pairwise_iff (fun h => Apart.symm h)).mpr nd1⟩⟩)
  · rw [if_neg hc]
    exact wpAny_pure (hR _ k1 ⟨_, es1, _, t2, ⟨q1, hex, rfl, el1, m1, b1, f2, rfl, r2, l2, nd1⟩⟩)

theorem addG {k : κ} {x : Value} {Q : Bool → Shared → Prop} (hk : kd.is k x = true) (hx : x.scannable = true) (R : SetAtG kd s.heap a S n) (hroom : n + 1 < scanBound)
    (hQ : ∀ h', Heap.SameBut a s.heap h' → SetAtG kd h' a (fun j => S j || decide (j = k)) (if S k = true then n else n + 1) → Q (!S k) { s with heap := h' }) :
    wpAny (model P w) A (setAddHashed a x (kd.hash k)) Q E s := by
  obtain ⟨o, es, ep, t, R⟩ := R
  have bz : es.size + 1 < scanBound := by rw [R.num]; exact hroom
  unfold setAddHashed setAddHashedIn
  refine wpAny_holding (wpAny_bind (wpAny_setState_of R.at_ R.dat R.fit ?_))
  dsimp only
  rw [byScan_of hx R.room R.els]
  simp only [↓reduceIte]
  unfold setAddByScan
  refine wpAny_bind (wpAny_bind (wpAny_rule (wpAny_bind (wpAny_setScan_of hk R.at_ R.dat R.fit R.els ?_))))
  cases hfi : List.findIdx? (fun e => kd.is k e.2) es.toList with
  | some j =>
    obtain ⟨hj, pj, _⟩ := List.findIdx?_eq_some_iff_getElem.mp hfi
    have hS : S k = true := (R.mem k).mpr ⟨_, List.getElem_mem hj, pj⟩
    refine wpAny_pure (wpAny_pure ?_)
    have q := hQ s.heap (Heap.SameBut.refl a s.heap) ⟨o, es, ep, t, ⟨R.at_, R.ex, R.dat, R.els, fun i => (by
      rw [Bool.or_eq_true, decide_eq_true_eq, ← R.mem i]
      exact ⟨fun z => z.elim id (fun e => e ▸ hS), .inl⟩), R.room, R.fit, (by rw [if_pos hS]; exact R.num), R.ris, R.led, R.nd⟩⟩
    rw [hS] at q
    exact q
  | none =>
    have hno : ∀ e ∈ es.toList, kd.is k e.2 = false := fun e he => by
      have c := List.findIdx?_eq_none_iff.mp hfi e he
      cases q : kd.is k e.2 with
      | false => rfl
      | true => rw [q] at c; cases c
    have hS : S k = false := by
      cases q : S k with
      | false => rfl
      | true =>
        obtain ⟨e, he, z⟩ := (R.mem k).mp q
        rw [hno e he] at z; cases z
    have pm := layNew_perm t es (kd.hash k) x
    have f1 := layNew_fits t es (kd.hash k) x
    have r1 := layNew_ris t es (kd.hash k) x R.ris
    have l1 := layNew_led t es (kd.hash k) x
    dsimp only
    generalize layNew t es (kd.hash k) x = Z at pm f1 r1 l1 ⊢
    obtain ⟨es1, t1, wasD, gv⟩ := Z
    dsimp only at pm f1 r1 l1 ⊢
    rw [Array.toList_push] at pm
    have el1 : ElemsOf kd es1.toList := (R.els.push hk hx).perm pm
    have m1 : ∀ i, (S i || decide (i = k)) = true ↔ ∃ e ∈ es1.toList, kd.is i e.2 = true := mem_push_iff hk R.mem pm
    have nd1 : es1.toList.Pairwise (Apart kd) := by
      refine (pm.pairwise_iff (fun h => Apart.symm h)).mpr (List.pairwise_append.mpr ⟨R.nd, List.pairwise_singleton _ _, fun e he f hf => ?_⟩)
      rw [List.mem_singleton.mp hf]
      refine Apart.symm fun j hj => ?_
      have : j = k := kd.inj x j k hj hk
      rw [this]; exact hno e he
    have z1 : es1.size = n + 1 := by rw [← Array.length_toList, pm.length_eq, List.length_append, Array.length_toList, R.num]; rfl
    have b1 : es1.size < scanBound := by rw [z1]; exact hroom
    have ld : w.params.followText "set-order" = true ∨ t1.led = true := R.led.imp id fun z => by rw [l1]; exact z
    have fin : ∀ h', Heap.SameBut a s.heap h' → SetAtG kd h' a (fun j => S j || decide (j = k)) es1.size → Q true { s with heap := h' } := fun h' sb r => by
      have q := hQ h' sb
      rw [hS] at q
      rw [z1] at r
      exact q r
    have gw : ∀ (b : Bool) {s₁ : Shared} {Q' : Unit → Shared → Prop}, Q' () s₁ → wpAny (model P w) A (match b with | true => rule "set.scan.the-table-gave-way" | false => pure ()) Q' E s₁ :=
      fun b s₁ Q' q => by cases b <;> first | exact wpAny_pure q | exact wpAny_rule q
    refine wpAny_bind (gw _ ?_)
    split
    · refine wpAny_bind ?_
      rw [hashByValue_scannable 8 hx]
      refine wpAny_pure (addG_tail (fun b s₁ Q' q => by cases b <;> first | exact wpAny_pure q | exact wpAny_rule q) R.at_ R.ex R.dat el1 m1 nd1 b1 ?_ ?_ ?_ ?_)
      · split <;> first | exact f1 | exact SetTable.fits_plain_off f1
      · split <;> exact r1
      · split <;> exact ld
      · intro h' sb r; dsimp only; exact wpAny_pure (fin h' sb r)
    · refine wpAny_bind (wpAny_pure ?_)
      simp only [↓reduceIte]
      refine addG_tail (fun b s₁ Q' q => by cases b <;> first | exact wpAny_pure q | exact wpAny_rule q) R.at_ R.ex R.dat el1 m1 nd1 b1 f1 r1 ld ?_
      intro h' sb r; dsimp only; exact wpAny_pure (fin h' sb r)
end gen
end Ag

set_option Elab.async false
set_option linter.all false
set_option maxRecDepth 100000
set_option maxHeartbeats 4000000
namespace Ag
open PySem PySem.Spec PyProof.Rows L2
section
variable {P : Program} {w : World} {A : Around} {E : Value → Shared → Prop}

/-- set.update's loop over texts -/
theorem upd_loop {I : Addr} {fp wr : List Addr} {G : Array GenState → Array GenState → Prop} {n : Nat} {Pv : Nat → Value → Prop} {St : Nat → Shared → Prop} {R : Result → Shared → Prop}
    (W : WalksS P w A.in1 I fp wr G n Pv St) (C : Addr) (hC : C ∉ fp) (xs : List Str) (hn : n = xs.length) (hb : xs.length + 1 < scanBound) (hv : ∀ i v, Pv i v → ∃ x t, xs[i]? = some x ∧ v = .str x t) :
    ∀ (j i : Nat) (s : Shared), n - i = j → i ≤ n → St i s → (∃ S m, SetAtG (PySem.strKind P w) s.heap C S m ∧ m ≤ i ∧ ∀ k, S k = true ↔ k ∈ xs.take i) →
      (∀ s' S m, Moved (C :: wr) G s s' → SetAtG (PySem.strKind P w) s'.heap C S m → m ≤ n → (∀ k, S k = true ↔ k ∈ xs) → R (.ok (.ret .none)) s') →
      codeAny (model P w) A (.builtin "set.update.loop" ⟨[.ref C, .ref I], []⟩) R s := by
  have hCw : C ∉ wr := fun z => hC (W.sub _ z)
  have wide : ∀ b ∈ wr, b ∈ C :: wr := fun b z => List.mem_cons_of_mem _ z
  intro j
  induction j with
  | zero =>
    intro i s hj hi st ⟨S, m, hS, hm, hk⟩ hR
    obtain rfl : i = n := by omega
    refine codeAny_builtin F.entry_set_update_loop ?_
    rw [Around.under_plainId F.plain_set_update_loop _]
    show wpAny _ A.in1 (pyNext (.ref I) >>= _) _ _ s
    refine wpAny_bind (W.done s _ _ st fun s' mv => ?_)
    show wpAny _ A.in1 (ret Value.none) _ _ s'
    refine wpAny_pure (hR s' S m (mv.mono wide) (hS.keep fun o e => mv.heap C o hCw e) hm fun k => ?_)
    rw [hk k, hn, List.take_length]
  | succ j ih =>
    intro i s hj hi st ⟨S, m, hS, hm, hk⟩ hR
    have lt : i < n := by omega
    refine codeAny_builtin F.entry_set_update_loop ?_
    rw [Around.under_plainId F.plain_set_update_loop _]
    show wpAny _ A.in1 (pyNext (.ref I) >>= _) _ _ s
    refine wpAny_bind (W.item i s _ _ lt st fun v s' pv st' mv => ?_)
    obtain ⟨x, tk, hx, rfl⟩ := hv i v pv
    have hS' := hS.keep (h' := s'.heap) fun o e => mv.heap C o hCw e
    show wpAny _ A.in1 (holding [Value.str x tk] (setAdd C (.str x tk)) >>= _) _ _ s'
    refine wpAny_bind (wpAny_holding ?_)
    unfold setAdd
    refine wpAny_holding (wpAny_bind ((PySem.strKind P w).pyHash (k := x) (strKind_is _ _ _ _) ?_))
    refine addG (kd := PySem.strKind P w) (s := { s' with toks := s'.toks + 1 }) (strKind_is _ _ _ _) rfl hS' (by omega) fun h' sb hS2 => ?_
    have tk1 : xs.take (i + 1) = xs.take i ++ [x] := by rw [List.take_succ, hx]; rfl
    refine wpAny_pure ⟨plainId_quiet F.plain_set_update_loop _, ih (i + 1) _ (by omega) lt (W.frame _ s' _ _ st' (Nat.le_succ _) fun b z o e => ?_) ⟨_, _, hS2, ?_, fun k => ?_⟩ fun s2 S2 m2 mv2 h2 l2 k2 => hR s2 S2 m2 ?_ h2 l2 k2⟩
    · rw [sb.2 b (fun q => hC (q ▸ z))]; exact e
    · split <;> omega
    · rw [tk1, Bool.or_eq_true, hk k, List.mem_append, List.mem_singleton, decide_eq_true_eq]
    · refine Moved.trans W.gtrans ((mv.mono wide).then_heap (Nat.le_succ _) fun b o z e => ?_) mv2
      rw [sb.2 b (fun q => z (q ▸ List.mem_cons_self))]; exact e

set_option maxHeartbeats 4000000 in
theorem set_of_strs {s : Shared} {l : Addr} {items : Array Value} {xs : List Str} {Q : Value → Shared → Prop} (hh : A.handled = none) (hl : s.heap.IsList l items) (hi : StrsAre items.toList xs) (hb : xs.length + 1 < scanBound)
    (hQ : ∀ (h' : Heap) (tk : Nat) S m, SetAtG (PySem.strKind P w) h' s.heap.objs.size S m → m ≤ xs.length → (∀ k, S k = true ↔ k ∈ xs) → (∀ b o, s.heap.get? b = some o → h'.get? b = some o) → Q (.ref s.heap.objs.size) { s with heap := h', toks := tk }) :
    wpAny (model P w) A (call (.type "set") [.ref l]) Q E s := by
  have isz : items.size = xs.length := by rw [← StrsAre.len_eq hi, Array.length_toList]
  obtain ⟨c, tl, hmro⟩ := F.called_set.mro
  have hmade := F.called_set.made
  have hsub := F.called_set.sub
  refine wpAny_call (codeAny_of_tree ?_)
  show wpAny _ _ (callAny (.type "set") _) _ _ _
  refine wpAny_pure ⟨Code.quiet_builtin _ (by decide +kernel), codeAny_builtin F.entry_type_call ?_⟩
  rw [Around.under_plain (weight_type_call_type "set" [.ref l] []) rfl]
  have h1 := F.called_set.notType
  have h2 := F.called_set.canCreate
  have hct := F.typeCall_set_1 (.ref l)
  repeat (any_goals (first | assumption | wp_step))
  refine codeAny_mono (code_set_led1 (.ref l) (E := E) (Q₁ := fun obj s₁ => obj = .ref s.heap.objs.size ∧ s₁ = { s with heap := s.heap.push ({ cls := .type "set", dict := none, data := .set #[] 0 (.fresh 0 0 (!w.params.followText "set-order")) } : Obj) }) ⟨rfl, rfl⟩) fun r s₁ hr => ?_
  cases r with
  | error e => exact hr
  | ok fl =>
    cases fl with
    | ret obj =>
      obtain ⟨rfl, rfl⟩ := hr
      have hS : (s.heap.push ({ cls := .type "set", dict := none, data := .set #[] 0 (.fresh 0 0 (!w.params.followText "set-order")) } : Obj)).get? s.heap.objs.size = some ({ cls := .type "set", dict := none, data := .set #[] 0 (.fresh 0 0 (!w.params.followText "set-order")) } : Obj) := Heap.get?_push_size _ rfl
      have hT : Shared.TypeIs { s with heap := s.heap.push ({ cls := .type "set", dict := none, data := .set #[] 0 (.fresh 0 0 (!w.params.followText "set-order")) } : Obj) } (.ref s.heap.objs.size) "set" := ⟨_, hS, rfl⟩
      have hli := F.called_set.init.lookup
      have hbi := F.called_set.init.bind (.ref s.heap.objs.size)
      repeat (any_goals (first | assumption | wp_step))
      refine codeAny_mono (codeAny_call_builtin (R := wants (fun r s₂ => r = .none ∧ ∃ h' tk S m, s₂ = { s with heap := h', toks := tk } ∧ SetAtG (PySem.strKind P w) h' s.heap.objs.size S m ∧ m ≤ xs.length ∧ (∀ k, S k = true ↔ k ∈ xs) ∧
          (∀ b o, s.heap.get? b = some o → h'.get? b = some o)) E) F.called_set.init.plain F.entry_set_init (check_set_init_1 hT ?_)) fun r₂ s₂ hr₂ => ?_
      · obtain ⟨ol, hol, hcl, nl, hdl⟩ := hl
        obtain ⟨ocls, odict, odata, oslots⟩ := ol
        simp only at hcl hdl
        subst hcl; subst hdl
        have hol1 : (s.heap.push ({ cls := .type "set", dict := none, data := .set #[] 0 (.fresh 0 0 (!w.params.followText "set-order")) } : Obj)).get? l = some { cls := .type "list", dict := odict, data := .seq items nl, slots := oslots } := Heap.get?_push_of_some _ hol
        have hsls := F.sub_list_set
        have hslf := F.sub_list_frozenset
        have hne : (Value.type "list" == Value.type "dict") = false := by decide
        have hl1 : (s.heap.push ({ cls := .type "set", dict := none, data := .set #[] 0 (.fresh 0 0 (!w.params.followText "set-order")) } : Obj)).IsList l items := ⟨_, hol1, rfl, nl, rfl⟩
        unfold Builtin.«set.__init__» noKeywords Builtin.Frozenset.updateFrom
        generalize hPI : pyIter = PI
        wp_walk
        subst hPI
        refine wpAny_pyIter_list hl1 ?_
        refine wpAny_bind (wpAny_runValue ?_)
        have llt : l < s.heap.objs.size := Heap.lt_size hol
        have hh3 : A.in1.in1.in1.handled = none := by simp [hh]
        have z1 : (s.heap.push ({ cls := .type "set", dict := none, data := .set #[] 0 (.fresh 0 0 (!w.params.followText "set-order")) } : Obj)).objs.size = s.heap.objs.size + 1 := Heap.size_push ..
        have ne1 : l ≠ (s.heap.push ({ cls := .type "set", dict := none, data := .set #[] 0 (.fresh 0 0 (!w.params.followText "set-order")) } : Obj)).objs.size := by rw [z1]; exact Nat.ne_of_lt (Nat.lt_succ_of_lt llt)
        have hnf : s.heap.objs.size ∉ [(s.heap.push ({ cls := .type "set", dict := none, data := .set #[] 0 (.fresh 0 0 (!w.params.followText "set-order")) } : Obj)).objs.size, l] := by
          rw [z1]; intro z
          rcases List.mem_cons.mp z with z | z
          · exact Nat.ne_of_lt (Nat.lt_succ_self _) z
          · exact Nat.ne_of_gt llt (List.mem_singleton.mp z)
        have hval : ∀ (i : Nat) (v : Value), items[i]? = some v → ∃ x t, xs[i]? = some x ∧ v = .str x t := fun i v q => by
          have q2 : items.toList[i]? = some v := by rw [Array.getElem?_toList]; exact q
          obtain ⟨t, e⟩ := SS.strs_at hi i v q2
          have il : i < xs.length := by rw [← isz, ← Array.length_toList]; exact (List.getElem?_eq_some_iff.mp q2).1
          refine ⟨_, t, ?_, e⟩
          rw [List.getD_eq_getElem?_getD, List.getElem?_eq_getElem il]; rfl
        refine upd_loop ((Walks.list hh3 _ l ne1 items).toS) s.heap.objs.size hnf xs isz hb hval (items.size - 0) 0 _ (by omega) (Nat.zero_le _)
          ⟨⟨_, Heap.get?_push_size _ rfl, rfl, rfl⟩, (hl1.push _)⟩ ⟨_, 0, SetAtG.fresh (kd := PySem.strKind P w) (Heap.get?_push_of_some _ hS), Nat.le_refl _, fun k => (by simp)⟩ fun s' S m mv hS' hm hk => ?_
        obtain ⟨h', g2, d', tk', os'⟩ := s'
        have eg : g2 = s.gens := mv.gens
        have ed : d' = s.drawn := mv.drawn
        have eo : os' = s.os := mv.os
        subst eg; subst ed; subst eo
        show wpAny _ _ _ _ _ _
        refine wpAny_pure ?_
        show wpAny _ _ (ret Value.none) _ _ _
        refine wpAny_pure ⟨rfl, h', tk', S, m, rfl, hS', by rw [← isz]; exact hm, hk, fun b o e => mv.heap b o (fun z => ?_) (Heap.get?_push_of_some _ (Heap.get?_push_of_some _ e))⟩
        have lb := Heap.lt_size e
        rcases List.mem_cons.mp z with z | z
        · exact Nat.ne_of_lt lb z
        · exact Nat.ne_of_lt (Nat.lt_succ_of_lt lb) ((List.mem_singleton.mp z).trans z1)
      · cases r₂ with
        | error e => exact hr₂
        | ok fl₂ =>
          cases fl₂ with
          | ret r =>
            obtain ⟨rfl, h', tk, S, m, rfl, hS', hm, hk, kp⟩ := hr₂
            repeat (any_goals (first | assumption | wp_step))
            exact hQ _ _ _ _ hS' hm hk kp
          | _ => exact hr₂.elim
    | _ => exact hr.elim
end
end Ag

set_option Elab.async false
set_option linter.all false
set_option maxRecDepth 100000
set_option maxHeartbeats 4000000
namespace Ag
open PySem PySem.Spec PyProof.Rows L2
section
variable {P : Program} {w : World} {A : Around} {E : Value → Shared → Prop} {s : Shared}

theorem strs_pick : ∀ (l : List (Int × Value)), ElemsOf (PySem.strKind P w) l → ∃ xs : List Str, StrsAre (l.map (·.2)) xs ∧ ∀ k, k ∈ xs ↔ ∃ e ∈ l, (PySem.strKind P w).is k e.2 = true
  | [], _ => ⟨[], .nil, fun k => by simp⟩
  | e :: l, h => by
    obtain ⟨xs, r, m⟩ := strs_pick l h.tail
    obtain ⟨⟨k, hk, _⟩, _⟩ := h.head
    obtain ⟨t, q⟩ := Value.isStrOf_shape (x := k) (v := e.2) hk
    refine ⟨k :: xs, ?_, fun j => ?_⟩
    · show StrsAre (e.2 :: l.map (·.2)) _
      rw [q]; exact .cons k t r
    · rw [List.mem_cons, m j]
      constructor
      · rintro (rfl | ⟨f, hf, z⟩)
        · exact ⟨e, List.mem_cons_self, hk⟩
        · exact ⟨f, List.mem_cons_of_mem _ hf, z⟩
      · rintro ⟨f, hf, z⟩
        rcases List.mem_cons.mp hf with rfl | hf
        · exact .inl ((PySem.strKind P w).inj _ _ _ z hk)
        · exact .inr ⟨f, hf, z⟩

theorem strs_of_perm : ∀ {us vs : List Value} {xs : List Str}, us.Perm vs → StrsAre vs xs → ∃ ys : List Str, StrsAre us ys ∧ ys.Perm xs := by
  intro us vs xs p
  induction p generalizing xs with
  | nil => intro h; cases h; exact ⟨[], .nil, .nil⟩
  | cons v _ ih =>
    intro h
    cases h with
    | cons x t r =>
      obtain ⟨ys, a, b⟩ := ih r
      exact ⟨x :: ys, .cons x t a, b.cons x⟩
  | swap v u l =>
    intro h
    cases h with
    | cons x t r =>
      cases r with
      | cons y t' r' => exact ⟨y :: x :: _, .cons y t' (.cons x t r'), .swap x y _⟩
  | trans _ _ ih1 ih2 =>
    intro h
    obtain ⟨ys, a, b⟩ := ih2 h
    obtain ⟨zs, c, d⟩ := ih1 a
    exact ⟨zs, c, d.trans b⟩

theorem strsAre_inj : ∀ {us : List Value} {xs ys : List Str}, StrsAre us xs → StrsAre us ys → xs = ys
  | _, _, _, .nil, h => by cases h; rfl
  | _, _, _, .cons x t r, h => by
    cases h with
    | cons y t' r' => rw [strsAre_inj r r']

theorem strs_nodup : ∀ {l : List (Int × Value)} {xs : List Str}, StrsAre (l.map (·.2)) xs → l.Pairwise (Apart (PySem.strKind P w)) → ElemsOf (PySem.strKind P w) l → xs.Nodup
  | [], _, .nil, _, _ => List.nodup_nil
  | e :: l, _, h, nd, el => by
    obtain ⟨v, hv⟩ : ∃ v, e.2 = v := ⟨_, rfl⟩
    rw [List.map_cons, hv] at h
    cases h with
    | cons x t r =>
      obtain ⟨n1, n2⟩ := List.pairwise_cons.mp nd
      refine List.nodup_cons.mpr ⟨fun hx => ?_, strs_nodup r n2 el.tail⟩
      obtain ⟨ys, r', m⟩ := strs_pick (P := P) (w := w) l el.tail
      have same : ys = _ := strsAre_inj r' r
      subst same
      obtain ⟨f, hf, z⟩ := (m x).mp hx
      have := n1 f hf x (by rw [hv]; exact strKind_is _ _ _ _)
      rw [z] at this; cases this

theorem sorted_of_strset {a : Addr} {S : Str → Bool} {m : Nat} {Q : Value → Shared → Prop} (R : SetAtG (PySem.strKind P w) s.heap a S m) (hh : A.handled = none)
    (hQ : ∀ s' p (out : Array Value) (c : Nat) (ys : List Str), (∀ b o, s.heap.get? b = some o → s'.heap.get? b = some o) → s'.gens = s.gens → s'.os = s.os → s.heap.objs.size ≤ p →
      s'.heap.get? p = some (seqObj "list" out c) → StrsAre out.toList ys → sortedS ys = true → ys.Nodup → (∀ k, k ∈ ys ↔ S k = true) → ys.length = m → Q (.ref p) s') :
    wpAny (model P w) A (call (.builtin "sorted") [.ref a]) Q E s := by
  obtain ⟨o, es, ep, t, R⟩ := R
  obtain ⟨xs, hxs, mx⟩ := strs_pick (P := P) (w := w) es.toList R.els
  have nx := strs_nodup hxs R.nd R.els
  refine Calls.call_function_entry kind_sorted plain_sorted entry_sorted (args_sorted1 _) ?_
  unfold Builtin.«sorted»
  refine wpAny_bind (m := checkCount "sorted" 1 1 _) (wpAny_pure ?_)
  refine wpAny_bind (collect_set (A := A.in1) hh ⟨o, R.at_, R.ex.1, R.dat⟩ R.fit R.room R.ris R.led fun s1 vs k1 hz g1 o1 pm => ?_)
  have vl : vs.length = m := by rw [pm.length_eq, List.length_map, Array.length_toList]; exact R.num
  obtain ⟨zs, hzs, pz⟩ := strs_of_perm pm hxs
  have mb : m < scanBound := R.num ▸ R.room
  have small : vs.length ≤ sizeLine := by rw [vl]; exact fits_of_scanBound mb
  refine wpAny_bind (wpAny_newList ?_ small)
  have hoL : (s1.heap.push (seqObj "list" vs.toArray 0)).get? s1.heap.objs.size = some (seqObj "list" vs.toArray 0) := Heap.get?_push_size _ rfl
  refine wpAny_bind (wpAny_holding (wpAny_call_entry slot_list_sort ⟨_, hoL, rfl⟩ entry_list_sort (list_sort_treeKAny strKind_oneLt hoL hzs.keysOf (fun v₁ v₂ rest e => keyKind_strs (by rw [← e]; exact hzs)) small fun st' hp hs => ⟨_, rfl, ?_⟩) (args_list_sort _)))
  obtain ⟨ys, a1, a2, a3⟩ := sorted_out_str hzs hp hs
  obtain ⟨c, hc⟩ := sortedHeap_at (vs := vs) (out := (arrOf st').map (·.2)) hoL
  have py : ys.Perm xs := a2.trans pz
  refine wpAny_pure ⟨_, rfl, hQ _ s1.heap.objs.size _ c ys (fun b u e => ?_) g1 o1 hz hc a1 a3 (py.nodup_iff.mpr nx) (fun k => by rw [py.mem_iff, mx k, ← R.mem k]) ?_⟩
  · have q := k1 b u e
    have lt := Heap.lt_size q
    show (sortedHeap (s1.heap.push (seqObj "list" vs.toArray 0)) s1.heap.objs.size vs _).get? b = some u
    rw [sortedHeap_old (Nat.ne_of_lt lt) (by rw [size_push']; exact Nat.lt_succ_of_lt lt)]
    exact Heap.get?_push_of_some _ q
  · have h1 := StrsAre.len_eq hzs
    rw [a2.length_eq, ← h1, vl]
end

/-! ### over the layer -/
/-- the set of the texts xs, at a -/
def StrSet (P : Program) (w : World) (a : Addr) (xs : List Str) : HO := .ext fun h => ∃ S m, SetAtG (PySem.strKind P w) h a S m ∧ m ≤ xs.length ∧ ∀ k, S k = true ↔ k ∈ xs
def rSetS (K : PySem.W.Frag) (P : Program) (w : World) : List V → Hp → VK → Prop := fun vs H Q => ∃ (a : Addr) (xs : List Str), vs = [V.ref a] ∧ (SqL K H a (xs.map V.str)) ∧ xs.length < 4000 ∧
  ∀ p, H p = none → Q (.ref p) (upd H p (StrSet P w p xs))
def rSortSetS (P : Program) (w : World) : List V → Hp → VK → Prop := fun vs H Q => ∃ (a : Addr) (xs : List Str), vs = [V.ref a] ∧ H a = some (StrSet P w a xs) ∧
  ∀ ys p, sortedS ys = true → ys.Nodup → (∀ k, k ∈ ys ↔ k ∈ xs) → H p = none → Q (.ref p) (upd H p (.lst (ys.map V.str)))
theorem cr_setS {X : Cx} (hc : X.calm = true) : CallR X (.type "set") (rSetS X.K X.prog X.w) := by
  intro pins s σ H vs us Q I r h
  obtain ⟨a, xs, rfl, hs, hb, q⟩ := h
  obtain ⟨its, rv, hl, _⟩ := I.list hs
  rw [Vals.ref1 r]
  have hn : H s.heap.objs.size = none := I.hok.fresh (Nat.le_refl _)
  refine set_of_strs (P := X.prog) (w := X.w) (I.ok.hd hc) hl.isList rv.strs (by unfold scanBound; omega) fun h' tk S m hS hm hk kp => ?_
  refine ⟨.ref s.heap.objs.size, upd H s.heap.objs.size (StrSet X.prog X.w s.heap.objs.size xs), I.laid (t' := tk) kp (Nat.le_refl _) ?_, rfl, q _ hn⟩
  refine ⟨⟨S, m, hS, hm, hk⟩, ?_, ?_⟩
  · obtain ⟨o, es, ep, t, R⟩ := hS
    exact ⟨o, R.at_⟩
  · rintro h1 h2 ⟨S, m, hS, hm, hk⟩ e
    exact ⟨S, m, hS.keep e, hm, hk⟩
theorem cr_sortSetS {X : Cx} (hc : X.calm = true) : CallR X (.builtin "sorted") (rSortSetS X.prog X.w) := by
  intro pins s σ H vs us Q I r h
  obtain ⟨a, xs, rfl, ha, q⟩ := h
  obtain ⟨⟨S, m, hS, hm, hk⟩, _⟩ := I.hok a _ ha
  rw [Vals.ref1 r]
  refine sorted_of_strset hS (I.ok.hd hc) fun s' p out c ys kp g o hp hg hout srt nd mem hlen => ?_
  have hn : H p = none := I.hok.fresh hp
  have mb : m < scanBound := by
    obtain ⟨o, es, ep, t, R⟩ := hS
    exact R.num ▸ R.room
  have small : (ys.map V.str).length ≤ sizeLine := by rw [List.length_map, hlen]; exact fits_of_scanBound mb
  have J : Inv X pins σ (upd H p (.lst (ys.map V.str))) { s with heap := s'.heap, gens := s'.gens, drawn := s'.drawn, toks := s'.toks } :=
    I.call (ch := []) (Un.laid kp hp hn) (I.hok.laid kp hp ⟨small, out.toList, c, vals_of_strs hout, hg⟩) (by rw [g]; exact I.bare) (fun _ z => nomatch z)
  have e : s' = { s with heap := s'.heap, gens := s'.gens, drawn := s'.drawn, toks := s'.toks } := by
    cases s'; cases s; cases o; rfl
  rw [e]
  exact ⟨.ref p, _, J, rfl, q ys p srt nd (fun k => (mem k).trans (hk k)) hn⟩
end Ag

set_option Elab.async false
set_option linter.all false
set_option maxRecDepth 100000
set_option maxHeartbeats 1000000
/-! Data: what a reading of an expression over plain values gives, with the heap only growing. -/
namespace Ag
open PySem PySem.Spec PyProof.Rows L2

/-! ### heaps that keep -/
theorem _root_.L2.Same.newA {H : Hp} {p : Addr} {o : HO} (h : H p = none) : Same H (upd H p o) := fun a u e => by
  rw [upd_ne (ne_of_none e h)]; exact e
theorem _root_.L2.Same.rdA {H H' : Hp} {a : Addr} {u : HO} (e : Same H H') (h : Rd H a u) : Rd H' a u :=
  h.elim (fun z => .inl (e _ _ z)) fun ⟨o, z⟩ => .inr ⟨o, e _ _ z⟩
theorem _root_.L2.Same.slA {K : PySem.W.Frag} {H H' : Hp} {a : Addr} {xs : List V} (e : Same H H') (h : SqL K H a xs) : SqL K H' a xs := h.imp e.rdA id
theorem _root_.L2.Same.stA {K : PySem.W.Frag} {H H' : Hp} {a : Addr} {xs : List V} (e : Same H H') (h : SqT K H a xs) : SqT K H' a xs := h.imp e.rdA id
theorem _root_.L2.Same.freshA {H H' : Hp} {p : Addr} (e : Same H H') (h : H' p = none) : H p = none := e.free h

/-! ### plain data -/
mutual
theorem dp_mono {K : PySem.W.Frag} {H H' : Hp} (e : Same H H') : ∀ {v : V} {d : PyData}, Dp K H v d → Dp K H' v d
  | _, _, .non => .non
  | _, _, .bl b => .bl b
  | _, _, .int i => .int i
  | _, _, .str x => .str x
  | _, _, .lst h r => .lst (e.slA h) (dps_mono e r)
  | _, _, .tup h r => .tup (e.stA h) (dps_mono e r)
theorem dps_mono {K : PySem.W.Frag} {H H' : Hp} (e : Same H H') : ∀ {vs : List V} {ds : List PyData}, DpAll K H vs ds → DpAll K H' vs ds
  | _, _, .nil => .nil
  | _, _, .cons h r => .cons (dp_mono e h) (dps_mono e r)
end
theorem dps_len {K : PySem.W.Frag} {H : Hp} : ∀ {vs : List V} {ds : List PyData}, DpAll K H vs ds → vs.length = ds.length
  | _, _, .nil => rfl
  | _, _, .cons _ r => by rw [List.length_cons, List.length_cons, dps_len r]
theorem dps_get {K : PySem.W.Frag} {H : Hp} : ∀ {vs : List V} {ds : List PyData} {i : Nat} {d : PyData}, DpAll K H vs ds → ds[i]? = some d → ∃ v, vs[i]? = some v ∧ Dp K H v d
  | _, _, _, _, .nil, h => by simp at h
  | _, _, 0, _, .cons a r, h => by simp at h; subst h; exact ⟨_, rfl, a⟩
  | _, _, i + 1, _, .cons a r, h => by
    obtain ⟨v, e, q⟩ := dps_get (i := i) r (by simpa using h)
    exact ⟨v, by simpa using e, q⟩
theorem dps_get' {K : PySem.W.Frag} {H : Hp} : ∀ {vs : List V} {ds : List PyData} {i : Nat} {v : V}, DpAll K H vs ds → vs[i]? = some v → ∃ d, ds[i]? = some d ∧ Dp K H v d
  | _, _, _, _, .nil, h => by simp at h
  | _, _, 0, _, .cons a r, h => by simp at h; subst h; exact ⟨_, rfl, a⟩
  | _, _, i + 1, _, .cons a r, h => by
    obtain ⟨v, e, q⟩ := dps_get' (i := i) r (by simpa using h)
    exact ⟨v, by simpa using e, q⟩
theorem dps_app {K : PySem.W.Frag} {H : Hp} : ∀ {vs us : List V} {ds es : List PyData}, DpAll K H vs ds → DpAll K H us es → DpAll K H (vs ++ us) (ds ++ es)
  | _, _, _, _, .nil, q => q
  | _, _, _, _, .cons a r, q => .cons a (dps_app r q)
theorem dps_take {K : PySem.W.Frag} {H : Hp} : ∀ {vs : List V} {ds : List PyData} (n : Nat), DpAll K H vs ds → DpAll K H (vs.take n) (ds.take n)
  | _, _, 0, _ => .nil
  | _, _, _ + 1, .nil => .nil
  | _, _, n + 1, .cons a r => .cons a (dps_take n r)
theorem dps_drop {K : PySem.W.Frag} {H : Hp} : ∀ {vs : List V} {ds : List PyData} (n : Nat), DpAll K H vs ds → DpAll K H (vs.drop n) (ds.drop n)
  | _, _, 0, h => h
  | _, _, _ + 1, .nil => .nil
  | _, _, n + 1, .cons _ r => dps_drop n r
theorem dps_strs {K : PySem.W.Frag} {H : Hp} : ∀ (xs : List Str), DpAll K H (xs.map V.str) (xs.map .str)
  | [] => .nil
  | x :: xs => .cons (.str x) (dps_strs xs)
theorem strs_dps {K : PySem.W.Frag} {H : Hp} : ∀ {xs : List Str} {vs : List V}, DpAll K H vs (xs.map .str) → vs = xs.map V.str
  | [], _, h => by cases h; rfl
  | x :: xs, _, h => by
    cases h with
    | cons a r => cases a; rw [strs_dps r]; rfl
theorem ints_dps {K : PySem.W.Frag} {H : Hp} : ∀ {xs : List Int} {vs : List V}, DpAll K H vs (xs.map .int) → vs = xs.map V.int
  | [], _, h => by cases h; rfl
  | x :: xs, _, h => by
    cases h with
    | cons a r => cases a; rw [ints_dps r]; rfl
theorem bls_dps {K : PySem.W.Frag} {H : Hp} : ∀ {xs : List Bool} {vs : List V}, DpAll K H vs (xs.map .bool) → vs = xs.map V.bl
  | [], _, h => by cases h; rfl
  | x :: xs, _, h => by
    cases h with
    | cons a r => cases a; rw [bls_dps r]; rfl


/-! ### data whose lists stand where F allows -/
def KL (K : PySem.W.Frag) (a : Addr) (xs : List V) : Prop := ∃ (o : Obj) (its : Array Value) (n : Nat), K.lookup a = some o ∧ o.cls = .type "list" ∧ o.dict = none ∧ o.data = .seq its n ∧ its.size ≤ sizeLine ∧ Vals xs its.toList
mutual
inductive Df (K : PySem.W.Frag) (F : Addr → Prop) (H : Hp) : V → PyData → Prop
  | non : Df K F H .non .none
  | bl (b : Bool) : Df K F H (.bl b) (.bool b)
  | int (i : Int) : Df K F H (.int i) (.int i)
  | str (x : Str) : Df K F H (.str x) (.str x)
  | lst {a : Addr} {xs : List V} {ds : List PyData} : (Rd H a (.lst xs) ∧ F a) ∨ KL K a xs → DfAll K F H xs ds → Df K F H (.ref a) (.list ds)
  | tup {a : Addr} {xs : List V} {ds : List PyData} : SqT K H a xs → DfAll K F H xs ds → Df K F H (.ref a) (.tuple ds)
inductive DfAll (K : PySem.W.Frag) (F : Addr → Prop) (H : Hp) : List V → List PyData → Prop
  | nil : DfAll K F H [] []
  | cons {v : V} {vs : List V} {d : PyData} {ds : List PyData} : Df K F H v d → DfAll K F H vs ds → DfAll K F H (v :: vs) (d :: ds)
end
section
variable {K : PySem.W.Frag} {F G : Addr → Prop} {H H' : Hp}
mutual
theorem df_dp : ∀ {v : V} {d : PyData}, Df K F H v d → Dp K H v d
  | _, _, .non => .non
  | _, _, .bl b => .bl b
  | _, _, .int i => .int i
  | _, _, .str x => .str x
  | _, _, .lst h r => .lst (h.imp (fun z => z.1) id) (dfs_dps r)
  | _, _, .tup h r => .tup h (dfs_dps r)
theorem dfs_dps : ∀ {vs : List V} {ds : List PyData}, DfAll K F H vs ds → DpAll K H vs ds
  | _, _, .nil => .nil
  | _, _, .cons h r => .cons (df_dp h) (dfs_dps r)
end
mutual
theorem dp_df : ∀ {v : V} {d : PyData}, Dp K H v d → Df K (fun a => H a ≠ none) H v d
  | _, _, .non => .non
  | _, _, .bl b => .bl b
  | _, _, .int i => .int i
  | _, _, .str x => .str x
  | _, _, .lst h r => .lst (h.imp (fun z => ⟨z, by rcases z with z | ⟨o, z⟩ <;> (rw [z]; exact fun q => nomatch q)⟩) id) (dps_dfs r)
  | _, _, .tup h r => .tup h (dps_dfs r)
theorem dps_dfs : ∀ {vs : List V} {ds : List PyData}, DpAll K H vs ds → DfAll K (fun a => H a ≠ none) H vs ds
  | _, _, .nil => .nil
  | _, _, .cons h r => .cons (dp_df h) (dps_dfs r)
end
mutual
theorem df_mono (e : Same H H') (f : ∀ a, F a → G a) : ∀ {v : V} {d : PyData}, Df K F H v d → Df K G H' v d
  | _, _, .non => .non
  | _, _, .bl b => .bl b
  | _, _, .int i => .int i
  | _, _, .str x => .str x
  | _, _, .lst h r => .lst (h.imp (fun z => ⟨e.rdA z.1, f _ z.2⟩) id) (dfs_mono e f r)
  | _, _, .tup h r => .tup (e.stA h) (dfs_mono e f r)
theorem dfs_mono (e : Same H H') (f : ∀ a, F a → G a) : ∀ {vs : List V} {ds : List PyData}, DfAll K F H vs ds → DfAll K G H' vs ds
  | _, _, .nil => .nil
  | _, _, .cons h r => .cons (df_mono e f h) (dfs_mono e f r)
end
theorem rd_other {a D : Addr} {u o : HO} (h : Rd H a u) (n : a ≠ D) : Rd (upd H D o) a u := by
  rcases h with h | ⟨x, h⟩
  · exact .inl (by rw [upd_ne n]; exact h)
  · exact .inr ⟨x, by rw [upd_ne n]; exact h⟩
mutual
/-- a list that the data does not hold is changed -/
theorem df_upd {D : Addr} {ys : List V} {o : HO} (hD : H D = some (.lst ys)) (nf : ¬ F D) : ∀ {v : V} {d : PyData}, Df K F H v d → Df K F (upd H D o) v d
  | _, _, .non => .non
  | _, _, .bl b => .bl b
  | _, _, .int i => .int i
  | _, _, .str x => .str x
  | _, _, .lst h r => .lst (h.imp (fun z => ⟨rd_other z.1 (fun q => nf (q ▸ z.2)), z.2⟩) id) (dfs_upd hD nf r)
  | _, _, .tup h r => .tup (h.imp (fun z => rd_other z (fun q => by
      subst q
      rcases z with z | ⟨x, z⟩ <;> (rw [hD] at z; cases z))) id) (dfs_upd hD nf r)
theorem dfs_upd {D : Addr} {ys : List V} {o : HO} (hD : H D = some (.lst ys)) (nf : ¬ F D) : ∀ {vs : List V} {ds : List PyData}, DfAll K F H vs ds → DfAll K F (upd H D o) vs ds
  | _, _, .nil => .nil
  | _, _, .cons h r => .cons (df_upd hD nf h) (dfs_upd hD nf r)
end
theorem dfs_len : ∀ {vs : List V} {ds : List PyData}, DfAll K F H vs ds → vs.length = ds.length
  | _, _, .nil => rfl
  | _, _, .cons _ r => by rw [List.length_cons, List.length_cons, dfs_len r]
theorem dfs_get : ∀ {vs : List V} {ds : List PyData} {i : Nat} {d : PyData}, DfAll K F H vs ds → ds[i]? = some d → ∃ v, vs[i]? = some v ∧ Df K F H v d
  | _, _, _, _, .nil, h => by simp at h
  | _, _, 0, _, .cons a r, h => by simp at h; subst h; exact ⟨_, rfl, a⟩
  | _, _, i + 1, _, .cons a r, h => by
    obtain ⟨v, e, q⟩ := dfs_get (i := i) r (by simpa using h)
    exact ⟨v, by simpa using e, q⟩
theorem dfs_get' : ∀ {vs : List V} {ds : List PyData} {i : Nat} {v : V}, DfAll K F H vs ds → vs[i]? = some v → ∃ d, ds[i]? = some d ∧ Df K F H v d
  | _, _, _, _, .nil, h => by simp at h
  | _, _, 0, _, .cons a r, h => by simp at h; subst h; exact ⟨_, rfl, a⟩
  | _, _, i + 1, _, .cons a r, h => by
    obtain ⟨d, e, q⟩ := dfs_get' (i := i) r (by simpa using h)
    exact ⟨d, by simpa using e, q⟩
theorem dfs_app : ∀ {vs us : List V} {ds es : List PyData}, DfAll K F H vs ds → DfAll K F H us es → DfAll K F H (vs ++ us) (ds ++ es)
  | _, _, _, _, .nil, q => q
  | _, _, _, _, .cons a r, q => .cons a (dfs_app r q)
theorem dfs_take : ∀ {vs : List V} {ds : List PyData} (n : Nat), DfAll K F H vs ds → DfAll K F H (vs.take n) (ds.take n)
  | _, _, 0, _ => .nil
  | _, _, _ + 1, .nil => .nil
  | _, _, n + 1, .cons a r => .cons a (dfs_take n r)
theorem dfs_drop : ∀ {vs : List V} {ds : List PyData} (n : Nat), DfAll K F H vs ds → DfAll K F H (vs.drop n) (ds.drop n)
  | _, _, 0, h => h
  | _, _, _ + 1, .nil => .nil
  | _, _, n + 1, .cons _ r => dfs_drop n r
theorem dfs_strs : ∀ (xs : List Str), DfAll K F H (xs.map V.str) (xs.map .str)
  | [] => .nil
  | x :: xs => .cons (.str x) (dfs_strs xs)
end
/-- what F allows, or is younger than H1 -/
def Fr (F : Addr → Prop) (H1 : Hp) : Addr → Prop := fun a => F a ∨ H1 a = none
theorem Fr.to {F : Addr → Prop} {H1 H2 : Hp} (s : Same H1 H2) : ∀ a, Fr F H2 a → Fr F H1 a := fun a z => z.imp id fun q => s.freshA q
theorem Fr.base {F : Addr → Prop} {H1 : Hp} : ∀ a, F a → Fr F H1 a := fun a z => .inl z
/-- what stands -/
def nn (H : Hp) : Addr → Prop := fun a => H a ≠ none
/-- all but lists that F does not allow are kept -/
def isLst : HO → Bool | .lst _ => true | _ => false
def SameF (F : Addr → Prop) (H H' : Hp) : Prop := ∀ a u, H a = some u → (F a ∨ isLst u = false) → H' a = some u
theorem SameF.refl {F : Addr → Prop} {H : Hp} : SameF F H H := fun _ _ h _ => h
theorem SameF.trans {F : Addr → Prop} {H H1 H2 : Hp} (a : SameF F H H1) (b : SameF F H1 H2) : SameF F H H2 := fun x u h z => b x u (a x u h z) z
theorem SameF.sub {F G : Addr → Prop} {H H1 : Hp} (a : SameF F H H1) (f : ∀ x, G x → F x) : SameF G H H1 := fun x u h z => a x u h (z.imp (f x) id)
theorem _root_.L2.Same.F {F : Addr → Prop} {H H1 : Hp} (a : Same H H1) : SameF F H H1 := fun x u h _ => a x u h
theorem SameF.upd {F : Addr → Prop} {H : Hp} {D : Addr} {ys : List V} {o : HO} (hD : H D = some (.lst ys)) (nf : ¬ F D) : SameF F H (upd H D o) := fun x u h z => by
  rw [upd_ne (fun q => ?_)]
  · exact h
  · subst q
    rw [hD] at h; cases h
    exact z.elim nf (fun q => nomatch q)
theorem rd_lstF {F : Addr → Prop} {H H1 : Hp} {a : Addr} {xs : List V} (s : SameF F H H1) (h : Rd H a (.lst xs)) (f : F a) : Rd H1 a (.lst xs) := h.elim (fun z => .inl (s _ _ z (.inl f))) fun ⟨o, z⟩ => .inr ⟨o, s _ _ z (.inl f)⟩
theorem sqt_F {K : PySem.W.Frag} {F : Addr → Prop} {H H1 : Hp} {a : Addr} {xs : List V} (s : SameF F H H1) (h : SqT K H a xs) : SqT K H1 a xs := h.imp (fun z => z.elim (fun z => .inl (s _ _ z (.inr rfl))) fun ⟨o, z⟩ => .inr ⟨o, s _ _ z (.inr rfl)⟩) id
mutual
theorem df_monoF {K : PySem.W.Frag} {F : Addr → Prop} {H H1 : Hp} (s : SameF F H H1) : ∀ {v : V} {d : PyData}, Df K F H v d → Df K F H1 v d
  | _, _, .non => .non
  | _, _, .bl b => .bl b
  | _, _, .int i => .int i
  | _, _, .str x => .str x
  | _, _, .lst h r => .lst (h.imp (fun z => ⟨rd_lstF s z.1 z.2, z.2⟩) id) (dfs_monoF s r)
  | _, _, .tup h r => .tup (sqt_F s h) (dfs_monoF s r)
theorem dfs_monoF {K : PySem.W.Frag} {F : Addr → Prop} {H H1 : Hp} (s : SameF F H H1) : ∀ {vs : List V} {ds : List PyData}, DfAll K F H vs ds → DfAll K F H1 vs ds
  | _, _, .nil => .nil
  | _, _, .cons h r => .cons (df_monoF s h) (dfs_monoF s r)
end
/-- a later heap, whose lists allow what stood -/
structure Ext (F : Addr → Prop) (H : Hp) (F2 : Addr → Prop) (H2 : Hp) : Prop where
  same : SameF F H H2
  ok : ∀ a, F a → H a ≠ none → F2 a
theorem Ext.refl {F : Addr → Prop} {H : Hp} : Ext F H F H := ⟨SameF.refl, fun _ h _ => h⟩
mutual
theorem df_in {K : PySem.W.Frag} {F : Addr → Prop} {H : Hp} : ∀ {v : V} {d : PyData}, Df K F H v d → Df K (fun a => F a ∧ H a ≠ none) H v d
  | _, _, .non => .non
  | _, _, .bl b => .bl b
  | _, _, .int i => .int i
  | _, _, .str x => .str x
  | _, _, .lst h r => .lst (h.imp (fun z => ⟨z.1, z.2, by rcases z.1 with z | ⟨o, z⟩ <;> (rw [z]; exact fun q => nomatch q)⟩) id) (dfs_in r)
  | _, _, .tup h r => .tup h (dfs_in r)
theorem dfs_in {K : PySem.W.Frag} {F : Addr → Prop} {H : Hp} : ∀ {vs : List V} {ds : List PyData}, DfAll K F H vs ds → DfAll K (fun a => F a ∧ H a ≠ none) H vs ds
  | _, _, .nil => .nil
  | _, _, .cons h r => .cons (df_in h) (dfs_in r)
end
theorem df_ext {K : PySem.W.Frag} {F F2 : Addr → Prop} {H H2 : Hp} {v : V} {d : PyData} (e : Ext F H F2 H2) (h : Df K F H v d) : Df K F2 H2 v d := df_mono (Same.refl _) (fun a z => e.ok a z.1 z.2) (df_monoF (e.same.sub fun _ z => z.1) (df_in h))
theorem dfs_ext {K : PySem.W.Frag} {F F2 : Addr → Prop} {H H2 : Hp} {v : List V} {d : List PyData} (e : Ext F H F2 H2) (h : DfAll K F H v d) : DfAll K F2 H2 v d := dfs_mono (Same.refl _) (fun a z => e.ok a z.1 z.2) (dfs_monoF (e.same.sub fun _ z => z.1) (dfs_in h))

theorem small5 {n : Nat} (h : n ≤ 100000) : n ≤ sizeLine := Nat.le_trans h (by decide)
theorem lt5 {n : Nat} (h : n < 100000) : n < sizeLine := Nat.lt_of_lt_of_le h (by decide)

/-! ### what evaluates to what, the heap growing -/
def ED (K : PySem.W.Frag) (te : TE) (σ : L2.St) (F : Addr → Prop) (H : Hp) (d : PyData) : Prop := ∀ H1, Same H H1 → ∀ Q : VK, (∀ v H2, Same H1 H2 → Df K (Fr F H1) H2 v d → Q v H2) → te σ H1 Q
def ET (tt : TT) (σ : L2.St) (H : Hp) (b : Bool) : Prop := ∀ H1, Same H H1 → ∀ Q : Bool → Hp → Prop, (∀ H2, Same H1 H2 → Q b H2) → tt σ H1 Q
def EA (K : PySem.W.Frag) (ta : TA) (σ : L2.St) (F : Addr → Prop) (H : Hp) (ds : List PyData) : Prop := ∀ H1, Same H H1 → ∀ Q : List V → Hp → Prop, (∀ vs H2, Same H1 H2 → DfAll K (Fr F H1) H2 vs ds → Q vs H2) → ta σ H1 Q
def EO (to : TO) (σ : L2.St) (H : Hp) (o : Option Int) : Prop := ∀ H1, Same H H1 → ∀ Q : Option Int → Hp → Prop, (∀ H2, Same H1 H2 → Q o H2) → to σ H1 Q

section
variable {K : PySem.W.Frag} {σ : L2.St} {F : Addr → Prop} {H H' : Hp} {ta tb te tc : TE} {t u : TT} {d e : PyData}
theorem ED.mono (s : Same H H') (h : ED K te σ F H d) : ED K te σ F H' d := fun H1 a Q q => h H1 (s.trans a) Q q
theorem ET.mono {b : Bool} (s : Same H H') (h : ET t σ H b) : ET t σ H' b := fun H1 a Q q => h H1 (s.trans a) Q q
theorem ed_var {i : Nat} {v : V} (h : σ[i]? = some (some v)) (hd : Df K F H v d) : ED K (tVar i) σ F H d := fun H1 s Q q => ⟨v, h, q v H1 (Same.refl _) (df_mono s Fr.base hd)⟩
theorem ed_c {v : V} (hd : ∀ F H, Df K F H v d) : ED K (tC v) σ F H d := fun H1 _ _ q => q v H1 (Same.refl _) (hd _ H1)
theorem ed_int {i : Int} : ED K (tC (.int i)) σ F H (.int i) := ed_c fun _ _ => .int i
theorem ed_str {x : Str} : ED K (tC (.str x)) σ F H (.str x) := ed_c fun _ _ => .str x
theorem ed_bl {b : Bool} : ED K (tC (.bl b)) σ F H (.bool b) := ed_c fun _ _ => .bl b
theorem ed_non : ED K (tC .non) σ F H .none := ed_c fun _ _ => .non
theorem ea_nil : EA K tNil σ F H [] := fun H1 _ _ q => q [] H1 (Same.refl _) .nil
theorem ea_cons {tr : TA} {ds : List PyData} (h : ED K te σ F H d) (r : EA K tr σ F H ds) : EA K (tCons te tr) σ F H (d :: ds) := fun H1 s Q q =>
  h H1 s _ fun v H2 s2 hv => r H2 (s.trans s2) _ fun vs H3 s3 hvs => q (v :: vs) H3 (s2.trans s3) (.cons (df_mono s3 (fun _ z => z) hv) (dfs_mono (Same.refl _) (Fr.to s2) hvs))
theorem ed_tup {ta : TA} {ds : List PyData} (h : EA K ta σ F H ds) (hl : ds.length ≤ 100000) : ED K (tTup ta) σ F H (.tuple ds) := fun H1 s Q q =>
  h H1 s _ fun vs H2 s2 hv => ⟨by rw [dfs_len hv]; exact small5 hl, fun p hp => q _ _ (s2.trans (Same.newA hp)) (.tup (.of upd_same) (dfs_mono (Same.newA hp) (fun _ z => z) hv))⟩
theorem ed_lst {ta : TA} {ds : List PyData} (h : EA K ta σ F H ds) (hl : ds.length ≤ 100000) : ED K (tLst ta) σ F H (.list ds) := fun H1 s Q q =>
  h H1 s _ fun vs H2 s2 hv => ⟨by rw [dfs_len hv]; exact small5 hl, fun p hp => q _ _ (s2.trans (Same.newA hp)) (.lst (.inl ⟨.inl upd_same, .inr (s2.freshA hp)⟩) (dfs_mono (Same.newA hp) (fun _ z => z) hv))⟩

/-- an operation of two values, read by its rule -/
def RD (K : PySem.W.Frag) (r : R2) (d e f : PyData) : Prop := ∀ (F : Addr → Prop) x y H1, Df K F H1 x d → Df K F H1 y e → ∀ Q : VK, (∀ v H2, Same H1 H2 → Df K (fun a => F a ∨ H1 a = none) H2 v f → Q v H2) → r x y H1 Q
theorem ed_op {r : R2} {f : PyData} (ha : ED K ta σ F H d) (hb : ED K tb σ F H e) (hr : RD K r d e f) : ED K (tOp r ta tb) σ F H f := fun H1 s Q q =>
  ha H1 s _ fun x H2 s2 hx => hb H2 (s.trans s2) _ fun y H3 s3 hy => hr (Fr F H1) x y H3 (df_mono s3 (fun _ z => z) hx) (df_mono (Same.refl _) (Fr.to s2) hy) Q fun v H4 s4 hv =>
    q v H4 ((s2.trans s3).trans s4) (df_mono (Same.refl _) (fun _ z => z.elim id fun e => .inr ((s2.trans s3).freshA e)) hv)
theorem rd_int {C : Int → Int → Prop} {g : Int → Int → Int} {i j : Int} (hc : C i j) : RD K (rI C fun i j => .int (g i j)) (.int i) (.int j) (.int (g i j)) := fun F x y H1 hx hy Q q => by
  cases hx; cases hy; exact ⟨i, j, rfl, rfl, hc, q _ _ (Same.refl _) (.int _)⟩
theorem rd_int0 {g : Int → Int → Int} {i j : Int} : RD K (rI0 fun i j => .int (g i j)) (.int i) (.int j) (.int (g i j)) := fun F x y H1 hx hy Q q => by
  cases hx; cases hy; exact ⟨i, j, rfl, rfl, q _ _ (Same.refl _) (.int _)⟩
theorem rd_cmp {g : Int → Int → Bool} {i j : Int} : RD K (rI0 fun i j => .bl (g i j)) (.int i) (.int j) (.bool (g i j)) := fun F x y H1 hx hy Q q => by
  cases hx; cases hy; exact ⟨i, j, rfl, rfl, q _ _ (Same.refl _) (.bl _)⟩
theorem ed_add {i j : Int} (ha : ED K ta σ F H (.int i)) (hb : ED K tb σ F H (.int j)) : ED K (tOp (rI0 fun i j => .int (i + j)) ta tb) σ F H (.int (i + j)) := ed_op ha hb rd_int0
theorem ed_sub {i j : Int} (ha : ED K ta σ F H (.int i)) (hb : ED K tb σ F H (.int j)) : ED K (tOp (rI0 fun i j => .int (i - j)) ta tb) σ F H (.int (i - j)) := ed_op ha hb rd_int0
theorem ed_lt {i j : Int} (ha : ED K ta σ F H (.int i)) (hb : ED K tb σ F H (.int j)) : ED K (tOp (rI0 fun i j => .bl (decide (i < j))) ta tb) σ F H (.bool (decide (i < j))) := ed_op ha hb rd_cmp
theorem ed_le {i j : Int} (ha : ED K ta σ F H (.int i)) (hb : ED K tb σ F H (.int j)) : ED K (tOp (rI0 fun i j => .bl (decide (i ≤ j))) ta tb) σ F H (.bool (decide (i ≤ j))) := ed_op ha hb rd_cmp
theorem ed_gt {i j : Int} (ha : ED K ta σ F H (.int i)) (hb : ED K tb σ F H (.int j)) : ED K (tOp (rI0 fun i j => .bl (decide (j < i))) ta tb) σ F H (.bool (decide (j < i))) := ed_op ha hb rd_cmp
theorem ed_ge {i j : Int} (ha : ED K ta σ F H (.int i)) (hb : ED K tb σ F H (.int j)) : ED K (tOp (rI0 fun i j => .bl (decide (j ≤ i))) ta tb) σ F H (.bool (decide (j ≤ i))) := ed_op ha hb rd_cmp
theorem ed_eqD (ha : ED K ta σ F H d) (hb : ED K tb σ F H e) (h1 : SeqAt.shaped d = true) (h2 : SeqAt.shaped e = true) : ED K (tOp (rEqD K) ta tb) σ F H (.bool (PyData.eqv d e)) :=
  ed_op ha hb fun F x y H1 hx hy Q q => ⟨d, e, df_dp hx, df_dp hy, h1, h2, q _ _ (Same.refl _) (.bl _)⟩
theorem ed_neD (ha : ED K ta σ F H d) (hb : ED K tb σ F H e) (h1 : SeqAt.shaped d = true) (h2 : SeqAt.shaped e = true) : ED K (tOp (rNeD K) ta tb) σ F H (.bool (!PyData.eqv d e)) :=
  ed_op ha hb fun F x y H1 hx hy Q q => ⟨d, e, df_dp hx, df_dp hy, h1, h2, q _ _ (Same.refl _) (.bl _)⟩
theorem ed_eqS {x y : Str} (ha : ED K ta σ F H (.str x)) (hb : ED K tb σ F H (.str y)) : ED K (tOp rEq ta tb) σ F H (.bool (decide (x = y))) :=
  ed_op ha hb fun F a b H1 hx hy Q q => by
    cases hx; cases hy
    refine ⟨rfl, ?_⟩
    have e : decide (V.str x = V.str y) = decide (x = y) := by
      by_cases z : x = y
      · rw [decide_eq_true z, decide_eq_true (congrArg V.str z)]
      · rw [decide_eq_false z, decide_eq_false (fun q => z (V.str.inj q))]
    rw [e]; exact q _ _ (Same.refl _) (.bl _)
theorem ed_eqI {x y : Int} (ha : ED K ta σ F H (.int x)) (hb : ED K tb σ F H (.int y)) : ED K (tOp rEq ta tb) σ F H (.bool (decide (x = y))) :=
  ed_op ha hb fun F a b H1 hx hy Q q => by
    cases hx; cases hy
    refine ⟨rfl, ?_⟩
    have e : decide (V.int x = V.int y) = decide (x = y) := by
      by_cases z : x = y
      · rw [decide_eq_true z, decide_eq_true (congrArg V.int z)]
      · rw [decide_eq_false z, decide_eq_false (fun q => z (V.int.inj q))]
    rw [e]; exact q _ _ (Same.refl _) (.bl _)
theorem ed_neS {x y : Str} (ha : ED K ta σ F H (.str x)) (hb : ED K tb σ F H (.str y)) : ED K (tOp rNe ta tb) σ F H (.bool (!decide (x = y))) :=
  ed_op ha hb fun F a b H1 hx hy Q q => by
    cases hx; cases hy
    refine ⟨rfl, ?_⟩
    have e : decide (V.str x = V.str y) = decide (x = y) := by
      by_cases z : x = y
      · rw [decide_eq_true z, decide_eq_true (congrArg V.str z)]
      · rw [decide_eq_false z, decide_eq_false (fun q => z (V.str.inj q))]
    rw [e]; exact q _ _ (Same.refl _) (.bl _)
theorem ed_neI {x y : Int} (ha : ED K ta σ F H (.int x)) (hb : ED K tb σ F H (.int y)) : ED K (tOp rNe ta tb) σ F H (.bool (!decide (x = y))) :=
  ed_op ha hb fun F a b H1 hx hy Q q => by
    cases hx; cases hy
    refine ⟨rfl, ?_⟩
    have e : decide (V.int x = V.int y) = decide (x = y) := by
      by_cases z : x = y
      · rw [decide_eq_true z, decide_eq_true (congrArg V.int z)]
      · rw [decide_eq_false z, decide_eq_false (fun q => z (V.int.inj q))]
    rw [e]; exact q _ _ (Same.refl _) (.bl _)
theorem ed_catS {x y : Str} (ha : ED K ta σ F H (.str x)) (hb : ED K tb σ F H (.str y)) (hl : x.length + y.length ≤ 100000) :
    ED K (tOp (fun x y H Q => ∃ i j, x = .str i ∧ y = .str j ∧ i.length + j.length ≤ sizeLine ∧ Q (.str (i ++ j)) H) ta tb) σ F H (.str (x ++ y)) :=
  ed_op ha hb fun F a b H1 hx hy Q q => by
    cases hx; cases hy; exact ⟨x, y, rfl, rfl, small5 hl, q _ _ (Same.refl _) (.str _)⟩
/-- x is None -/
def isNone : PyData → Bool | .none => true | _ => false
theorem isN_of {F : Addr → Prop} {H : Hp} {x : V} (h : Df K F H x d) : decide (x = .non) = isNone d := by cases h <;> rfl
theorem ed_isN (ha : ED K ta σ F H d) : ED K (tOp (fun x y H Q => y = .non ∧ Q (.bl (decide (x = .non))) H) ta (tC .non)) σ F H (.bool (isNone d)) :=
  ed_op ha ed_non fun F a b H1 hx hy Q q => by
    cases hy; refine ⟨rfl, ?_⟩; rw [isN_of hx]; exact q _ _ (Same.refl _) (.bl _)
/-- a written item of a list, a tuple, a text -/
theorem ed_ixT {ds : List PyData} {j : Nat} (ha : ED K ta σ F H (.tuple ds)) (hb : ED K tb σ F H (.int j)) (h : ds[j]? = some d) : ED K (tOp (rIx K) ta tb) σ F H d :=
  ed_op ha hb fun F a b H1 hx hy Q q => by
    cases hy
    cases hx with
    | tup hs r =>
      obtain ⟨v, e, hv⟩ := dfs_get r h
      exact .inr (.inl ⟨_, _, _, v, rfl, rfl, hs, atI_nat e, q _ _ (Same.refl _) (df_mono (Same.refl _) (fun _ z => .inl z) hv)⟩)
theorem ed_ixL {ds : List PyData} {j : Nat} (ha : ED K ta σ F H (.list ds)) (hb : ED K tb σ F H (.int j)) (h : ds[j]? = some d) : ED K (tOp (rIx K) ta tb) σ F H d :=
  ed_op ha hb fun F a b H1 hx hy Q q => by
    cases hy
    cases hx with
    | lst hs r =>
      obtain ⟨v, e, hv⟩ := dfs_get r h
      exact .inl ⟨_, _, _, v, rfl, rfl, hs.imp (fun z => z.1) id, atI_nat e, q _ _ (Same.refl _) (df_mono (Same.refl _) (fun _ z => .inl z) hv)⟩
theorem ed_ixS {x : Str} {j c : Nat} (ha : ED K ta σ F H (.str x)) (hb : ED K tb σ F H (.int j)) (hl : x.length ≤ 100000) (h : x.cps.toList[j]? = some c) : ED K (tOp (rIx K) ta tb) σ F H (.str ⟨#[c]⟩) :=
  ed_op ha hb fun F a b H1 hx hy Q q => by
    cases hy; cases hx
    exact .inr (.inr ⟨_, _, c, rfl, rfl, small5 hl, atI_nat h, q _ _ (Same.refl _) (.str _)⟩)

/-! ### tests -/
theorem et_test {b : Bool} (h : ED K te σ F H (.bool b)) : ET (tTest te) σ H b := fun H1 s Q q => h H1 s _ fun v H2 s2 hv => by
  cases hv; exact ⟨b, rfl, q H2 s2⟩
theorem et_B {b : Bool} (h : ED K te σ F H (.bool b)) : ET (tB te) σ H b := fun H1 s Q q => h H1 s _ fun v H2 s2 hv => by
  cases hv; exact ⟨b, rfl, q H2 s2⟩
theorem et_and {a b : Bool} (h1 : ET t σ H a) (h2 : a = true → ET u σ H b) : ET (tAnd t u) σ H (a && b) := fun H1 s Q q => h1 H1 s _ fun H2 s2 => by
  cases a with
  | true => exact h2 rfl H2 (s.trans s2) Q fun H3 s3 => q H3 (s2.trans s3)
  | false => exact q H2 s2
theorem et_or {a b : Bool} (h1 : ET t σ H a) (h2 : a = false → ET u σ H b) : ET (tOr t u) σ H (a || b) := fun H1 s Q q => h1 H1 s _ fun H2 s2 => by
  cases a with
  | true => exact q H2 s2
  | false => exact h2 rfl H2 (s.trans s2) Q fun H3 s3 => q H3 (s2.trans s3)
theorem et_not {a : Bool} (h1 : ET t σ H a) : ET (tNot t) σ H (!a) := fun H1 s Q q => h1 H1 s _ fun H2 s2 => q H2 s2
theorem et_is {a b : Bool} (h : ET t σ H a) (e : a = b) : ET t σ H b := e ▸ h
theorem ed_is (h : ED K te σ F H d) (z : d = e) : ED K te σ F H e := z ▸ h
theorem ed_andV {a b : Bool} (h1 : ED K ta σ F H (.bool a)) (h2 : a = true → ED K tb σ F H (.bool b)) : ED K (tAndV ta tb) σ F H (.bool (a && b)) := fun H1 s Q q => h1 H1 s _ fun v H2 s2 hv => by
  cases hv
  refine ⟨a, rfl, ?_⟩
  cases a with
  | true => exact h2 rfl H2 (s.trans s2) Q fun v H3 s3 hv => q v H3 (s2.trans s3) (df_mono (Same.refl _) (Fr.to s2) hv)
  | false => exact q _ H2 s2 (.bl _)
theorem ed_orV {a b : Bool} (h1 : ED K ta σ F H (.bool a)) (h2 : a = false → ED K tb σ F H (.bool b)) : ED K (tOrV ta tb) σ F H (.bool (a || b)) := fun H1 s Q q => h1 H1 s _ fun v H2 s2 hv => by
  cases hv
  refine ⟨a, rfl, ?_⟩
  cases a with
  | true => exact q _ H2 s2 (.bl _)
  | false => exact h2 rfl H2 (s.trans s2) Q fun v H3 s3 hv => q v H3 (s2.trans s3) (df_mono (Same.refl _) (Fr.to s2) hv)
theorem ed_notV {a : Bool} (h1 : ED K ta σ F H (.bool a)) : ED K (tNotV ta) σ F H (.bool (!a)) := fun H1 s Q q => h1 H1 s _ fun v H2 s2 hv => by
  cases hv; exact ⟨a, rfl, q _ H2 s2 (.bl _)⟩
theorem ed_if {b : Bool} (h : ET t σ H b) (h1 : b = true → ED K ta σ F H d) (h2 : b = false → ED K tb σ F H d) : ED K (tIf t ta tb) σ F H d := fun H1 s Q q => h H1 s _ fun H2 s2 => by
  cases b with
  | true => exact h1 rfl H2 (s.trans s2) Q fun v H3 s3 hv => q v H3 (s2.trans s3) (df_mono (Same.refl _) (Fr.to s2) hv)
  | false => exact h2 rfl H2 (s.trans s2) Q fun v H3 s3 hv => q v H3 (s2.trans s3) (df_mono (Same.refl _) (Fr.to s2) hv)
theorem ed_chain {r r' : R2} {a b : Bool} {f : PyData} (ha : ED K ta σ F H d) (hb : ED K tb σ F H e) (hc : ED K tc σ F H f) (h1 : RD K r d e (.bool a)) (h2 : a = true → RD K r' e f (.bool b)) :
    ED K (tChain r r' ta tb tc) σ F H (.bool (a && b)) := fun H1 s Q q =>
  ha H1 s _ fun x H2 s2 hx => hb H2 (s.trans s2) _ fun y H3 s3 hy => h1 (fun _ => True) x y H3 (df_mono s3 (fun _ _ => trivial) hx) (df_mono (Same.refl _) (fun _ _ => trivial) hy) _ fun z H4 s4 hz => by
    cases hz
    refine ⟨a, rfl, ?_⟩
    cases a with
    | true =>
      refine hc H4 (((s.trans s2).trans s3).trans s4) _ fun w H5 s5 hw => h2 rfl (fun _ => True) y w H5 (df_mono (s4.trans s5) (fun _ _ => trivial) hy) (df_mono (Same.refl _) (fun _ _ => trivial) hw) Q fun v H6 s6 hv => ?_
      cases hv
      exact q _ H6 ((((s2.trans s3).trans s4).trans s5).trans s6) (.bl _)
    | false => exact q _ H4 ((s2.trans s3).trans s4) (.bl _)

/-! ### built-in calls -/
def RDC (K : PySem.W.Frag) (r : List V → Hp → VK → Prop) (ds : List PyData) (f : PyData) : Prop := ∀ (F : Addr → Prop) vs H1, DfAll K F H1 vs ds → ∀ Q : VK, (∀ v H2, Same H1 H2 → Df K (fun a => F a ∨ H1 a = none) H2 v f → Q v H2) → r vs H1 Q
theorem ed_cb {r : List V → Hp → VK → Prop} {ta : TA} {ds : List PyData} (h : EA K ta σ F H ds) (hr : RDC K r ds d) : ED K (tCB r ta) σ F H d := fun H1 s Q q =>
  h H1 s _ fun vs H2 s2 hv => hr (Fr F H1) vs H2 hv Q fun v H3 s3 hv3 => q v H3 (s2.trans s3) (df_mono (Same.refl _) (fun _ z => z.elim id fun e => .inr (s2.freshA e)) hv3)
theorem ed_call {sp : Sp} {E : XK} {ta : TA} {ds : List PyData} (h : EA K ta σ F H ds) (hr : RDC K (fun vs H Q => sp vs H Q E) ds d) : ED K (tCall sp [] E ta) σ F H d := fun H1 s Q q =>
  h H1 s _ fun vs H2 s2 hv => by
    show sp (vs ++ []) H2 Q E
    rw [List.append_nil]
    exact hr (Fr F H1) vs H2 hv Q fun v H3 s3 hv3 => q v H3 (s2.trans s3) (df_mono (Same.refl _) (fun _ z => z.elim id fun e => .inr (s2.freshA e)) hv3)
/-- len of data -/
def lenP : PyData → Nat | .list ds => ds.length | .tuple ds => ds.length | .str x => x.length | _ => 0
def hasLen : PyData → Bool | .list _ => true | .tuple _ => true | .str x => decide (x.length ≤ 100000) | _ => false
theorem rdc_len (h : hasLen d = true) : RDC K (fun xs H Q => ∃ x n, xs = [x] ∧ LenV K x H n ∧ Q (.int n) H) [d] (.int (lenP d : Int)) := fun F vs H1 hv Q q => by
  cases hv with
  | cons a r =>
    cases r
    refine ⟨_, lenP d, rfl, ?_, q _ _ (Same.refl _) (.int _)⟩
    cases a with
    | lst hs r => exact .inl ⟨_, hs.imp (fun z => z.1) id, (dfs_len r).symm⟩
    | tup hs r => exact .inr ⟨_, hs, (dfs_len r).symm⟩
    | str x => exact ⟨small5 (of_decide_eq_true h), rfl⟩
    | _ => cases h
theorem ed_len (ha : ED K ta σ F H d) (h : hasLen d = true) : ED K (tCB (fun xs H Q => ∃ x n, xs = [x] ∧ LenV K x H n ∧ Q (.int n) H) (tCons ta tNil)) σ F H (.int (lenP d : Int)) := ed_cb (ea_cons ha ea_nil) (rdc_len h)
/-- isinstance of data -/
def tyName : PyData → String | .none => "NoneType" | .bool _ => "bool" | .int _ => "int" | .str _ => "str" | .list _ => "list" | .tuple _ => "tuple" | .dict _ => "dict"
theorem tyx_of {H : Hp} {x : V} (h : Dp K H x d) : TyX K H x (.type (tyName d)) := by
  cases h with
  | non => exact .base .non
  | bl b => exact .base (.bl b)
  | int i => exact .base (.int i)
  | str x => exact .base (.str x)
  | lst hs r =>
    rcases hs with (h | ⟨o, h⟩) | ⟨o, its, n, hk, hc, _⟩
    · exact .base (.lst h)
    · exact .base (.frz h)
    · exact .kList hk hc
  | tup hs r =>
    rcases hs with (h | ⟨o, h⟩) | ⟨o, its, n, hk, hc, _⟩
    · exact .base (.tup h)
    · exact .fTuple h
    · exact .kTuple hk hc
def isiB (T : String) : PyData → Bool
  | .none => false | .bool _ => T == "bool" || T == "int" | .int _ => T == "int" | .str _ => T == "str" | .list _ => T == "list" | .tuple _ => T == "tuple" | .dict _ => T == "dict"
theorem kit_all {T : String} (hT : T = "str" ∨ T = "tuple" ∨ T = "list" ∨ T = "int" ∨ T = "bool") {H : Hp} {x : V} (h : Dp K H x d) : PySem.W.kitOne K (.type (tyName d)) (.type T) = some (isiB T d) := by
  rcases hT with rfl | rfl | rfl | rfl | rfl
  · cases h with
    | non => exact kit_ty (show kitB "NoneType" "str" = some false by decide +kernel)
    | bl b => exact kit_ty (show kitB "bool" "str" = some false by decide +kernel)
    | int i => exact kit_ty (show kitB "int" "str" = some false by decide +kernel)
    | str x => exact kit_ty (show kitB "str" "str" = some true by decide +kernel)
    | lst hs r => exact kit_ty (show kitB "list" "str" = some false by decide +kernel)
    | tup hs r => exact kit_ty (show kitB "tuple" "str" = some false by decide +kernel)
  · cases h with
    | non => exact kit_ty (show kitB "NoneType" "tuple" = some false by decide +kernel)
    | bl b => exact kit_ty (show kitB "bool" "tuple" = some false by decide +kernel)
    | int i => exact kit_ty (show kitB "int" "tuple" = some false by decide +kernel)
    | str x => exact kit_ty (show kitB "str" "tuple" = some false by decide +kernel)
    | lst hs r => exact kit_ty (show kitB "list" "tuple" = some false by decide +kernel)
    | tup hs r => exact kit_ty (show kitB "tuple" "tuple" = some true by decide +kernel)
  · cases h with
    | non => exact kit_ty (show kitB "NoneType" "list" = some false by decide +kernel)
    | bl b => exact kit_ty (show kitB "bool" "list" = some false by decide +kernel)
    | int i => exact kit_ty (show kitB "int" "list" = some false by decide +kernel)
    | str x => exact kit_ty (show kitB "str" "list" = some false by decide +kernel)
    | lst hs r => exact kit_ty (show kitB "list" "list" = some true by decide +kernel)
    | tup hs r => exact kit_ty (show kitB "tuple" "list" = some false by decide +kernel)
  · cases h with
    | non => exact kit_ty (show kitB "NoneType" "int" = some false by decide +kernel)
    | bl b => exact kit_ty (show kitB "bool" "int" = some true by decide +kernel)
    | int i => exact kit_ty (show kitB "int" "int" = some true by decide +kernel)
    | str x => exact kit_ty (show kitB "str" "int" = some false by decide +kernel)
    | lst hs r => exact kit_ty (show kitB "list" "int" = some false by decide +kernel)
    | tup hs r => exact kit_ty (show kitB "tuple" "int" = some false by decide +kernel)
  · cases h with
    | non => exact kit_ty (show kitB "NoneType" "bool" = some false by decide +kernel)
    | bl b => exact kit_ty (show kitB "bool" "bool" = some true by decide +kernel)
    | int i => exact kit_ty (show kitB "int" "bool" = some false by decide +kernel)
    | str x => exact kit_ty (show kitB "str" "bool" = some false by decide +kernel)
    | lst hs r => exact kit_ty (show kitB "list" "bool" = some false by decide +kernel)
    | tup hs r => exact kit_ty (show kitB "tuple" "bool" = some false by decide +kernel)
theorem ed_isi {T : String} (ha : ED K ta σ F H d) (hT : T = "str" ∨ T = "tuple" ∨ T = "list" ∨ T = "int" ∨ T = "bool") : ED K (tCB (rIsi K) (tCons ta (tCons (tC (.ty T)) tNil))) σ F H (.bool (isiB T d)) := fun H1 s Q q =>
  ha H1 s _ fun x H2 s2 hx => ⟨x, .ty T, _, _, _, rfl, .ty T, tyx_of (df_dp hx), kit_all hT (df_dp hx), q _ _ s2 (.bl _)⟩
/-- all, any of bools -/
theorem ed_all {bs : List Bool} (ha : ED K ta σ F H (.list (bs.map .bool))) : ED K (tCB (rAll K) (tCons ta tNil)) σ F H (.bool (bs.all id)) := ed_cb (ea_cons ha ea_nil) fun F vs H1 hv Q q => by
  cases hv with
  | cons a r =>
    cases r
    cases a with
    | lst hs r => rw [bls_dps (dfs_dps r)] at hs; exact ⟨_, bs, rfl, hs.imp (fun z => z.1) id, q _ _ (Same.refl _) (.bl _)⟩
theorem ed_sum {ns : List Int} (ha : ED K ta σ F H (.list (ns.map .int))) : ED K (tCB (rSum K) (tCons ta tNil)) σ F H (.int ns.sum) := ed_cb (ea_cons ha ea_nil) fun F vs H1 hv Q q => by
  cases hv with
  | cons a r =>
    cases r
    cases a with
    | lst hs r => rw [ints_dps (dfs_dps r)] at hs; exact ⟨_, ns, rfl, hs.imp (fun z => z.1) id, q _ _ (Same.refl _) (.int _)⟩
/-- tuple(xs), list(xs) -/
def seqOf : PyData → List PyData | .list ds => ds | .tuple ds => ds | _ => []
def isSeq : PyData → Bool | .list _ => true | .tuple _ => true | _ => false
theorem ed_tupleOf (ha : ED K ta σ F H d) (h : isSeq d = true) : ED K (tCB (fun xs H Q => ∃ p ys, xs = [.ref p] ∧ ((SqL K H p ys ∧ ∀ l, H l = none → Q (.ref l) (upd H l (.tup ys))) ∨ (SqT K H p ys ∧ Q (.ref p) H))) (tCons ta tNil)) σ F H (.tuple (seqOf d)) := ed_cb (ea_cons ha ea_nil) fun F vs H1 hv Q q => by
  cases hv with
  | cons a r =>
    cases r
    cases a with
    | lst hs r => exact ⟨_, _, rfl, .inl ⟨hs.imp (fun z => z.1) id, fun l hl => q _ _ (Same.newA hl) (.tup (.of upd_same) (dfs_mono (Same.newA hl) (fun _ z => .inl z) r))⟩⟩
    | tup hs r => exact ⟨_, _, rfl, .inr ⟨hs, q _ _ (Same.refl _) (.tup hs (dfs_mono (Same.refl _) (fun _ z => .inl z) r))⟩⟩
    | _ => cases h
theorem ed_listOf (ha : ED K ta σ F H d) (h : isSeq d = true) : ED K (tCB (fun xs H Q => ∃ p ys, xs = [.ref p] ∧ (SqL K H p ys ∨ SqT K H p ys) ∧ ∀ l, H l = none → Q (.ref l) (upd H l (.lst ys))) (tCons ta tNil)) σ F H (.list (seqOf d)) := ed_cb (ea_cons ha ea_nil) fun F vs H1 hv Q q => by
  cases hv with
  | cons a r =>
    cases r
    cases a with
    | lst hs r => exact ⟨_, _, rfl, .inl (hs.imp (fun z => z.1) id), fun l hl => q _ _ (Same.newA hl) (.lst (.inl ⟨.inl upd_same, .inr hl⟩) (dfs_mono (Same.newA hl) (fun _ z => .inl z) r))⟩
    | tup hs r => exact ⟨_, _, rfl, .inr hs, fun l hl => q _ _ (Same.newA hl) (.lst (.inl ⟨.inl upd_same, .inr hl⟩) (dfs_mono (Same.newA hl) (fun _ z => .inl z) r))⟩
    | _ => cases h
end
end Ag

set_option Elab.async false
set_option linter.all false
set_option maxRecDepth 100000
set_option maxHeartbeats 1000000
/-! The end of a law row, the law run at the caller's very surroundings (so that nothing is being shown there), with tables of code objects. -/
namespace Ag
open PySem PySem.Spec PyProof.Rows L2 LamX
def emptyT : Obj := { cls := .none, data := .fields #[] }
/-- what is tracked ahead of the law: the script, unless it is written, and the tables -/
def lawH (a : Addr) (tabs : List Addr) (o : Obj) (xs : List V) (wr : Bool) : Hp := fun b => if b ∈ tabs then some (.tbl #[]) else if b = a ∧ wr = false then some (.frz o (.lst xs)) else none
section
variable {a b : Addr} {tabs : List Addr} {o : Obj} {xs : List V} {wr : Bool} {u : HO}
theorem lawH_tab (h : b ∈ tabs) : lawH a tabs o xs wr b = some (.tbl #[]) := if_pos h
theorem lawH_at (h : a ∉ tabs) : lawH a tabs o xs false a = some (.frz o (.lst xs)) := by
  unfold lawH; rw [if_neg h, if_pos ⟨rfl, rfl⟩]
theorem lawH_cases (h : lawH a tabs o xs wr b = some u) : (b ∈ tabs ∧ u = .tbl #[]) ∨ (b = a ∧ wr = false ∧ b ∉ tabs ∧ u = .frz o (.lst xs)) := by
  unfold lawH at h
  by_cases h1 : b ∈ tabs
  · rw [if_pos h1] at h; cases h; exact .inl ⟨h1, rfl⟩
  · rw [if_neg h1] at h
    by_cases h2 : b = a ∧ wr = false
    · rw [if_pos h2] at h; cases h; exact .inr ⟨h2.1, h2.2, h1, rfl⟩
    · rw [if_neg h2] at h; cases h
theorem lawH_none (h : lawH a tabs o xs wr b = none) : b ∉ tabs := fun z => by rw [lawH_tab z] at h; cases h
end
/-- the law's call: F tells what it does over a heap in which just the script and the tables are tracked -/
theorem law_callG {P : Program} {w : World} {K : PySem.W.Frag} {mg mb : Str → Option Value} {fa a : Addr} {cs : List (Addr × Addr)} {s₁ : Shared} {vs : List Value} {ns : List Int}
    (KX : K.In s₁.heap) (hns : s₁.heap.Ns mainGlobals mg) (hb : s₁.heap.Ns builtinsNs mb) (hbb : ∀ x : Str, x ≠ "__name__" → mb x = bootBuiltins x) (hlim : s₁.heap.NoLimit) (hg : s₁.gens = #[])
    (hT : ∀ p ∈ cs, s₁.heap.get? p.2 = some emptyT) (nT : ∀ p ∈ cs, K.lookup p.2 = none) (C : ∀ p ∈ cs, PySem.W.CodeHd s₁.heap p.1 p.2)
    (hbm : ∃ (bm : Addr) (ob : Obj), mg "__builtins__" = some (.ref bm) ∧ bm ≠ builtinsNs ∧ s₁.heap.get? bm = some ob ∧ ob.cls = .type "module" ∧ ob.dict = some builtinsNs ∧ ob.data = .plain)
    (ha : s₁.heap.get? a = some { cls := .type "list", data := .seq vs.toArray }) (hi : IntsAre vs ns) (hl : ns.length ≤ sizeLine)
    (F : ∀ (base : Heap) (H : Hp), K.In base → base.Ns mainGlobals mg → (∀ p ∈ cs, TabB base mg p.1 p.2) → (∀ p ∈ cs, H p.2 = some (.tbl #[])) → SqL K H a (ns.map V.int) → Env0 P w K mg base callerA [] s₁ H →
      codeAny (model P w) callerA (.call (.ref fa) ⟨[.ref a], []⟩) (CR CX0 [] P w H s₁ (fun v _ => v = .bl true) fun _ _ _ => False) s₁) :
    codeAny (model P w) callerA (.call (.ref fa) ⟨[.ref a], []⟩) (fun r s' => r = .ok (.ret (.bool true)) ∧ OldK s₁.heap s'.heap ∧ s'.os = s₁.os ∧ AllBare s'.gens) s₁ := by
  let sc : Obj := { cls := .type "list", data := .seq vs.toArray }
  let tabs := cs.map Prod.snd
  let wr : Bool := (K.lookup a).isSome
  let H : Hp := lawH a tabs sc (ns.map V.int) wr
  have tget : ∀ b ∈ tabs, s₁.heap.get? b = some emptyT := fun b hb => by
    obtain ⟨p, hp, rfl⟩ := List.mem_map.mp hb; exact hT p hp
  have tmem : ∀ p ∈ cs, p.2 ∈ tabs := fun p hp => List.mem_map_of_mem hp
  have na : a ∉ tabs := fun z => by
    have q := tget a z
    rw [ha] at q
    have := congrArg Obj.data (Option.some.inj q)
    exact nomatch this
  have nk : ∀ b ∈ tabs, K.lookup b = none := fun b hb => by
    obtain ⟨p, hp, rfl⟩ := List.mem_map.mp hb; exact nT p hp
  -- an object that is neither a list nor fields is not tracked
  have free : ∀ {b : Addr} {o : Obj}, s₁.heap.get? b = some o → (∀ z n, o.data ≠ .seq z n) → o.data ≠ .fields #[] → H b = none := fun {b o} e n1 n2 => by
    cases q : H b with
    | none => rfl
    | some u =>
      rcases lawH_cases q with ⟨m, _⟩ | ⟨m, _, _, _⟩
      · rw [tget b m] at e; cases e; exact absurd rfl n2
      · subst m; rw [ha] at e; cases e; exact absurd rfl (n1 _ _)
  have baseG : ∀ {b : Addr} {o : Obj}, s₁.heap.get? b = some o → (∀ z n, o.data ≠ .seq z n) → o.data ≠ .fields #[] → (hidT s₁.heap H).get? b = some o := fun e n1 n2 => hidT_get e (free e n1 n2)
  have nsB : ∀ {b : Addr} {m : Str → Option Value}, s₁.heap.Ns b m → (hidT s₁.heap H).Ns b m := fun ⟨o, es, ep, e, d, r⟩ =>
    ⟨o, es, ep, baseG e (fun z n q => by rw [d] at q; exact nomatch q) (fun q => by rw [d] at q; exact nomatch q), d, r⟩
  have kB : K.In (hidT s₁.heap H) := fun b o e => hidT_get (KX b o e) (by
    cases q : H b with
    | none => rfl
    | some u =>
      rcases lawH_cases q with ⟨m, _⟩ | ⟨m, wf, _, _⟩
      · rw [nk b m] at e; cases e
      · subst m
        have wf : (K.lookup b).isSome = false := wf
        rw [e] at wf; cases wf)
  have mod : L2.Mod K mg (hidT s₁.heap H) := ⟨kB, nsB hns, ⟨mb, nsB hb, hbb⟩, let ⟨mc, h1, h2⟩ := hlim; ⟨mc, nsB h1, h2⟩⟩
  have tb : ∀ p ∈ cs, TabB (hidT s₁.heap H) mg p.1 p.2 := fun p hp => by
    have hp2 := hT p hp
    obtain ⟨bm, ob, b1, b2, b3, b4, b5, b6⟩ := hbm
    refine ⟨?_, ⟨bm, ob, b1, b2, fun q => ?_, fun q => ?_, baseG b3 (fun z n q => by rw [b6] at q; exact nomatch q) (fun q => by rw [b6] at q; exact nomatch q), b4, b5, b6⟩, fun q => ?_⟩
    · obtain ⟨o, us, file, tf, flags, tg, inF, text, tt, e1, r1, r2, r3, rest⟩ := C p hp
      exact ⟨o, us, file, tf, flags, tg, inF, text, tt, baseG e1 (fun z n q => by rw [r2] at q; exact nomatch q) (fun q => by
        rw [r2] at q
        have q := Data.fields.inj q
        subst q; simp at r3), r1, r2, r3, rest⟩
    · obtain ⟨o, es, ep, e, d, _⟩ := hns
      rw [q, e] at b3; cases b3; rw [d] at b6; exact nomatch b6
    · rw [q, hp2] at b3; cases b3; exact nomatch b6
    · obtain ⟨o, es, ep, e, d, _⟩ := hns
      rw [q, hp2] at e; cases e; exact nomatch d
  have hok : HOk P w H s₁.heap := fun b u q => by
    rcases lawH_cases q with ⟨m, rfl⟩ | ⟨rfl, _, _, rfl⟩
    · exact tget b m
    · exact ⟨ha, by rw [List.length_map]; exact hl, vs, 0, vals_ints hi, ha⟩
  have e0 : Env0 P w K mg (hidT s₁.heap H) callerA [] s₁ H := ⟨rfl, mod, fun b o e => of_hidT e, Nat.le_of_eq (hidT_size _ _), trivial, fun b z => (nomatch z), hok, .of_eq hg⟩
  have sq : SqL K H a (ns.map V.int) := by
    cases q : K.lookup a with
    | none =>
      have wf : wr = false := by show (K.lookup a).isSome = false; rw [q]; rfl
      refine .inl (.inr ⟨sc, ?_⟩)
      show lawH a tabs sc (ns.map V.int) wr a = _
      rw [wf]; exact lawH_at na
    | some o =>
      have e := KX a o q
      rw [ha] at e; cases e
      exact .inr ⟨_, vs.toArray, _, q, rfl, rfl, rfl, by rw [List.size_toArray, hi.length]; exact hl, vals_ints hi⟩
  refine codeAny_mono (F _ H kB (nsB hns) tb (fun p hp => lawH_tab (tmem p hp)) sq e0) fun r s' h => ?_
  cases r with
  | error e => exact (show False from h).elim
  | ok fl =>
    cases fl with
    | ret u =>
      obtain ⟨v, H', os, bare, un, hok', rv, q⟩ := h
      cases (show v = V.bl true from q)
      obtain rfl : u = Value.bool true := rv
      have grown : ∀ b ∈ tabs, ∃ more : Array Value, s'.heap.get? b = some { cls := .none, data := .fields more } := fun b hb => by
        obtain ⟨more, z⟩ := un.tbls b #[] (lawH_tab hb)
        exact ⟨_, hok' b _ z⟩
      have kept : ∀ b o, b ∉ tabs → s₁.heap.get? b = some o → s'.heap.get? b = some o := fun b o nb e => by
        cases q : H b with
        | none => exact un.keep b o e q (fun z => nomatch z) (fun z => nomatch z)
        | some u =>
          rcases lawH_cases q with ⟨m, _⟩ | ⟨m, _, _, hu⟩
          · exact absurd m nb
          · subst m; subst hu
            have e2 := (hok' b _ (un.frzs b sc _ q)).1
            rw [ha] at e; cases e; exact e2
      refine ⟨rfl, ⟨fun b o e => ?_, fun b o e => ?_⟩, os, bare⟩
      · by_cases hb : b ∈ tabs
        · obtain ⟨p, hp, rfl⟩ := List.mem_map.mp hb
          obtain ⟨more, hm⟩ := grown _ hb
          rw [hT p hp] at e; cases e
          exact .inr (.inl ⟨((C p hp).tab (hT p hp)).isCodeTable, rfl, #[], more, rfl, by rw [Array.empty_append]; exact hm⟩)
        · exact .inl (kept b o hb e)
      · by_cases hb : b ∈ tabs
        · obtain ⟨more, hm⟩ := grown b hb; exact ⟨_, hm⟩
        · exact ⟨o, kept b o hb e⟩
    | next => exact False.elim h
    | brk => exact False.elim h
    | cont => exact False.elim h
/-- what is known of the law at the head's heap -/
def LawG (l : PySem.W.OpenLaw) (w : World) (K : PySem.W.Frag) (n : Nat) (mg : Str → Option Value) (fa : Addr) (s : Shared) : Prop :=
  ∃ cs : List (Addr × Addr), (∀ p ∈ cs, s.heap.get? p.2 = some emptyT) ∧ (∀ p ∈ cs, K.lookup p.2 = none) ∧ (∀ p ∈ cs, PySem.W.CodeHd s.heap p.1 p.2) ∧
    ∀ (a : Addr) (ns : List Int) (base : Heap) (H : Hp), ns.length ≤ n → (∀ z ∈ ns, Builtin.Int.intBits z ≤ 1048576) → K.In base → base.Ns mainGlobals mg → (∀ p ∈ cs, TabB base mg p.1 p.2) → (∀ p ∈ cs, H p.2 = some (.tbl #[])) → SqL K H a (ns.map V.int) → Env0 l.prog w K mg base callerA [] s H →
      codeAny (model l.prog w) callerA (.call (.ref fa) ⟨[.ref a], []⟩) (CR CX0 [] l.prog w H s (fun v _ => v = .bl true) fun _ _ _ => False) s
theorem walk_G {l : PySem.W.OpenLaw} {n : Nat} {q : Program} {loose : List Str} {XP : (Str → Option Value) → Heap → Prop} {YP : World → Heap → Prop} {d : DefRec} {K : Params → PySem.W.Frag}
    (hn : l.most = some n) (hn2 : n ≤ sizeLine) (hdf : d.params.defaults = []) (hY : ∀ (w : World) (h : Heap), YP w h → (K w.params).In h)
    (F : ∀ (w : World) (mg mb : Str → Option Value) (fa : Addr) (s : Shared) (mean : ExcName → Option Value), PyProof.Rows.Top q (PySem.W.looseW q loose) mean mg mb s.heap → (K w.params).In s.heap → mg d.name = some (.ref fa) → LawG l w (K w.params) n mg fa s) :
    PySem.W.WalkO q loose XP YP l.row.toRowW d [] (fun f vs => PySem.call f vs) := by
  refine Att.attach_callB hn hdf fun w s₀ s₁ mg mb fa o pm cd doc a vs ns G Y ho hd hcd hmg hobj hints hlen hbits hg => ?_
  have KX := hY w _ Y
  obtain ⟨cs, hT, nT, C, hF⟩ := F w mg mb fa s₁ _ G.T KX hmg
  exact law_callG KX G.T.g G.T.b G.T.builtins G.T.nolimit hg hT nT C G.T.bmain hobj hints (Nat.le_trans hlen hn2) fun base H h1 h2 h3 h4 h5 h6 => hF a ns base H hlen hbits h1 h2 h3 h4 h5 h6
end Ag

set_option Elab.async false
set_option linter.all false
set_option maxRecDepth 100000
set_option maxHeartbeats 2000000
/-! try with several clauses, each of which binds what it catches to a name. -/
namespace Ag
open PySem PySem.Spec PyProof.Rows L2
/-- a clause: the class, the slot of its name, and its suite's reading -/
structure Clause where
  cls : Value
  slot : Nat
  ts : Addr → Value → Option Addr → TS
/-- the ends of a suite whose name is unbound behind it -/
def endsU (i : Nat) (D : Ends) : Ends := ⟨fun σ H => D.nx (σ.set i none) H, D.rt, fun σ H => D.bk (σ.set i none) H, fun σ H => D.ct (σ.set i none) H⟩
def wNamed (K : PySem.W.Frag) (n : Nat) (Wout : WX) (D : Ends) : List Clause → WX
  | [] => Wout
  | q :: r => fun c d σ H => ∃ b, PySem.W.exmOne K c q.cls = some b ∧ (b = true → σ.length = n → ∀ a, H a = none → q.ts a c d (endsU q.slot D) (σ.set q.slot (some (.ref a))) H) ∧ (b = false → wNamed K n Wout D r c d σ H)
inductive ClausesOk (X : Cx) : List ExceptHandler → List Clause → Prop
  | nil : ClausesOk X [] []
  | cons {x n : Str} {q : Clause} {b₀ : Stmt} {suite : List Stmt} {np hp : Pos} {hds : List ExceptHandler} {l : List Clause} (names : Names X x q.cls) (hi : X.N[q.slot]? = some n) (loc : X.env.kindOf n = some .local)
      (run : ∀ (a : Addr) (oe : Obj) (c : Value) (d : Option Addr) (pn : List (Addr × Obj)), Zc c d oe → (∃ vs, oe.data = .fields vs) → PSs (X.suite a ((a, oe) :: pn)) (b₀ :: suite) (q.ts a c d)) (rest : ClausesOk X hds l) :
      ClausesOk X (.ExceptHandler (some (.Name x np)) (some n) (b₀ :: suite) hp :: hds) (q :: l)
section
variable {X : Cx} {body : List Stmt} {h₀ : ExceptHandler} {hds : List ExceptHandler} {l : List Clause} {pos : Pos} {tb : WX → TS} {Wout : WX}
theorem ps_try_named (stk : X.stack = X.env :: X.outer) (frm : X.env.frame = some X.env.locals) (nd : X.N.Nodup) (out : Takes X Wout)
    (hb : ∀ (W : WX) (pn : List (Addr × Obj)) (xe : Value → Shared → Prop), Takes (X.tr pn xe) W → PassesOwn (model X.prog X.w) X.A X.env xe → PSs (X.tr pn xe) body (tb W))
    (hh : ClausesOk X (h₀ :: hds) l) : PS X (.Try body (h₀ :: hds) [] [] pos) (fun D σ H => tb (wNamed X.K X.N.length Wout D l) D σ H) := by
  refine ⟨fun pins s σ H D I h => wpAny_Try_except ?_⟩
  have ok := I.ok
  have fr : X.A.frames = some (X.env :: X.outer) := by rw [ok.frames, stk]
  have caught : ∀ (u : Value) (s' : Shared), XE (X.tr (X.pn ++ pins) fun e z => wpAny (model X.prog X.w) X.A (noteFrame e X.env) (fun _ z2 => wpAny (model X.prog X.w) X.A (setFlight e none) (fun _ z3 =>
      wpAny (model X.prog X.w) X.A (handleBy e X.env (h₀ :: hds)) (SP X pins D) X.xe z3) X.xe z2) X.xe z) (wNamed X.K X.N.length Wout D l) u s' →
      wpAny (model X.prog X.w) X.A (noteFrame u X.env) (fun _ z2 => wpAny (model X.prog X.w) X.A (setFlight u none) (fun _ z3 => wpAny (model X.prog X.w) X.A (handleBy u X.env (h₀ :: hds)) (SP X pins D) X.xe z3) X.xe z2) X.xe s' := by
    rintro u s' ⟨a, B, sI, pins', σ1, H1, c, d, rfl, J0, nb, up, sky, na, os, ag, w⟩
    have J : Inv X pins σ1 H1 sI := J0.ofTry ok
    refine Sky.land Zc.steady fr frm (show Sky B (X.env :: X.outer) a (Zc c d) X.env.locals s'.heap by rw [← stk]; exact sky) fun g1 fl1 u1 => ?_
    have J1 : Inv X pins σ1 H1 { s' with heap := g1 } := J.landed nb fl1.1 (up.trans u1) os ag
    obtain ⟨o1, vs1, e1, z1, d1⟩ := fl1.there
    have nfr : a ∉ frs (X.env :: X.outer) := fun hm => by
      obtain ⟨_, o2, e2, no⟩ := fl1.2.2.1.mem hm
      rw [e1] at e2; cases e2
      exact no _ d1
    have nL : a ≠ X.env.locals := fun z => nfr (List.mem_filterMap.mpr ⟨X.env, .head _, by rw [frm, z]⟩)
    have nF : a ∉ X.fs := fun hm => by
      obtain ⟨e, he, q⟩ := List.mem_filterMap.mp hm
      exact nfr (List.mem_filterMap.mpr ⟨e, .tail _ he, q⟩)
    have S1 := J1.suite e1 d1 na nL nF
    have go : ∀ {hs : List ExceptHandler} {ls : List Clause}, ClausesOk X hs ls → wNamed X.K X.N.length Wout D ls c d σ1 H1 → wpAny (model X.prog X.w) X.A (handleBy (.ref a) X.env hs) (SP X pins D) X.xe { s' with heap := g1 } := by
      intro hs ls hk
      induction hk with
      | nil =>
        intro w
        refine wpAny_handleBy_nil ?_
        obtain ⟨_, _, _, o2, vs2, T, oT, ts2, e2, z2, d2, t1, _⟩ := id fl1
        unfold PySem.passOn
        refine wpAny_bind (wpAny_field e2 d2 t1 ?_)
        rw [if_neg (show ¬ (Value.ref T == Value.none) = true from fun z => nomatch z)]
        have last : wpAny (model X.prog X.w) X.A (setFlight (.ref a) X.env.frame) (fun _ z4 => wpAny (model X.prog X.w) X.A (throw (.ref a) : Sem Flow) (SP X pins D) X.xe z4) X.xe { s' with heap := g1 } := by
          rw [frm]
          exact HandSPX.setFlight_upZ fl1 fun g2 h2 u2 => wpAny_throw (out _ _ ⟨a, B, sI, pins, σ1, H1, c, d, rfl, J, nb, (up.trans u1).trans u2, .inr (.inr (by rw [stk]; exact h2)), na, os, ag, w⟩)
        first
          | exact wpAny_bind (wpAny_pure (wpAny_bind last))
          | exact wpAny_bind last
      | @cons x n q b₀ suite np hp hds2 l2 names hi loc run rest ih =>
        rintro ⟨b, hb1, yes, no⟩
        refine wpAny_handleBy_cons (codeAny_handlers_test ?_) (fun z => nomatch z)
        have looks : PySem.W.Looks (model X.prog X.w) g1 (typeOf (.ref a)) c := fun A Q E s k z => wpAny_typeOf_ref (k _ _ e1) (by rw [z1.1]; exact z)
        have tst : ∀ {Q : Value → Shared → Prop} {E : Value → Shared → Prop}, Q q.cls { s' with heap := g1 } → wpAny (model X.prog X.w) (X.A.mark (some (.ref a))) (eval (.Name x np) X.env) Q E { s' with heap := g1 } := fun z => by
          obtain ⟨hg, hdb, hm | ⟨hm, hv, hnn⟩⟩ := names
          · exact ld_glob (X := X.suite a ((a, o1) :: (X.pn ++ pins))) S1 hg hm z hdb
          · exact ld_blt (X := X.suite a ((a, o1) :: (X.pn ++ pins))) S1 hg hm hv z hnn hdb
        refine tst ((PySem.W.exm_one (M := model X.prog X.w) J1.kIn looks hb1).here ?_)
        cases b with
        | false =>
          show wpAny _ X.A (handleBy (.ref a) X.env hds2) _ _ _
          exact ih (no rfl)
        | true =>
          refine codeAny_handlers_suite_as (HandSPX.lands_againZ fl1 fun g2 fl2 u2 => ?_)
          have J2 : Inv X pins σ1 H1 { s' with heap := g2 } := J.landed nb fl2.1 ((up.trans u1).trans u2) os ag
          obtain ⟨o2, vs2, e2, z2, d2⟩ := fl2.there
          refine store_ok (X := X.suite a ((a, o2) :: (X.pn ++ pins))) (v := .ref a) (J2.suite e2 d2 na nL nF) nd hi (show Loc X.env.scope n from .inl loc) rfl (fun s5 S5 => ?_) (.inr loc)
          refine wpAny_mono ((run a o2 c d (X.pn ++ pins) z2 ⟨_, d2⟩).run [] s5 _ H1 _ S5 (yes rfl J2.len a na)) (fun f s6 r6 => ?_) (fun _ _ z => False.elim z)
          have fin : ∀ {σ6 : L2.St} {H6 : Hp} {R : Shared → Prop}, Inv (X.suite a ((a, o2) :: (X.pn ++ pins))) [] σ6 H6 s6 → (∀ s7, Inv X pins (σ6.set q.slot none) H6 s7 → R s7) →
              wpAny (model X.prog X.w) X.A (do bindName X.env n .none; unbindBehindTheSuite X.env n hp) (fun _ s7 => R s7) X.xe s6 := fun S6 r => gone_ok (S6.unsuite ok) nd hi loc r
          cases f with
          | next => obtain ⟨σ6, H6, S6, q6⟩ := r6; exact fin S6 fun s7 J7 => ⟨_, _, J7, q6⟩
          | brk => obtain ⟨σ6, H6, S6, q6⟩ := r6; exact fin S6 fun s7 J7 => ⟨_, _, J7, q6⟩
          | cont => obtain ⟨σ6, H6, S6, q6⟩ := r6; exact fin S6 fun s7 J7 => ⟨_, _, J7, q6⟩
          | ret u => obtain ⟨v6, σ6, H6, S6, v7, q6⟩ := r6; exact fin S6 fun s7 J7 => ⟨_, _, _, J7, v7, q6⟩
    exact go hh w
  refine wpAny_mono ((hb (wNamed X.K X.N.length Wout D l) (X.pn ++ pins) _ (fun u s' xx => caught u s' xx) PassesOwn.looking).run [] s σ H D (I.toTry _) h) (fun f s1 r => ?_) (fun e s1 z => z)
  cases f with
  | next => obtain ⟨σ', H', J', q⟩ := r; exact wpAny_execs_nil ⟨σ', H', J'.ofTry ok, q⟩
  | brk => obtain ⟨σ', H', J', q⟩ := r; exact ⟨σ', H', J'.ofTry ok, q⟩
  | cont => obtain ⟨σ', H', J', q⟩ := r; exact ⟨σ', H', J'.ofTry ok, q⟩
  | ret u => obtain ⟨v, σ', H', J', rv, q⟩ := r; exact ⟨v, σ', H', J'.ofTry ok, rv, q⟩
end
/-- code that is never come to -/
theorem pss_never {X : Cx} {sts : List Stmt} : PSs X sts (fun _ _ _ => False) := ⟨fun _ _ _ _ _ _ h => h.elim⟩
theorem ps_never {X : Cx} {st : Stmt} : PS X st (fun _ _ _ => False) := ⟨fun _ _ _ _ _ _ h => h.elim⟩
theorem pe_never {X : Cx} {e : Expr} : PE X e (fun _ _ _ => False) := ⟨fun _ _ _ _ _ _ h => h.elim⟩
end Ag

set_option Elab.async false
set_option linter.all false
set_option maxRecDepth 100000
set_option maxHeartbeats 1000000
/-! The pen: a dict of five written keys; what a draw leaves. -/
namespace Ag
open PySem PySem.Spec PyProof.Rows L2

abbrev ck (s : Str) : Key := Sum.inr s
def penKV (c : Addr) (at_ dig cnt fold : Int) : List (Key × V) :=
  [(ck "cells", .ref c), (ck "at", .int at_), (ck "digits", .int dig), (ck "count", .int cnt), (ck "fold", .int fold)]
theorem kn1 : ¬ ck "cells" = ck "at" := by decide +kernel
theorem kn2 : ¬ ck "cells" = ck "digits" := by decide +kernel
theorem kn3 : ¬ ck "cells" = ck "count" := by decide +kernel
theorem kn4 : ¬ ck "cells" = ck "fold" := by decide +kernel
theorem kn5 : ¬ ck "at" = ck "digits" := by decide +kernel
theorem kn6 : ¬ ck "at" = ck "count" := by decide +kernel
theorem kn7 : ¬ ck "at" = ck "fold" := by decide +kernel
theorem kn8 : ¬ ck "digits" = ck "count" := by decide +kernel
theorem kn9 : ¬ ck "digits" = ck "fold" := by decide +kernel
theorem kn0 : ¬ ck "count" = ck "fold" := by decide +kernel
theorem sn_cells_at : ¬ Str.ofString "cells" = Str.ofString "at" := by decide +kernel
theorem sn_cells_digits : ¬ Str.ofString "cells" = Str.ofString "digits" := by decide +kernel
theorem sn_cells_count : ¬ Str.ofString "cells" = Str.ofString "count" := by decide +kernel
theorem sn_cells_fold : ¬ Str.ofString "cells" = Str.ofString "fold" := by decide +kernel
theorem sn_at_cells : ¬ Str.ofString "at" = Str.ofString "cells" := by decide +kernel
theorem sn_at_digits : ¬ Str.ofString "at" = Str.ofString "digits" := by decide +kernel
theorem sn_at_count : ¬ Str.ofString "at" = Str.ofString "count" := by decide +kernel
theorem sn_at_fold : ¬ Str.ofString "at" = Str.ofString "fold" := by decide +kernel
theorem sn_digits_cells : ¬ Str.ofString "digits" = Str.ofString "cells" := by decide +kernel
theorem sn_digits_at : ¬ Str.ofString "digits" = Str.ofString "at" := by decide +kernel
theorem sn_digits_count : ¬ Str.ofString "digits" = Str.ofString "count" := by decide +kernel
theorem sn_digits_fold : ¬ Str.ofString "digits" = Str.ofString "fold" := by decide +kernel
theorem sn_count_cells : ¬ Str.ofString "count" = Str.ofString "cells" := by decide +kernel
theorem sn_count_at : ¬ Str.ofString "count" = Str.ofString "at" := by decide +kernel
theorem sn_count_digits : ¬ Str.ofString "count" = Str.ofString "digits" := by decide +kernel
theorem sn_count_fold : ¬ Str.ofString "count" = Str.ofString "fold" := by decide +kernel
theorem sn_fold_cells : ¬ Str.ofString "fold" = Str.ofString "cells" := by decide +kernel
theorem sn_fold_at : ¬ Str.ofString "fold" = Str.ofString "at" := by decide +kernel
theorem sn_fold_digits : ¬ Str.ofString "fold" = Str.ofString "digits" := by decide +kernel
theorem sn_fold_count : ¬ Str.ofString "fold" = Str.ofString "count" := by decide +kernel
section
variable {c : Addr} {a d n f x : Int}
theorem pen_cells : valV (penKV c a d n f) (ck "cells") = some (.ref c) := valV_pos rfl
theorem pen_at : valV (penKV c a d n f) (ck "at") = some (.int a) := by unfold penKV; rw [valV_neg kn1]; exact valV_pos rfl
theorem pen_dig : valV (penKV c a d n f) (ck "digits") = some (.int d) := by unfold penKV; rw [valV_neg kn2, valV_neg kn5]; exact valV_pos rfl
theorem pen_cnt : valV (penKV c a d n f) (ck "count") = some (.int n) := by unfold penKV; rw [valV_neg kn3, valV_neg kn6, valV_neg kn8]; exact valV_pos rfl
theorem pen_fold : valV (penKV c a d n f) (ck "fold") = some (.int f) := by unfold penKV; rw [valV_neg kn4, valV_neg kn7, valV_neg kn9, valV_neg kn0]; exact valV_pos rfl
theorem put_at : putK (penKV c a d n f) (ck "at") (.int x) = penKV c x d n f := by
  unfold putK; rw [valV_any, pen_at]
  simp [penKV, ck, sn_cells_at, sn_cells_digits, sn_cells_count, sn_cells_fold, sn_at_cells, sn_at_digits, sn_at_count, sn_at_fold, sn_digits_cells, sn_digits_at, sn_digits_count, sn_digits_fold, sn_count_cells, sn_count_at, sn_count_digits, sn_count_fold, sn_fold_cells, sn_fold_at, sn_fold_digits, sn_fold_count]
theorem put_dig : putK (penKV c a d n f) (ck "digits") (.int x) = penKV c a x n f := by
  unfold putK; rw [valV_any, pen_dig]
  simp [penKV, ck, sn_cells_at, sn_cells_digits, sn_cells_count, sn_cells_fold, sn_at_cells, sn_at_digits, sn_at_count, sn_at_fold, sn_digits_cells, sn_digits_at, sn_digits_count, sn_digits_fold, sn_count_cells, sn_count_at, sn_count_digits, sn_count_fold, sn_fold_cells, sn_fold_at, sn_fold_digits, sn_fold_count]
theorem put_cnt : putK (penKV c a d n f) (ck "count") (.int x) = penKV c a d x f := by
  unfold putK; rw [valV_any, pen_cnt]
  simp [penKV, ck, sn_cells_at, sn_cells_digits, sn_cells_count, sn_cells_fold, sn_at_cells, sn_at_digits, sn_at_count, sn_at_fold, sn_digits_cells, sn_digits_at, sn_digits_count, sn_digits_fold, sn_count_cells, sn_count_at, sn_count_digits, sn_count_fold, sn_fold_cells, sn_fold_at, sn_fold_digits, sn_fold_count]
theorem put_fold : putK (penKV c a d n f) (ck "fold") (.int x) = penKV c a d n x := by
  unfold putK; rw [valV_any, pen_fold]
  simp [penKV, ck, sn_cells_at, sn_cells_digits, sn_cells_count, sn_cells_fold, sn_at_cells, sn_at_digits, sn_at_count, sn_at_fold, sn_digits_cells, sn_digits_at, sn_digits_count, sn_digits_fold, sn_count_cells, sn_count_at, sn_count_digits, sn_count_fold, sn_fold_cells, sn_fold_at, sn_fold_digits, sn_fold_count]
end
/-- the pen at p, its cells at c; n bounds how often it has been drawn -/
def Pen (p c : Addr) (n : Nat) (H : Hp) : Prop :=
  ∃ (cells : List Int) (a d k f : Int), H p = some (.dK (penKV c a d k f)) ∧ Rd H c (.lst (cells.map V.int)) ∧ 0 ≤ a ∧ 0 ≤ d ∧ 0 ≤ k ∧ k ≤ n ∧ 0 ≤ f ∧ f < 2147483648
/-- all but the pen is kept -/
def But (p : Addr) (H H' : Hp) : Prop := ∀ a o, a ≠ p → H a = some o → H' a = some o
theorem But.refl (p : Addr) (H : Hp) : But p H H := fun _ _ _ h => h
theorem But.trans {p : Addr} {H H1 H2 : Hp} (a : But p H H1) (b : But p H1 H2) : But p H H2 := fun x o n h => b x o n (a x o n h)
theorem But.of {p : Addr} {H H1 : Hp} (a : Same H H1) : But p H H1 := fun x o _ h => a x o h
theorem But.free {p a : Addr} {H H1 : Hp} (b : But p H H1) (h : H1 a = none) (n : a ≠ p) : H a = none := by
  cases q : H a with
  | none => rfl
  | some o => rw [b a o n q] at h; cases h
section
variable {K : PySem.W.Frag} {p c : Addr} {n : Nat} {H H' : Hp}
theorem Pen.ne {a : Addr} {o : HO} (h : Pen p c n H) (e : H a = some o) (no : ∀ kvs, o ≠ .dK kvs) : a ≠ p := by
  obtain ⟨cells, a', d, k, f, hp, _⟩ := h
  exact ne_of e hp (no _)
theorem Pen.rd {a : Addr} {u : HO} (h : Pen p c n H) (b : But p H H') (r : Rd H a u) (no : ∀ kvs, u ≠ .dK kvs) : Rd H' a u := by
  rcases r with r | ⟨o, r⟩
  · exact .inl (b _ _ (h.ne r no) r)
  · exact .inr ⟨o, b _ _ (h.ne r (fun _ z => nomatch z)) r⟩
theorem Pen.sl {a : Addr} {xs : List V} (h : Pen p c n H) (b : But p H H') (r : SqL K H a xs) : SqL K H' a xs := r.imp (fun z => h.rd b z (fun _ z => nomatch z)) id
theorem Pen.st {a : Addr} {xs : List V} (h : Pen p c n H) (b : But p H H') (r : SqT K H a xs) : SqT K H' a xs := r.imp (fun z => h.rd b z (fun _ z => nomatch z)) id
mutual
theorem Pen.dp (h : Pen p c n H) (b : But p H H') : ∀ {v : V} {d : PyData}, Dp K H v d → Dp K H' v d
  | _, _, .non => .non
  | _, _, .bl b => .bl b
  | _, _, .int i => .int i
  | _, _, .str x => .str x
  | _, _, .lst q r => .lst (h.sl b q) (Pen.dps h b r)
  | _, _, .tup q r => .tup (h.st b q) (Pen.dps h b r)
theorem Pen.dps (h : Pen p c n H) (b : But p H H') : ∀ {vs : List V} {ds : List PyData}, DpAll K H vs ds → DpAll K H' vs ds
  | _, _, .nil => .nil
  | _, _, .cons q r => .cons (Pen.dp h b q) (Pen.dps h b r)
end
theorem Pen.same (h : Pen p c n H) (s : Same H H') : Pen p c n H' := by
  obtain ⟨cells, a, d, k, f, hp, hc, r⟩ := h
  exact ⟨cells, a, d, k, f, s _ _ hp, s.rdA hc, r⟩
theorem Pen.more {m : Nat} (h : Pen p c n H) (l : n ≤ m) : Pen p c m H := by
  obtain ⟨cells, a, d, k, f, hp, hc, h1, h2, h3, h4, r⟩ := h
  exact ⟨cells, a, d, k, f, hp, hc, h1, h2, h3, Int.le_trans h4 (by omega), r⟩
theorem Pen.some_p (h : Pen p c n H) : ∃ o, H p = some o := by
  obtain ⟨cells, a, d, k, f, hp, _⟩ := h; exact ⟨_, hp⟩
theorem Pen.some_c (h : Pen p c n H) : ∃ o, H c = some o := by
  obtain ⟨cells, a, d, k, f, hp, hc, _⟩ := h
  rcases hc with hc | ⟨o, hc⟩ <;> exact ⟨_, hc⟩
/-- an own object is changed or made: the pen stands -/
theorem Pen.upd {l : Addr} {o : HO} (h : Pen p c n H) (h1 : l ≠ p) (h2 : l ≠ c) : Pen p c n (L2.upd H l o) := by
  obtain ⟨cells, a, d, k, f, hp, hc, r⟩ := h
  refine ⟨cells, a, d, k, f, by rw [upd_ne (Ne.symm h1)]; exact hp, ?_, r⟩
  rcases hc with hc | ⟨o, hc⟩
  · exact .inl (by rw [upd_ne (Ne.symm h2)]; exact hc)
  · exact .inr ⟨o, by rw [upd_ne (Ne.symm h2)]; exact hc⟩
theorem Pen.ne_p {l : Addr} (h : Pen p c n H) (hl : H l = none) : l ≠ p := by
  obtain ⟨o, e⟩ := h.some_p
  exact Ne.symm (ne_of_none e hl)
theorem Pen.ne_c {l : Addr} (h : Pen p c n H) (hl : H l = none) : l ≠ c := by
  obtain ⟨o, e⟩ := h.some_c
  exact Ne.symm (ne_of_none e hl)
end

section
variable {H : Hp} {p c : Addr} {a d n f x : Int}
theorem pg_cells (h : H p = some (.dK (penKV c a d n f))) : DGet H p (.str "cells") (some (.ref c)) := by
  have q := DGet.k (k := ck "cells") h
  rw [pen_cells] at q; exact q
theorem pg_at (h : H p = some (.dK (penKV c a d n f))) : DGet H p (.str "at") (some (.int a)) := by
  have q := DGet.k (k := ck "at") h
  rw [pen_at] at q; exact q
theorem pg_dig (h : H p = some (.dK (penKV c a d n f))) : DGet H p (.str "digits") (some (.int d)) := by
  have q := DGet.k (k := ck "digits") h
  rw [pen_dig] at q; exact q
theorem pg_cnt (h : H p = some (.dK (penKV c a d n f))) : DGet H p (.str "count") (some (.int n)) := by
  have q := DGet.k (k := ck "count") h
  rw [pen_cnt] at q; exact q
theorem pg_fold (h : H p = some (.dK (penKV c a d n f))) : DGet H p (.str "fold") (some (.int f)) := by
  have q := DGet.k (k := ck "fold") h
  rw [pen_fold] at q; exact q
theorem pp_at (h : H p = some (.dK (penKV c a d n f))) : DPut H p (.str "at") (.int x) (upd H p (.dK (penKV c x d n f))) := by
  have q := DPut.k (k := ck "at") (v := .int x) h (by show 5 < sizeLine; decide)
  rw [put_at] at q; exact q
theorem pp_dig (h : H p = some (.dK (penKV c a d n f))) : DPut H p (.str "digits") (.int x) (upd H p (.dK (penKV c a x n f))) := by
  have q := DPut.k (k := ck "digits") (v := .int x) h (by show 5 < sizeLine; decide)
  rw [put_dig] at q; exact q
theorem pp_cnt (h : H p = some (.dK (penKV c a d n f))) : DPut H p (.str "count") (.int x) (upd H p (.dK (penKV c a d x f))) := by
  have q := DPut.k (k := ck "count") (v := .int x) h (by show 5 < sizeLine; decide)
  rw [put_cnt] at q; exact q
theorem pp_fold (h : H p = some (.dK (penKV c a d n f))) : DPut H p (.str "fold") (.int x) (upd H p (.dK (penKV c a d n x))) := by
  have q := DPut.k (k := ck "fold") (v := .int x) h (by show 5 < sizeLine; decide)
  rw [put_fold] at q; exact q
end
/-- the promise of a draw -/
def spDraw : Sp := fun vs H Q _ => ∃ (p c : Addr) (many : Int) (n : Nat), vs = [.ref p, .int many] ∧ Pen p c n H ∧ 0 < many ∧ many < 1000000 ∧ n < 1000000000000 ∧
  ∀ (d : Int) H', 0 ≤ d → d < many → But p H H' → Pen p c (n + 1) H' → Q (.int d) H'
end Ag

set_option Elab.async false
set_option linter.all false
set_option maxRecDepth 100000
set_option maxHeartbeats 1000000
/-! Comprehensions over data, statements over data. -/
namespace Ag
open PySem PySem.Spec PyProof.Rows L2
/-- a walk that hands out the data ds, as long as what stood at H stands -/
structure Wk (K : PySem.W.Frag) (F : Addr → Prop) (H : Hp) (J : It) (ds : List PyData) : Prop where
  go : ∀ i H', SameF F H H' → i < ds.length → J.go i H'
  stop : ∀ H', SameF F H H' → J.stop ds.length H'
  yld : ∀ i H' x H'', SameF F H H' → J.yld i H' x H'' → ∃ d, ds[i]? = some d ∧ Same H' H'' ∧ Df K (fun a => F a ∧ H a ≠ none) H'' x d
def EI (K : PySem.W.Frag) (wi : TI) (σ : L2.St) (F : Addr → Prop) (H : Hp) (ds : List PyData) : Prop := ∀ H1, Same H H1 → ∀ R : It → Hp → Prop, (∀ J H2, Same H1 H2 → Wk K (Fr F H1) H2 J ds → R J H2) → wi σ H1 R
section
variable {K : PySem.W.Frag} {σ : L2.St} {F : Addr → Prop} {H : Hp} {te tl : TE} {ds : List PyData}
theorem slF {a : Addr} {xs : List V} {H' : Hp} (s : SameF F H H') (h : (Rd H a (.lst xs) ∧ F a) ∨ KL K a xs) : SqL K H' a xs := h.imp (fun z => rd_lstF s z.1 z.2) id
theorem wk_list {a : Addr} {xs : List V} (h : (Rd H a (.lst xs) ∧ F a) ∨ KL K a xs) (r : DfAll K F H xs ds) : Wk K F H (Itl K a) ds where
  go := fun i H' s hi => by
    obtain ⟨d, e⟩ : ∃ d, ds[i]? = some d := ⟨_, List.getElem?_eq_getElem hi⟩
    obtain ⟨v, q, _⟩ := dfs_get r e
    exact ⟨xs, v, slF s h, q⟩
  stop := fun H' s => ⟨xs, slF s h, by rw [dfs_len r]; exact Nat.le_refl _⟩
  yld := fun i H' x H'' s y => by
    obtain ⟨rfl, y⟩ := y
    obtain ⟨d, e, hd⟩ := dfs_get' (dfs_monoF (s.sub fun _ z => z.1) (dfs_in r)) (y xs (slF s h))
    exact ⟨d, e, Same.refl _, hd⟩
theorem wk_tup {a : Addr} {xs : List V} (h : SqT K H a xs) (r : DfAll K F H xs ds) : Wk K F H (Itt K a) ds where
  go := fun i H' s hi => by
    obtain ⟨d, e⟩ : ∃ d, ds[i]? = some d := ⟨_, List.getElem?_eq_getElem hi⟩
    obtain ⟨v, q, _⟩ := dfs_get r e
    exact ⟨xs, v, sqt_F s h, q⟩
  stop := fun H' s => ⟨xs, sqt_F s h, by rw [dfs_len r]; exact Nat.le_refl _⟩
  yld := fun i H' x H'' s y => by
    obtain ⟨rfl, y⟩ := y
    obtain ⟨d, e, hd⟩ := dfs_get' (dfs_monoF (s.sub fun _ z => z.1) (dfs_in r)) (y xs (sqt_F s h))
    exact ⟨d, e, Same.refl _, hd⟩
theorem ei_list (h : ED K tl σ F H (.list ds)) : EI K (iList K tl) σ F H ds := fun H1 s R q => h H1 s _ fun v H2 s2 hv => by
  cases hv with
  | lst hs r => exact ⟨_, rfl, ⟨_, hs.imp (fun z => z.1) id⟩, q _ H2 s2 (wk_list hs r)⟩
theorem ei_tup (h : ED K tl σ F H (.tuple ds)) : EI K (iTup K tl) σ F H ds := fun H1 s R q => h H1 s _ fun v H2 s2 hv => by
  cases hv with
  | tup hs r => exact ⟨_, rfl, ⟨_, hs⟩, q _ H2 s2 (wk_tup hs r)⟩
def signs (x : Str) : List PyData := x.cps.toList.map fun c => .str ⟨#[c]⟩
theorem ei_str {x : Str} (h : ED K te σ F H (.str x)) : EI K (iStr te) σ F H (signs x) := fun H1 s R q => h H1 s _ fun v H2 s2 hv => by
  cases hv
  refine ⟨x, rfl, q _ H2 s2 ⟨fun i H' _ hi => ?_, fun H' _ => ?_, fun i H' y H'' _ z => ?_⟩⟩
  · show i < x.cps.size
    rw [← Array.length_toList]; unfold signs at hi; rw [List.length_map] at hi; exact hi
  · show x.cps.size ≤ (signs x).length
    unfold signs; rw [List.length_map, Array.length_toList]; exact Nat.le_refl _
  · obtain ⟨rfl, c, e, rfl⟩ := z
    refine ⟨.str ⟨#[c]⟩, ?_, Same.refl _, .str _⟩
    unfold signs
    rw [List.getElem?_map, Array.getElem?_toList, e]; rfl
def zipD (xs ys : List PyData) : List PyData := List.zipWith (fun a b => .tuple [a, b]) xs ys
theorem ei_zip {ta : TA} {xs ys : List PyData} (h : EA K ta σ F H [.tuple xs, .tuple ys]) : EI K (RZ.iZipA K ta) σ F H (zipD xs ys) := fun H1 s R q => h H1 s _ fun vs H2 s2 hv => by
  cases hv with
  | cons a r =>
    cases r with
    | cons b r =>
      cases r
      cases a with
      | tup ha ra =>
        cases b with
        | tup hb rb =>
          refine ⟨_, _, _, _, rfl, .inr ⟨ha, hb, q _ H2 s2 ⟨fun i H' s3 hi => ?_, fun H' s3 => ?_, fun i H' y H'' s3 z => ?_⟩⟩⟩
          · have hi' : i < xs.length ∧ i < ys.length := by
              unfold zipD at hi; rw [List.length_zipWith] at hi; omega
            obtain ⟨v, e, _⟩ := dfs_get ra (List.getElem?_eq_getElem hi'.1)
            obtain ⟨v2, e2, _⟩ := dfs_get rb (List.getElem?_eq_getElem hi'.2)
            exact ⟨_, _, v, v2, sqt_F s3 ha, sqt_F s3 hb, e, e2⟩
          · refine ⟨_, _, sqt_F s3 ha, sqt_F s3 hb, ?_⟩
            unfold zipD; rw [List.length_zipWith, dfs_len ra, dfs_len rb]; omega
          · obtain ⟨T, x, x2, rfl, hT, rfl, e1, e2⟩ := z
            obtain ⟨d, q1, hd⟩ := dfs_get' (dfs_in ra) (e1 _ (sqt_F s3 ha))
            obtain ⟨d2, q2, hd2⟩ := dfs_get' (dfs_in rb) (e2 _ (sqt_F s3 hb))
            refine ⟨.tuple [d, d2], ?_, Same.newA hT, .tup (.of upd_same) (.cons (df_mono (Same.newA hT) (fun _ z => z) (df_monoF (s3.sub fun _ z => z.1) hd)) (.cons (df_mono (Same.newA hT) (fun _ z => z) (df_monoF (s3.sub fun _ z => z.1) hd2)) .nil))⟩
            unfold zipD; rw [List.getElem?_zipWith, q1, q2]
/-- a comprehension over data: the list made -/
theorem lc_run {wi : TI} {g : TG} {tt : TT} {vs : List Nat} {f : PyData → Bool} {m : PyData → PyData} (hi : EI K wi σ F H ds) (hl : ds.length ≤ 50000)
    (ht : ∀ F2 H1, Ext F H F2 H1 → ∀ v d, d ∈ ds → Df K F2 H1 v d → ∃ σ2, (∀ Q : L2.St → Hp → Prop, Q σ2 H1 → g v (wipe σ vs) H1 Q) ∧ wipe σ2 vs = wipe σ vs ∧ ET tt σ2 H1 (f d) ∧ (f d = true → ED K te σ2 F2 H1 (m d))) :
    ∀ H1, Same H H1 → ∀ Q : VK, (∀ D ys H', Same H1 H' → H1 D = none → H' D = some (.lst ys) → DfAll K (fun a => Fr F H1 a ∧ a ≠ D) H' ys ((ds.filter f).map m) → Q (.ref D) H') → tLc wi g tt te vs σ H1 Q := fun H1 s Q q => hi H1 s _ fun J H2 s2 W D hD => by
  have out : ∀ i, i ≤ ds.length → (((ds.take i).filter f).map m).length < 100000 := fun i hi => by
    rw [List.length_map]
    have := List.length_filter_le f (ds.take i)
    rw [List.length_take] at this
    omega
  have hD1 : H1 D = none := s2.freshA hD
  -- what items may be: lists not at D
  let F2 : Addr → Prop := fun a => Fr F H1 a ∧ a ≠ D
  have nF : ¬ F2 D := fun z => z.2 rfl
  refine ⟨fun i k H' => k = ds.length - i ∧ i ≤ ds.length ∧ Same H2 H' ∧ ∃ ys, H' D = some (.lst ys) ∧ DfAll K F2 H' ys (((ds.take i).filter f).map m), ⟨ds.length, by simp, Nat.zero_le _, Same.newA hD, [], upd_same, by simp; exact .nil⟩, ?_⟩
  rintro i k H' ⟨rfl, hi, s3, ys, e, r⟩
  by_cases lt : i < ds.length
  · refine .inr ⟨W.go i H' s3.F lt, fun H5 => Same H2 H5 ∧ ∃ ys, H5 D = some (.lst ys) ∧ DfAll K F2 H5 ys (((ds.take (i + 1)).filter f).map m), fun H5 ⟨a, b⟩ => ⟨ds.length - (i + 1), by omega, rfl, lt, a, b⟩, fun x H3 y => ?_⟩
    obtain ⟨d, hd, s4, hx⟩ := W.yld i H' x H3 s3.F y
    have hx2 : Df K F2 H3 x d := df_mono (Same.refl _) (fun a z => ⟨z.1, fun q => z.2 (q ▸ hD)⟩) hx
    obtain ⟨σ2, hg, hw, htt, hte⟩ := ht F2 H3 ⟨(((s.trans s2).trans s3).trans s4).F, fun a z n => ⟨.inl z, fun q => n (s.freshA (q ▸ hD1))⟩⟩ x d (List.mem_of_getElem? hd) hx2
    have tk : ds.take (i + 1) = ds.take i ++ [d] := by rw [List.take_succ, hd]; rfl
    refine hg _ ⟨hw, htt H3 (Same.refl _) _ fun H4 s5 => ?_⟩
    cases hf : f d with
    | true =>
      refine hte hf H4 s5 _ fun v H5 s6 hv => ?_
      have e4 : H4 D = some (.lst ys) := s5 _ _ (s4 _ _ e)
      have e5 : H5 D = some (.lst ys) := s6 _ _ e4
      have s45 := (s4.trans s5).trans s6
      have r5 : DfAll K F2 H5 ys (((ds.take i).filter f).map m) := dfs_mono s45 (fun _ z => z) r
      have v5 : Df K F2 H5 v (m d) := df_mono (Same.refl _) (fun a z => by
        rcases z with z | z
        · exact z
        · exact ⟨.inr (s2.freshA (s3.freshA ((s4.trans s5).freshA z))), fun q => by rw [q, e4] at z; cases z⟩) hv
      refine ⟨ys, e5, lt5 (by rw [dfs_len r5]; exact out i hi), fun a u h => ?_, ys ++ [v], upd_same, ?_⟩
      · rw [upd_ne (ne_of_none h hD)]; exact s45 _ _ (s3 _ _ h)
      · rw [tk, List.filter_append, List.map_append]
        have e1 : ([d].filter f).map m = [m d] := by simp [hf]
        rw [e1]
        exact dfs_app (dfs_upd e5 nF r5) (.cons (df_upd e5 nF v5) .nil)
    | false =>
      refine ⟨fun a u h => s5 _ _ (s4 _ _ (s3 _ _ h)), ys, s5 _ _ (s4 _ _ e), ?_⟩
      rw [tk, List.filter_append, List.map_append]
      have e1 : ([d].filter f).map m = [] := by simp [hf]
      rw [e1, List.append_nil]
      exact dfs_mono (s4.trans s5) (fun _ z => z) r
  · have : i = ds.length := by omega
    subst this
    refine .inl ⟨W.stop H' s3.F, q D ys H' (s2.trans s3) hD1 e ?_⟩
    rw [List.take_length] at r; exact r
/-- a comprehension over data -/
theorem ed_lc {wi : TI} {g : TG} {tt : TT} {vs : List Nat} {f : PyData → Bool} {m : PyData → PyData} (hi : EI K wi σ F H ds) (hl : ds.length ≤ 50000)
    (ht : ∀ F2 H1, Ext F H F2 H1 → ∀ v d, d ∈ ds → Df K F2 H1 v d → ∃ σ2, (∀ Q : L2.St → Hp → Prop, Q σ2 H1 → g v (wipe σ vs) H1 Q) ∧ wipe σ2 vs = wipe σ vs ∧ ET tt σ2 H1 (f d) ∧ (f d = true → ED K te σ2 F2 H1 (m d))) :
    ED K (tLc wi g tt te vs) σ F H (.list ((ds.filter f).map m)) := fun H1 s Q q => lc_run hi hl ht H1 s Q fun D ys H' s2 n e r => q _ _ s2 (.lst (.inl ⟨.inl e, .inr n⟩) (dfs_mono (Same.refl _) (fun _ z => z.1) r))
theorem et_yes : ET tYes σ H true := fun H1 _ _ q => q H1 (Same.refl _)
end
/-! ### statements over data -/
section
variable {K : PySem.W.Frag} {σ : L2.St} {F : Addr → Prop} {H : Hp} {te ta tb : TE} {t : TT} {d e : PyData} {D : Ends} {tu tw : TS}
theorem s_ret (h : ED K te σ F H d) (k : ∀ v H1, Same H H1 → Df K (Fr F H) H1 v d → D.rt v H1) : tRet te D σ H := h H (Same.refl _) _ k
theorem s_set {i : Nat} (h : ED K te σ F H d) (k : ∀ v H1, Same H H1 → Df K (Fr F H) H1 v d → D.nx (σ.set i (some v)) H1) : tAsg te (gName i) D σ H := h H (Same.refl _) _ k
theorem s_if {b : Bool} (h : ET t σ H b) (h1 : b = true → ∀ H1, Same H H1 → tu D σ H1) (h2 : b = false → ∀ H1, Same H H1 → tw D σ H1) : tIfS t tu tw D σ H := h H (Same.refl _) _ fun H1 s => by
  cases b with
  | true => exact h1 rfl H1 s
  | false => exact h2 rfl H1 s
theorem ed_notInS {c : Nat} {z : Str} (ha : ED K ta σ F H (.str ⟨#[c]⟩)) (hb : ED K tb σ F H (.str z)) :
    ED K (tOp (fun x y H Q => ∃ (c : Nat) (z : Str), x = .str ⟨#[c]⟩ ∧ y = .str z ∧ Q (.bl (!decide (c ∈ z.cps.toList))) H) ta tb) σ F H (.bool (!decide (c ∈ z.cps.toList))) :=
  ed_op ha hb fun F a b H1 hx hy Q q => by
    cases hx; cases hy; exact ⟨c, z, rfl, rfl, q _ _ (Same.refl _) (.bl _)⟩
theorem ed_inS {c : Nat} {z : Str} (ha : ED K ta σ F H (.str ⟨#[c]⟩)) (hb : ED K tb σ F H (.str z)) :
    ED K (tOp (fun x y H Q => ∃ (c : Nat) (z : Str), x = .str ⟨#[c]⟩ ∧ y = .str z ∧ Q (.bl (decide (c ∈ z.cps.toList))) H) ta tb) σ F H (.bool (decide (c ∈ z.cps.toList))) :=
  ed_op ha hb fun F a b H1 hx hy Q q => by
    cases hx; cases hy; exact ⟨c, z, rfl, rfl, q _ _ (Same.refl _) (.bl _)⟩
end
end Ag

set_option Elab.async false
set_option linter.all false
set_option maxRecDepth 100000
set_option maxHeartbeats 1000000
/-! More rules over data: x is True, in of texts, slices and sums of tuples, list.extend of a tuple. -/
namespace Ag
open PySem PySem.Spec PyProof.Rows L2
/-- a value of data -/
def isDat : V → Bool | .non | .bl _ | .int _ | .str _ | .ref _ => true | _ => false
def rIsX (neg : Bool) : R2 := fun x y H Q => ∃ b, y = .bl b ∧ isDat x = true ∧ Q (.bl (if neg then !decide (x = .bl b) else decide (x = .bl b))) H
theorem is_dat {v : Value} {x : V} {b : Bool} (r : RelV x v) (h : isDat x = true) : plainIs v (.bool b) = true ∧ (v == Value.bool b) = decide (x = .bl b) := by
  cases x with
  | non => cases r; exact ⟨rfl, by rw [decide_eq_false (fun z => nomatch z)]; rfl⟩
  | bl c => cases r; exact ⟨rfl, by cases c <;> cases b <;> decide⟩
  | int i => obtain ⟨t, rfl⟩ := r; exact ⟨rfl, by rw [decide_eq_false (fun z => nomatch z)]; rfl⟩
  | str i => obtain ⟨t, rfl⟩ := r; exact ⟨rfl, by rw [decide_eq_false (fun z => nomatch z)]; rfl⟩
  | ref a => cases r; exact ⟨rfl, by rw [decide_eq_false (fun z => nomatch z)]; rfl⟩
  | _ => cases h
theorem op_isB {X : Cx} : OpR X (compareOp .Is) (rIsX false) := by
  intro pins s σ H x y v u Q I rx ry h
  obtain ⟨b, rfl, hd, q⟩ := h
  cases (show u = Value.bool b from ry)
  obtain ⟨h1, h2⟩ := is_dat (b := b) rx hd
  exact wpAny_is_plain h1 ⟨.bl _, H, I, rfl, by rw [h2]; exact q⟩
theorem op_isnotB {X : Cx} : OpR X (compareOp .IsNot) (rIsX true) := by
  intro pins s σ H x y v u Q I rx ry h
  obtain ⟨b, rfl, hd, q⟩ := h
  cases (show u = Value.bool b from ry)
  obtain ⟨h1, h2⟩ := is_dat (b := b) rx hd
  exact wpAny_isNot_plain h1 ⟨.bl _, H, I, rfl, by rw [h2]; exact q⟩
end Ag
namespace PySem.AutoSeq1
open PySem PySem.Spec PyProof.Rows
set_option maxRecDepth 8000 in
theorem list_extend_tup (l : Addr) (items : Array Value) (n : Nat) (b : Addr) (items2 : Array Value) (n2 : Nat) (dd : Option Addr) (sl : Array (Option Value)) (hs0 : ¬(!items.isEmpty && Builtin.List.listTooLong (items.size + items2.size)) = true) (hs1 : items.size ≤ sizeLine) (hs2 : items.size + items2.size ≤ sizeLine + 1) :
    Meets (Builtin.«list.extend» ⟨[.ref l, .ref b], []⟩) (fun _ R s => s.heap.get? l = some { cls := .type "list", dict := none, data := .seq items n, slots := #[] } ∧ s.heap.get? b = some { cls := .type "tuple", dict := dd, data := .seq items2 n2, slots := sl } ∧ R (.ok (.ret Value.none)) { s with heap := s.heap.update l (Obj.mapSeq fun x => x ++ items2), toks := s.toks }) :=
  .of_wp fun prog w A R s h => by
    obtain ⟨hp, g, d, tk, os⟩ := s; obtain ⟨hl, hb, h⟩ := h; have f1 := idx_int; have f2 := sub_tuple_tuple; have f3 := sub_list_list; have f4 := sub_tuple_list; have f5 := sub_list_tuple;
    have hz' : (items ++ items2).size ≤ sizeLine + 1 := by rw [Array.size_append]; exact hs2
    wp_walk using (wpAny_updateSeq hl rfl (hz := hs1) (_hz' := hz')), wpAny_loadPart' hl, wpAny_loadPart' hb; exact ⟨_, rfl, h⟩
end PySem.AutoSeq1
namespace Ag
open PySem PySem.Spec PyProof.Rows L2
/-- l.extend(tuple) -/
def rExtendT (K : PySem.W.Frag) : V → List V → Hp → VK → Prop := fun x vs H Q => ∃ l b xs zs, x = .ref l ∧ vs = [.ref b] ∧ H l = some (.lst xs) ∧ SqT K H b zs ∧ xs.length + zs.length ≤ sizeLine ∧ Q .non (upd H l (.lst (xs ++ zs)))
theorem mt_extendT {X : Cx} : MtM X "list.extend" (rExtendT X.K) := by
  intro pins s σ H x vs v us Q I rx rv h
  obtain ⟨l, b, xs, zs, rfl, rfl, hH, hB, hz, q⟩ := h
  cases rx
  obtain ⟨u, rfl, ru⟩ := rv.one
  cases ru
  obtain ⟨z, its, n, r, hl, e⟩ := I.lstM hH
  obtain ⟨its2, r2, ⟨⟨oc, od, odt, osl⟩, e2, ec, n2, ed⟩, hz2⟩ := I.tuple hB
  simp only at ec ed
  subst ec ed
  have hl2 := r2.length
  have hsz : its.toArray.size + its2.toArray.size ≤ sizeLine := by rw [List.size_toArray, List.size_toArray]; omega
  have hlong : ¬ (!its.toArray.isEmpty && Builtin.List.listTooLong (its.toArray.size + its2.toArray.size)) = true := by
    rw [notLongL hsz, Bool.and_false]
    exact Bool.false_ne_true
  refine call_meets F.slot_list_extend ⟨_, e, rfl⟩ F.entry_list_extend (F.args_list_extend_2 _ _)
    (PySem.AutoSeq1.list_extend_tup l its.toArray n b its2.toArray n2 od osl hlong (by rw [List.size_toArray]; omega) (by omega)) ⟨e, e2, ?_⟩
  refine ⟨.non, _, I.lset (its' := its ++ its2) hH e (by simp) (r.append r2) ?_, rfl, q⟩
  rw [List.length_append]
  omega

section
variable {K : PySem.W.Frag} {σ : L2.St} {F : Addr → Prop} {H : Hp} {te ta tb : TE} {d e : PyData}
theorem df_isDat {x : V} (h : Df K F H x d) : isDat x = true := by cases h <;> rfl
def isB (b : Bool) : PyData → Bool | .bool c => c == b | _ => false
theorem isB_of {b : Bool} {x : V} (h : Df K F H x d) : decide (x = .bl b) = isB b d := by
  cases h with
  | bl c => cases c <;> cases b <;> decide
  | _ => exact decide_eq_false (fun z => nomatch z)
theorem ed_isB {b : Bool} (ha : ED K ta σ F H d) : ED K (tOp (rIsX false) ta (tC (.bl b))) σ F H (.bool (isB b d)) :=
  ed_op ha ed_bl fun F x y H1 hx hy Q q => by
    cases hy; refine ⟨b, rfl, df_isDat hx, ?_⟩
    show Q (.bl (decide (x = .bl b))) H1
    rw [isB_of hx]; exact q _ _ (Same.refl _) (.bl _)
theorem ed_isnotB {b : Bool} (ha : ED K ta σ F H d) : ED K (tOp (rIsX true) ta (tC (.bl b))) σ F H (.bool (!isB b d)) :=
  ed_op ha ed_bl fun F x y H1 hx hy Q q => by
    cases hy; refine ⟨b, rfl, df_isDat hx, ?_⟩
    show Q (.bl (!decide (x = .bl b))) H1
    rw [isB_of hx]; exact q _ _ (Same.refl _) (.bl _)
theorem inV_strs (x : Str) : ∀ (xs : List Str), inV (.str x) (xs.map V.str) = decide (x ∈ xs)
  | [] => rfl
  | y :: ys => by
    have ih := inV_strs x ys
    unfold inV at ih ⊢
    rw [List.map_cons, List.any_cons, ih]
    have e : eqV (.str y) (.str x) = decide (y = x) := rfl
    rw [e]
    by_cases h : x = y
    · subst h; simp
    · have h' : ¬ y = x := fun q => h q.symm
      simp [h, h']
theorem flat_strs : ∀ (xs : List Str), (xs.map V.str).all flatV = true
  | [] => rfl
  | y :: ys => by rw [List.map_cons, List.all_cons, flat_strs ys]; rfl
theorem ed_inSeq {x : Str} {xs : List Str} (ha : ED K ta σ F H (.str x)) (hb : ED K tb σ F H e) (he : e = .tuple (xs.map .str) ∨ e = .list (xs.map .str)) : ED K (tOp (rIn K false) ta tb) σ F H (.bool (decide (x ∈ xs))) :=
  ed_op ha hb fun F a b H1 hx hy Q q => by
    cases hx
    have h : ∃ p, b = .ref p ∧ (SqL K H1 p (xs.map V.str) ∨ SqT K H1 p (xs.map V.str)) := by
      rcases he with rfl | rfl
      · cases hy with
        | tup h r => rw [strs_dps (dfs_dps r)] at h; exact ⟨_, rfl, .inr h⟩
      · cases hy with
        | lst h r => rw [strs_dps (dfs_dps r)] at h; exact ⟨_, rfl, .inl (h.imp (fun z => z.1) id)⟩
    obtain ⟨p, rfl, h⟩ := h
    refine ⟨p, _, rfl, h, rfl, flat_strs xs, ?_⟩
    show Q (.bl (inV (.str x) (xs.map V.str))) H1
    rw [inV_strs]; exact q _ _ (Same.refl _) (.bl _)
theorem ed_notInSeq {x : Str} {xs : List Str} (ha : ED K ta σ F H (.str x)) (hb : ED K tb σ F H e) (he : e = .tuple (xs.map .str) ∨ e = .list (xs.map .str)) : ED K (tOp (rIn K true) ta tb) σ F H (.bool (!decide (x ∈ xs))) :=
  ed_op ha hb fun F a b H1 hx hy Q q => by
    cases hx
    have h : ∃ p, b = .ref p ∧ (SqL K H1 p (xs.map V.str) ∨ SqT K H1 p (xs.map V.str)) := by
      rcases he with rfl | rfl
      · cases hy with
        | tup h r => rw [strs_dps (dfs_dps r)] at h; exact ⟨_, rfl, .inr h⟩
      · cases hy with
        | lst h r => rw [strs_dps (dfs_dps r)] at h; exact ⟨_, rfl, .inl (h.imp (fun z => z.1) id)⟩
    obtain ⟨p, rfl, h⟩ := h
    refine ⟨p, _, rfl, h, rfl, flat_strs xs, ?_⟩
    show Q (.bl (!inV (.str x) (xs.map V.str))) H1
    rw [inV_strs]; exact q _ _ (Same.refl _) (.bl _)
theorem ed_catT {xs ys : List PyData} (ha : ED K ta σ F H (.tuple xs)) (hb : ED K tb σ F H (.tuple ys)) (hl : xs.length + ys.length ≤ 100000) : ED K (tOp (rCatA K) ta tb) σ F H (.tuple (xs ++ ys)) :=
  ed_op ha hb fun F a b H1 hx hy Q q => by
    cases hx with
    | tup h r =>
      cases hy with
      | tup h2 r2 =>
        refine ⟨_, _, _, _, rfl, rfl, h, h2, by rw [dfs_len r, dfs_len r2]; exact small5 hl, fun z => ?_, fun _ z => ?_, fun _ _ p hp => ?_⟩
        · subst z; cases r; exact q _ _ (Same.refl _) (.tup h2 (dfs_mono (Same.refl _) (fun _ z => .inl z) r2))
        · subst z; cases r2; exact q _ _ (Same.refl _) (by rw [List.append_nil]; exact .tup h (dfs_mono (Same.refl _) (fun _ z => .inl z) r))
        · exact q _ _ (Same.newA hp) (.tup (.of upd_same) (dfs_mono (Same.newA hp) (fun _ z => .inl z) (dfs_app r r2)))
def cutD (xs : List PyData) (lo hi : Option Int) : List PyData := (xs.drop (HT.sIx xs.length 0 lo)).take (HT.sIx xs.length xs.length hi - HT.sIx xs.length 0 lo)
theorem dfs_cut {vs : List V} {ds : List PyData} {lo hi : Option Int} (h : DfAll K F H vs ds) : DfAll K F H (cutV vs lo hi) (cutD ds lo hi) := by
  unfold cutV cutD; rw [dfs_len h]; exact dfs_take _ (dfs_drop _ h)
theorem cutD_all {ds : List PyData} {lo hi : Option Int} (h : HT.sIx ds.length 0 lo = 0 ∧ HT.sIx ds.length ds.length hi = ds.length) : cutD ds lo hi = ds := by
  unfold cutD; rw [h.1, h.2, List.drop_zero, Nat.sub_zero, List.take_length]
theorem eo_none : EO tNoPart σ H none := fun H1 s Q q => q H1 (Same.refl _)
theorem eo_some {i : Int} (h : ED K te σ F H (.int i)) : EO (tPart te) σ H (some i) := fun H1 s Q q => h H1 s _ fun v H2 s2 hv => by
  cases hv; exact ⟨i, rfl, q H2 s2⟩
theorem ed_slT {xs : List PyData} {tl th : TO} {lo hi : Option Int} (h : ED K te σ F H (.tuple xs)) (hl : EO tl σ H lo) (hh : EO th σ H hi) : ED K (tSl (rSlA K) te tl th) σ F H (.tuple (cutD xs lo hi)) := fun H1 s Q q =>
  h H1 s _ fun v H2 s2 hv => hl H2 (s.trans s2) _ fun H3 s3 => hh H3 ((s.trans s2).trans s3) _ fun H4 s4 => by
    cases hv with
    | tup ht r =>
      have s34 := s3.trans s4
      have s24 := s2.trans s34
      refine ⟨_, _, rfl, s34.stA ht, fun z => ?_, fun _ p hp => ?_⟩
      · rw [dfs_len r] at z
        exact q _ _ s24 (by rw [cutD_all z]; exact .tup (s34.stA ht) (dfs_mono s34 (fun _ z => z) r))
      · exact q _ _ (s24.trans (Same.newA hp)) (.tup (.of upd_same) (dfs_mono (s34.trans (Same.newA hp)) (fun _ z => z) (dfs_cut r)))
theorem ed_slL {xs : List PyData} {tl th : TO} {lo hi : Option Int} (h : ED K te σ F H (.list xs)) (hl : EO tl σ H lo) (hh : EO th σ H hi) : ED K (tSl (rSlL K) te tl th) σ F H (.list (cutD xs lo hi)) := fun H1 s Q q =>
  h H1 s _ fun v H2 s2 hv => hl H2 (s.trans s2) _ fun H3 s3 => hh H3 ((s.trans s2).trans s3) _ fun H4 s4 => by
    cases hv with
    | lst ht r =>
      have s34 := s3.trans s4
      have s24 := s2.trans s34
      refine ⟨_, _, rfl, s34.slA (ht.imp (fun z => z.1) id), fun p hp => ?_⟩
      exact q _ _ (s24.trans (Same.newA hp)) (.lst (.inl ⟨.inl upd_same, .inr (s24.freshA hp)⟩) (dfs_mono (s34.trans (Same.newA hp)) (fun _ z => z) (dfs_cut r)))
theorem filt_tt {α : Type} (l : List α) : l.filter (fun _ => true) = l := List.filter_eq_self.mpr fun _ _ => rfl
end
end Ag

set_option Elab.async false
set_option linter.all false
set_option maxRecDepth 100000
set_option maxHeartbeats 1000000
/-! A list beside the empty list, whatever its depth. -/
namespace Ag
open PySem PySem.Spec PyProof.Rows L2
def rNeE (K : PySem.W.Frag) : R2 := fun x y H Q => ∃ ds, Dp K H x (.list ds) ∧ Dp K H y (.list []) ∧ PyData.canLayAll0 ds = true ∧ Q (.bl (!ds.isEmpty)) H
def rEqE (K : PySem.W.Frag) : R2 := fun x y H Q => ∃ ds, Dp K H x (.list ds) ∧ Dp K H y (.list []) ∧ PyData.canLayAll0 ds = true ∧ Q (.bl ds.isEmpty) H
theorem eqv_empty : ∀ (ds : List PyData), PyData.eqv (.list ds) (.list []) = ds.isEmpty
  | [] => by simp [PyData.eqv, PyData.eqvAll]
  | _ :: _ => by simp [PyData.eqv, PyData.eqvAll]
theorem room_empty {A : Around} {d : PyData} (hu : A.units + 64 < cLine) : A.units + min d.depth (PyData.list []).depth < cLine := by
  have h : (PyData.list []).depth ≤ 64 := by decide
  have h2 : min d.depth (PyData.list []).depth ≤ (PyData.list []).depth := Nat.min_le_right _ _
  omega
theorem op_neE {X : Cx} (hu : X.A.units + 64 < cLine) : OpR X (compareOp .NotEq) (rNeE X.K) := by
  intro pins s σ H x y v u Q I rx ry h
  obtain ⟨ds, hd, he, sd, q⟩ := h
  obtain ⟨as, r1⟩ := Dp.reads I (.list ds) x v hd rx
  obtain ⟨bs, r2⟩ := Dp.reads I (.list []) y u he ry
  exact SeqAt.compareNe_reads r1 r2 (by simpa [PyData.canLay0] using sd) (by simp [PyData.canLay0, PyData.canLayAll0]) (room_empty hu) ⟨.bl _, H, I, rfl, by rw [eqv_empty]; exact q⟩
theorem op_eqE {X : Cx} (hu : X.A.units + 64 < cLine) : OpR X (compareOp .Eq) (rEqE X.K) := by
  intro pins s σ H x y v u Q I rx ry h
  obtain ⟨ds, hd, he, sd, q⟩ := h
  obtain ⟨as, r1⟩ := Dp.reads I (.list ds) x v hd rx
  obtain ⟨bs, r2⟩ := Dp.reads I (.list []) y u he ry
  exact SeqAt.compareEq_reads r1 r2 (by simpa [PyData.canLay0] using sd) (by simp [PyData.canLay0, PyData.canLayAll0]) (room_empty hu) ⟨.bl _, H, I, rfl, by rw [eqv_empty]; exact q⟩
section
variable {K : PySem.W.Frag} {σ : L2.St} {F : Addr → Prop} {H : Hp} {te ta tb : TE} {ds : List PyData}
theorem ed_neE (ha : ED K ta σ F H (.list ds)) (hb : ED K tb σ F H (.list [])) (hl : PyData.canLayAll0 ds = true) : ED K (tOp (rNeE K) ta tb) σ F H (.bool (!ds.isEmpty)) :=
  ed_op ha hb fun F a b H1 hx hy Q q => ⟨ds, df_dp hx, df_dp hy, hl, q _ _ (Same.refl _) (.bl _)⟩
theorem ed_eqE (ha : ED K ta σ F H (.list ds)) (hb : ED K tb σ F H (.list [])) (hl : PyData.canLayAll0 ds = true) : ED K (tOp (rEqE K) ta tb) σ F H (.bool ds.isEmpty) :=
  ed_op ha hb fun F a b H1 hx hy Q q => ⟨ds, df_dp hx, df_dp hy, hl, q _ _ (Same.refl _) (.bl _)⟩
theorem ed_emp : ED K (tLst tNil) σ F H (.list []) := ed_lst ea_nil (by decide)
/-- a comprehension of two clauses over data: the list made -/
theorem lc2_run {wi wi1 : TI} {g g1 : TG} {tt tt1 : TT} {vs vs1 : List Nat} {es : PyData → List PyData} {m : PyData → PyData} (hi : EI K wi σ F H ds) (hl : (ds.flatMap es).length ≤ 50000)
    (ht : ∀ F2 H1, Ext F H F2 H1 → ∀ v d, d ∈ ds → Df K F2 H1 v d → ∃ σ2, (∀ Q : L2.St → Hp → Prop, Q σ2 H1 → g v (wipe σ vs) H1 Q) ∧ wipe σ2 vs = wipe σ vs ∧ ET tt σ2 H1 true ∧ EI K wi1 σ2 F2 H1 (es d) ∧
      ∀ F3 H2, Ext F2 H1 F3 H2 → ∀ v2 d2, d2 ∈ es d → Df K F3 H2 v2 d2 → ∃ σ3, (∀ Q : L2.St → Hp → Prop, Q σ3 H2 → g1 v2 (wipe σ2 vs1) H2 Q) ∧ wipe σ3 vs1 = wipe σ2 vs1 ∧ ET tt1 σ3 H2 true ∧ ED K te σ3 F3 H2 (m d2)) :
    ∀ H1, Same H H1 → ∀ Q : VK, (∀ D ys H', Same H1 H' → H1 D = none → H' D = some (.lst ys) → DfAll K (fun a => Fr F H1 a ∧ a ≠ D) H' ys ((ds.flatMap es).map m) → Q (.ref D) H') → tLc2 wi g tt wi1 g1 tt1 te vs vs1 σ H1 Q := fun H1 s Q q => hi H1 s _ fun J H2 s2 W D hD => by
  have hD1 : H1 D = none := s2.freshA hD
  let F2 : Addr → Prop := fun a => Fr F H1 a ∧ a ≠ D
  have nF : ¬ F2 D := fun z => z.2 rfl
  refine ⟨fun i k H' => k = ds.length - i ∧ i ≤ ds.length ∧ Same H2 H' ∧ ∃ ys, H' D = some (.lst ys) ∧ DfAll K F2 H' ys (((ds.take i).flatMap es).map m), ⟨ds.length, by simp, Nat.zero_le _, Same.newA hD, [], upd_same, by simp; exact .nil⟩, ?_⟩
  rintro i k H' ⟨rfl, hi, s3, ys, e, r⟩
  by_cases lt : i < ds.length
  · refine .inr ⟨W.go i H' s3.F lt, fun H5 => Same H2 H5 ∧ ∃ ys, H5 D = some (.lst ys) ∧ DfAll K F2 H5 ys (((ds.take (i + 1)).flatMap es).map m), fun H5 ⟨a, b⟩ => ⟨ds.length - (i + 1), by omega, rfl, lt, a, b⟩, fun x H3 y => ?_⟩
    obtain ⟨d, hd, s4, hx⟩ := W.yld i H' x H3 s3.F y
    have hx2 : Df K F2 H3 x d := df_mono (Same.refl _) (fun a z => ⟨z.1, fun q => z.2 (q ▸ hD)⟩) hx
    obtain ⟨σ2, hg, hw, htt, hin, hte⟩ := ht F2 H3 ⟨(((s.trans s2).trans s3).trans s4).F, fun a z n => ⟨.inl z, fun q => n (s.freshA (q ▸ hD1))⟩⟩ x d (List.mem_of_getElem? hd) hx2
    have tk : ds.take (i + 1) = ds.take i ++ [d] := by rw [List.take_succ, hd]; rfl
    have tkf : (ds.take (i + 1)).flatMap es = (ds.take i).flatMap es ++ es d := by rw [tk, List.flatMap_append]; simp
    have bnd : ((ds.take i).flatMap es ++ es d).length ≤ 50000 := by
      rw [← tkf]
      refine Nat.le_trans ?_ hl
      conv => rhs; rw [← List.take_append_drop (i + 1) ds, List.flatMap_append, List.length_append]
      exact Nat.le_add_right _ _
    refine hg _ ⟨hw, htt H3 (Same.refl _) _ fun H4 s5 => ?_⟩
    have e4 : H4 D = some (.lst ys) := s5 _ _ (s4 _ _ e)
    refine hin H4 s5 _ fun J1 H6 s6 W1 => ?_
    have e6 := s6 _ _ e4
    have s36 := (s4.trans s5).trans s6
    have nF4 : ¬ Fr F2 H4 D := fun z => z.elim nF (fun z => by rw [e4] at z; cases z)
    have to2 : ∀ a, Fr F2 H4 a → F2 a := fun a z => z.elim id fun z => ⟨.inr (s2.freshA (s3.freshA ((s4.trans s5).freshA z))), fun q => by rw [q, e4] at z; cases z⟩
    refine ⟨fun j k H' => k = (es d).length - j ∧ j ≤ (es d).length ∧ Same H2 H' ∧ SameF (Fr F2 H4) H6 H' ∧ ∃ ys, H' D = some (.lst ys) ∧ DfAll K F2 H' ys (((ds.take i).flatMap es ++ (es d).take j).map m), ⟨(es d).length, by simp, Nat.zero_le _, s3.trans s36, SameF.refl, ys, e6, by simp only [List.take_zero, List.append_nil]; exact dfs_mono s36 (fun _ z => z) r⟩, ?_⟩
    rintro j k H' ⟨rfl, hj, t3, tF, zs, ez, rz⟩
    by_cases lj : j < (es d).length
    · refine .inr ⟨W1.go j H' tF lj, fun H5 => Same H2 H5 ∧ SameF (Fr F2 H4) H6 H5 ∧ ∃ ys, H5 D = some (.lst ys) ∧ DfAll K F2 H5 ys (((ds.take i).flatMap es ++ (es d).take (j + 1)).map m), fun H5 ⟨a, b, c⟩ => ⟨(es d).length - (j + 1), by omega, rfl, lj, a, b, c⟩, fun x2 H7 y2 => ?_⟩
      obtain ⟨d2, hd2, t4, hx3⟩ := W1.yld j H' x2 H7 tF y2
      have hx4 : Df K F2 H7 x2 d2 := df_mono (Same.refl _) (fun a z => to2 a z.1) hx3
      have F37 : SameF F2 H3 H7 := ((s5.trans s6).F.trans (tF.sub fun a z => .inl z)).trans t4.F
      obtain ⟨σ3, hg3, hw3, htt3, hte3⟩ := hte F2 H7 ⟨F37, fun a z _ => z⟩ x2 d2 (List.mem_of_getElem? hd2) hx4
      have tk2 : (es d).take (j + 1) = (es d).take j ++ [d2] := by rw [List.take_succ, hd2]; rfl
      refine hg3 _ ⟨hw3, htt3 H7 (Same.refl _) _ fun H8 t5 => ?_⟩
      refine hte3 H8 t5 _ fun v H9 t6 hv => ?_
      have t46 := (t4.trans t5).trans t6
      have e9 : H9 D = some (.lst zs) := t46 _ _ ez
      have r9 : DfAll K F2 H9 zs (((ds.take i).flatMap es ++ (es d).take j).map m) := dfs_mono t46 (fun _ z => z) rz
      have v9 : Df K F2 H9 v (m d2) := df_mono (Same.refl _) (fun a z => by
        rcases z with z | z
        · exact z
        · exact ⟨.inr (s2.freshA (t3.freshA ((t4.trans t5).freshA z))), fun q => by
            have := (t4.trans t5) _ _ ez
            rw [q, this] at z; cases z⟩) hv
      have len9 := dfs_len r9
      rw [List.length_map, List.length_append, List.length_take] at len9
      rw [List.length_append] at bnd
      refine ⟨zs, e9, lt5 (by omega), fun a u h => ?_, (tF.trans t46.F).trans (SameF.upd e9 nF4), zs ++ [v], upd_same, ?_⟩
      · rw [upd_ne (ne_of_none h hD)]; exact t46 _ _ (t3 _ _ h)
      · rw [tk2, ← List.append_assoc, List.map_append]
        exact dfs_app (dfs_upd e9 nF r9) (.cons (df_upd e9 nF v9) .nil)
    · have : j = (es d).length := by omega
      subst this
      refine .inl ⟨W1.stop H' tF, t3, zs, ez, ?_⟩
      rw [tkf]; rw [List.take_length] at rz; exact rz
  · have : i = ds.length := by omega
    subst this
    refine .inl ⟨W.stop H' s3.F, q D ys H' (s2.trans s3) hD1 e ?_⟩
    rw [List.take_length] at r; exact r
end
end Ag

set_option Elab.async false
set_option linter.all false
set_option maxRecDepth 100000
set_option maxHeartbeats 1000000
/-! A text times an int; data that is good, made without naming it. -/
namespace Ag
open PySem PySem.Spec PyProof.Rows L2
def rRepS : R2 := fun x y H Q => ∃ (z : Str) (n : Nat), x = .str z ∧ y = .int (n : Int) ∧ z.length ≤ 1000 ∧ n ≤ 1000 ∧ Q (.str (Txt.mul z n)) H
theorem op_repS {X : Cx} : OpR X (binaryOp .Mult) rRepS := by
  intro pins s σ H x y v u Q I rx ry h
  obtain ⟨z, n, rfl, rfl, h1, h2, q⟩ := h
  obtain ⟨t, rfl⟩ := rx
  obtain ⟨t', rfl⟩ := ry
  exact SB.mul (mulOk_of 1000 1000 h1 (by omega) (by omega) (by decide) (by decide)) fun t' k => ⟨.str _, H, I.tok _, ⟨_, rfl⟩, q⟩
end Ag

set_option Elab.async false
set_option linter.all false
set_option maxRecDepth 100000
set_option maxHeartbeats 1000000
/-! sorted(list of alike data) over the layer: texts, ints, tuples of such. -/
namespace Ag
open PySem PySem.Spec PyProof.Rows L2
open PySem.W (EachIs AllAlike Sortable dataKind sortLe dataLt keyToks)
/-- a is not behind b -/
def leD (a b : PyData) : Bool := !dataLt b a
theorem each_of {h : Heap} : ∀ {xs : List V} {us : List Value} {ds : List PyData} {as : List Addr}, Vals xs us → ReadsAll h us ds as → EachIs (fun (u : Value) (b : V × PyData) => RelV b.1 u ∧ (∃ as, Reads h u b.2 as) ∧ b.2 ∈ ds) us (xs.zip ds)
  | [], _, _, _, .nil, .nil => .nil
  | x :: xs, u :: us, _, _, .cons r t, .cons (d := d) (ds := ds) h1 h2 => by
    rw [List.zip_cons_cons]
    refine .cons ⟨r, ⟨_, h1⟩, List.mem_cons_self⟩ (EachIs.mono (fun u b z => ⟨z.1, z.2.1, List.mem_cons_of_mem _ z.2.2⟩) (each_of t h2))
theorem vals_each {us : List Value} {zs : List (V × PyData)} (h : EachIs (fun (u : Value) (b : V × PyData) => RelV b.1 u) us zs) : Vals (zs.map Prod.fst) us := by
  induction h with
  | nil => exact .nil
  | cons a _ ih => exact .cons a ih
theorem each_reads {h : Heap} : ∀ {us : List Value} {ds : List PyData} {as : List Addr}, ReadsAll h us ds as → EachIs (fun v d => ∃ as, Reads h v d as) us ds
  | [], _, _, .nil => .nil
  | _ :: _, _, _, .cons a r => .cons ⟨_, a⟩ (each_reads r)
/-- sorted(xs): the data in their order, equal ones as they stood; zs: the items beside their data -/
def rSortD (K : PySem.W.Frag) : List V → Hp → VK → Prop := fun vs H Q => ∃ (a : Addr) (xs : List V) (ds : List PyData), vs = [V.ref a] ∧ SqL K H a xs ∧ DpAll K H xs ds ∧ AllAlike ds ∧ Sortable ds ∧ (∀ d ∈ ds, d.depth ≤ 50) ∧
  ∀ (zs : List (V × PyData)) p, zs.Perm (xs.zip ds) → zs.map Prod.snd = ds.mergeSort leD → H p = none → Q (.ref p) (upd H p (.lst (zs.map Prod.fst)))
theorem cr_sortD {X : Cx} (hu : X.A.units + 64 < cLine) : CallR X (.builtin "sorted") (rSortD X.K) := by
  intro pins s σ H vs us Q I r h
  obtain ⟨a, xs, ds, rfl, hs, hd, al, so, dp, q⟩ := h
  obtain ⟨its, rv, hl, hz⟩ := I.list hs
  rw [Vals.ref1 r]
  obtain ⟨as, hr⟩ := Dp.readsAll I ds xs its hd rv
  have len : its.length = ds.length := by rw [← rv.length, dps_len hd]
  have hr2 : ReadsAll (PySem.W.sortingHeap (PySem.W.copyHeap s.heap its) (s.heap.objs.size + 1) its) its ds as := PyProof.Rows.ReadsAll.keeps (fun b o e => PySem.W.sorting_copy_old e) hr
  refine PySem.W.sorted_vals (κ := dataKind (PySem.W.sortingHeap (PySem.W.copyHeap s.heap its) (s.heap.objs.size + 1) its) ds) hl.isList (PySem.W.SortsAt.data (each_reads hr2) al so fun d hd => ?_) (by rw [← rv.length]; exact hz) ?_
  · have := dp d hd
    show X.A.units + 1 + 1 + d.depth < cLine
    omega
  · have e1 := each_of rv hr2
    have hk : EachIs (fun (v : Value) (b : V × PyData) => (dataKind (PySem.W.sortingHeap (PySem.W.copyHeap s.heap its) (s.heap.objs.size + 1) its) ds).keyOf v = some (keyToks b.2)) its (xs.zip ds) :=
      EachIs.mono (fun u b z => by
        obtain ⟨_, ⟨as, h2⟩, h3⟩ := z
        exact PySem.W.dataKind_some al h3 h2) e1
    have e2 : EachIs (fun (u : Value) (b : V × PyData) => RelV b.1 u) its (xs.zip ds) := EachIs.mono (fun u b z => z.1) e1
    have e3 := PySem.W.sortVals_each (κ := dataKind (PySem.W.sortingHeap (PySem.W.copyHeap s.heap its) (s.heap.objs.size + 1) its) ds) (rev := false) (ks := its) (fun b : V × PyData => keyToks b.2) e2 hk
    have hn : H (s.heap.objs.size + 1) = none := I.hok.fresh (Nat.le_succ _)
    have hv := vals_each e3
    have pm : ((xs.zip ds).mergeSort (sortLe (dataKind (PySem.W.sortingHeap (PySem.W.copyHeap s.heap its) (s.heap.objs.size + 1) its) ds).toKeyOrd false fun b : V × PyData => keyToks b.2)).Perm (xs.zip ds) := List.mergeSort_perm _ _
    obtain ⟨n, hat⟩ := sortedAll_at s.heap its (PySem.W.sortVals (dataKind (PySem.W.sortingHeap (PySem.W.copyHeap s.heap its) (s.heap.objs.size + 1) its) ds) false its its).toArray
    refine ⟨.ref (s.heap.objs.size + 1), upd H (s.heap.objs.size + 1) (.lst (((xs.zip ds).mergeSort (sortLe (dataKind (PySem.W.sortingHeap (PySem.W.copyHeap s.heap its) (s.heap.objs.size + 1) its) ds).toKeyOrd false fun b : V × PyData => keyToks b.2)).map Prod.fst)),
      I.laid (t' := s.toks) (fun b o e => sortedAll_old e) (Nat.le_succ _) ⟨?_, _, n, hv, hat⟩, rfl, q _ _ pm ?_ hn⟩
    · rw [List.length_map, pm.length_eq, List.length_zip]
      have := dps_len hd
      have := rv.length
      omega
    · exact (PySem.W.sort_maps (s := leD) Prod.snd fun p _ q _ => rfl).trans (by rw [List.map_snd_zip (by have := dps_len hd; omega)])
end Ag

set_option Elab.async false
set_option linter.all false
set_option maxRecDepth 100000
set_option maxHeartbeats 1000000
/-! Texts split and joined, as data. -/
namespace Ag
open PySem PySem.Spec PyProof.Rows L2
section
variable {K : PySem.W.Frag} {σ : L2.St} {F : Addr → Prop} {H : Hp} {to te : TE} {a b : Str}
theorem ed_split (ho : ED K to σ F H (.str a)) (he : ED K te σ F H (.str b)) (hb : (b.length == 0) = false) (ha : a.length ≤ 100000) :
    ED K (tM1 (fun x xs H Q => ∃ a b, x = .str a ∧ xs = [.str b] ∧ (b.length == 0) = false ∧ a.length + 2 ≤ sizeLine ∧ rNewStrs (Txt.split a b) H Q) to te) σ F H (.list ((Txt.split a b).map .str)) := fun H1 s Q q =>
  ho H1 s _ fun v H2 s2 hv => by
    cases hv
    refine ⟨⟨a, rfl⟩, he H2 (s.trans s2) _ fun u H3 s3 hu => ?_⟩
    cases hu
    refine ⟨a, b, rfl, rfl, hb, Nat.le_trans (Nat.add_le_add_right ha 2) (by decide), fun p hp => ?_⟩
    have s23 := s2.trans s3
    exact q _ _ (s23.trans (Same.newA hp)) (.lst (.inl ⟨.inl upd_same, .inr (s23.freshA hp)⟩) (dfs_strs _))
theorem ed_join {ys : List Str} {e : PyData} (ho : ED K to σ F H (.str a)) (he : ED K te σ F H e) (h : e = .list (ys.map .str) ∨ e = .tuple (ys.map .str)) (hl : (ys.map (·.length)).sum + ys.length * a.length ≤ 16777216) :
    ED K (tM1 (fun x xs H Q => ∃ a p, ∃ ys : List Str, x = .str a ∧ xs = [.ref p] ∧ (SqL K H p (ys.map V.str) ∨ SqT K H p (ys.map V.str)) ∧ (ys.map (·.length)).sum + ys.length * a.length ≤ 16777216 ∧ Q (.str (Txt.join a ys)) H) to te) σ F H (.str (Txt.join a ys)) := fun H1 s Q q =>
  ho H1 s _ fun v H2 s2 hv => by
    cases hv
    refine ⟨⟨a, rfl⟩, he H2 (s.trans s2) _ fun u H3 s3 hu => ?_⟩
    have hq : ∃ p, u = .ref p ∧ (SqL K H3 p (ys.map V.str) ∨ SqT K H3 p (ys.map V.str)) := by
      rcases h with rfl | rfl
      · cases hu with
        | lst h r => rw [strs_dps (dfs_dps r)] at h; exact ⟨_, rfl, .inl (h.imp (fun z => z.1) id)⟩
      · cases hu with
        | tup h r => rw [strs_dps (dfs_dps r)] at h; exact ⟨_, rfl, .inr h⟩
    obtain ⟨p, rfl, hs⟩ := hq
    exact ⟨a, p, ys, rfl, rfl, hs, hl, q _ _ (s2.trans s3) (.str _)⟩
end
end Ag

set_option Elab.async false
set_option linter.all false
set_option maxRecDepth 100000
set_option maxHeartbeats 1000000
/-! repr of data, where nothing is being shown. -/
namespace Ag
open PySem PySem.Spec PyProof.Rows L2
/-- data, or an empty dict -/
def Dx (K : PySem.W.Frag) (H : Hp) (v : V) (d : PyData) : Prop := Dp K H v d ∨ (d = .dict [] ∧ ∃ a, v = .ref a ∧ H a = some (.dK []))
theorem Dx.mono {K : PySem.W.Frag} {H H' : Hp} {v : V} {d : PyData} (e : Same H H') (h : Dx K H v d) : Dx K H' v d := h.imp (dp_mono e) fun ⟨a, b, c, q⟩ => ⟨a, b, c, e _ _ q⟩
theorem Dx.dp {K : PySem.W.Frag} {H : Hp} {v : V} {d : PyData} (h : Dp K H v d) : Dx K H v d := .inl h
theorem Dx.reads {X : Cx} {pins : List (Addr × Obj)} {σ : L2.St} {H : Hp} {s : Shared} (I : Inv X pins σ H s) {d : PyData} {v : V} {u : Value} (h : Dx X.K H v d) (r : RelV v u) : ∃ as, Reads s.heap u d as ∧ (d.hasDict = true → sysModules ∉ as) := by
  rcases h with h | ⟨rfl, a, rfl, h⟩
  · obtain ⟨as, q⟩ := Dp.reads I d v u h r
    refine ⟨as, q, fun z => ?_⟩
    have nd : d.hasDict = false := by
      have key : ∀ (d : PyData) (v : V), Dp X.K H v d → d.hasDict = false := by
        intro d v h
        exact Dp.rec (motive_1 := fun _ d _ => d.hasDict = false) (motive_2 := fun _ ds _ => PyData.hasDictAll ds = false) (by simp [PyData.hasDict]) (fun _ => by simp [PyData.hasDict]) (fun _ => by simp [PyData.hasDict]) (fun _ => by simp [PyData.hasDict])
          (fun _ _ ih => by simp only [PyData.hasDict]; exact ih) (fun _ _ ih => by simp only [PyData.hasDict]; exact ih) (by simp [PyData.hasDictAll]) (fun _ _ i1 i2 => by simp only [PyData.hasDictAll]; rw [i1, i2]; rfl) h
      exact key d v h
    rw [nd] at z; cases z
  · cases r
    obtain ⟨_, ns, vs, kv, o, es, ep, e1, ⟨c1, _⟩, e3, e4, e5, _⟩ := I.hok a _ h
    cases kv
    have ez : es.toList = [] := by
      cases q : es.toList with
      | nil => rfl
      | cons x r => rw [q] at e5; cases e5
    refine ⟨_, .dict e1 c1 e3 (by rw [ez]; exact .nil) (by rw [ez]; exact .nil), fun _ m => ?_⟩
    have m : sysModules = a := by simpa using m
    rw [m] at ns; simp at ns
def rRepr (K : PySem.W.Frag) : List V → Hp → VK → Prop := fun vs H Q => ∃ x d, vs = [x] ∧ Dx K H x d ∧ d.showable = true ∧ d.depth ≤ 50 ∧ d.shown.length ≤ sizeLine ∧ Q (.str d.shown) H
theorem cr_repr {X : Cx} (hg : X.A.guards = some []) (hu : X.A.units + 64 < cLine) : CallR X (.builtin "repr") (rRepr X.K) := by
  intro pins s σ H vs us Q I r h
  obtain ⟨x, d, rfl, hd, sh, dp, sz, q⟩ := h
  obtain ⟨u, rfl, ru⟩ := r.one
  obtain ⟨as, hr, hsm⟩ := Dx.reads I hd ru
  cases hr with
  | none => exact PySem.P.repr_of_none ⟨.str _, H, I.tok _, ⟨_, rfl⟩, q⟩
  | bool b => exact PySem.P.repr_of_bool ⟨.str _, H, I.tok _, ⟨_, rfl⟩, q⟩
  | int i t => exact PySem.P.repr_of_int (by simpa [PyData.showable] using sh) ⟨.str _, H, I.tok _, ⟨_, rfl⟩, q⟩
  | str x t => exact PySem.P.repr_of_str ⟨.str _, H, I.tok _, ⟨_, rfl⟩, q⟩ sz
  | list h1 h2 h3 h4 => exact PySem.repr_of_reads' (.list h1 h2 h3 h4) sh hsm hg (by omega) (fun _ _ e => e) (fun h' u tk hk => ⟨.str _, H, I.kept hk, ⟨_, rfl⟩, q⟩) sz
  | tuple h1 h2 h3 h4 => exact PySem.repr_of_reads' (.tuple h1 h2 h3 h4) sh hsm hg (by omega) (fun _ _ e => e) (fun h' u tk hk => ⟨.str _, H, I.kept hk, ⟨_, rfl⟩, q⟩) sz
  | dict h1 h2 h3 h4 h5 => exact PySem.repr_of_reads' (.dict h1 h2 h3 h4 h5) sh hsm hg (by omega) (fun _ _ e => e) (fun h' u tk hk => ⟨.str _, H, I.kept hk, ⟨_, rfl⟩, q⟩) sz
theorem ed_repr {K : PySem.W.Frag} {σ : L2.St} {F : Addr → Prop} {H : Hp} {ta : TE} {d : PyData} (ha : ED K ta σ F H d) (h1 : d.showable = true) (h2 : d.depth ≤ 50) (h3 : d.shown.length ≤ sizeLine) : ED K (tCB (rRepr K) (tCons ta tNil)) σ F H (.str d.shown) :=
  ed_cb (ea_cons ha ea_nil) fun F vs H1 hv Q q => by
    cases hv with
    | cons a r => cases r; exact ⟨_, d, rfl, .inl (df_dp a), h1, h2, h3, q _ _ (Same.refl _) (.str _)⟩
end Ag

set_option Elab.async false
set_option linter.all false
set_option maxRecDepth 100000
set_option maxHeartbeats 1000000
/-! The order of alike data over the layer. -/
namespace Ag
open PySem PySem.Spec PyProof.Rows L2
open PySem.W (alike alikeAll dataLt)
def rLtD (K : PySem.W.Frag) : R2 := fun x y H Q => ∃ d e, Dp K H x d ∧ Dp K H y e ∧ alike d e = true ∧ d ≠ .none ∧ min d.depth e.depth ≤ 50 ∧ Q (.bl (dataLt d e)) H
def rGtD (K : PySem.W.Frag) : R2 := fun x y H Q => ∃ d e, Dp K H x d ∧ Dp K H y e ∧ alike d e = true ∧ d ≠ .none ∧ min d.depth e.depth ≤ 50 ∧ Q (.bl (dataLt e d)) H
theorem op_ltD {X : Cx} (hu : X.A.units + 64 < cLine) : OpR X (compareOp .Lt) (rLtD X.K) := by
  intro pins s σ H x y v u Q I rx ry h
  obtain ⟨d, e, hd, he, al, nn, dp, q⟩ := h
  obtain ⟨as, r1⟩ := Dp.reads I d x v hd rx
  obtain ⟨bs, r2⟩ := Dp.reads I e y u he ry
  exact PySem.W.lt_data r1 r2 al nn (by omega) ⟨.bl _, H, I, rfl, q⟩
theorem op_gtD {X : Cx} (hu : X.A.units + 64 < cLine) : OpR X (compareOp .Gt) (rGtD X.K) := by
  intro pins s σ H x y v u Q I rx ry h
  obtain ⟨d, e, hd, he, al, nn, dp, q⟩ := h
  obtain ⟨as, r1⟩ := Dp.reads I d x v hd rx
  obtain ⟨bs, r2⟩ := Dp.reads I e y u he ry
  exact PySem.W.gt_data r1 r2 al nn (by omega) ⟨.bl _, H, I, rfl, q⟩
theorem alike_strs : ∀ (xs ys : List Str), alikeAll (xs.map .str) (ys.map .str) = true
  | [], _ => by simp [alikeAll]
  | _ :: _, [] => by simp [alikeAll]
  | x :: xs, y :: ys => by
    simp only [List.map_cons, alikeAll, Bool.and_eq_true]
    exact ⟨by simp [alike], alike_strs xs ys⟩
section
variable {K : PySem.W.Frag} {σ : L2.St} {F : Addr → Prop} {H : Hp} {ta tb : TE} {d e : PyData}
theorem ed_ltD (ha : ED K ta σ F H d) (hb : ED K tb σ F H e) (h1 : alike d e = true) (h2 : d ≠ .none) (h3 : min d.depth e.depth ≤ 50) : ED K (tOp (rLtD K) ta tb) σ F H (.bool (dataLt d e)) :=
  ed_op ha hb fun F x y H1 hx hy Q q => ⟨d, e, df_dp hx, df_dp hy, h1, h2, h3, q _ _ (Same.refl _) (.bl _)⟩
theorem ed_gtD (ha : ED K ta σ F H d) (hb : ED K tb σ F H e) (h1 : alike d e = true) (h2 : d ≠ .none) (h3 : min d.depth e.depth ≤ 50) : ED K (tOp (rGtD K) ta tb) σ F H (.bool (dataLt e d)) :=
  ed_op ha hb fun F x y H1 hx hy Q q => ⟨d, e, df_dp hx, df_dp hy, h1, h2, h3, q _ _ (Same.refl _) (.bl _)⟩
end
theorem strs_depth : ∀ (xs : List Str), PyData.depthAll (xs.map .str) ≤ 1
  | [] => by simp [PyData.depthAll]
  | x :: xs => by
    have := strs_depth xs
    simp only [List.map_cons, PyData.depthAll, PyData.depth]
    omega
end Ag

set_option Elab.async false
set_option linter.all false
set_option maxRecDepth 100000
set_option maxHeartbeats 1000000
/-! Either of two promises; the empty dict asked for its kind. -/
namespace Ag
open PySem PySem.Spec PyProof.Rows L2
/-- a promise that holds where one of two does -/
def spOr (sp sp' : Sp) : Sp := fun vs H Q E => sp vs H Q E ∨ sp' vs H Q E
theorem fn_or {P : Program} {w : World} {K : PySem.W.Frag} {mg : Str → Option Value} {base : Heap} {CX : CXT} {k : Nat} {f : Addr} {fd : FuncData} {ps : List Str} {sp sp' : Sp} (F : FnOk P w K mg base CX k f fd ps sp) (G : FnOk P w K mg base CX k f fd ps sp') :
    FnOk P w K mg base CX k f fd ps (spOr sp sp') :=
  ⟨fun vs H Q E q => q.elim (F.len vs H Q E) (G.len vs H Q E), fun A outer s H args us vs Q E hr he hb hv hs => hs.elim (fun z => F.run A outer s H args us vs Q E hr he hb hv z) (fun z => G.run A outer s H args us vs Q E hr he hb hv z)⟩
section
variable {K : PySem.W.Frag} {σ : L2.St} {F : Addr → Prop} {H : Hp}
theorem kit_dict {T : String} (hT : T = "str" ∨ T = "tuple" ∨ T = "list" ∨ T = "int" ∨ T = "bool") : PySem.W.kitOne K (.type "dict") (.type T) = some false := by
  rcases hT with rfl | rfl | rfl | rfl | rfl
  · exact kit_ty (show kitB "dict" "str" = some false by decide +kernel)
  · exact kit_ty (show kitB "dict" "tuple" = some false by decide +kernel)
  · exact kit_ty (show kitB "dict" "list" = some false by decide +kernel)
  · exact kit_ty (show kitB "dict" "int" = some false by decide +kernel)
  · exact kit_ty (show kitB "dict" "bool" = some false by decide +kernel)
theorem ed_isiE {i : Nat} {a : Addr} {T : String} (h : σ[i]? = some (some (.ref a))) (ha : H a = some (.dK [])) (hT : T = "str" ∨ T = "tuple" ∨ T = "list" ∨ T = "int" ∨ T = "bool") :
    ED K (tCB (rIsi K) (tCons (tVar i) (tCons (tC (.ty T)) tNil))) σ F H (.bool false) := fun H1 s Q q =>
  ⟨_, h, .ref a, .ty T, _, _, _, rfl, .ty T, .base (.dK (s _ _ ha)), kit_dict hT, q _ _ (Same.refl _) (.bl _)⟩
theorem dp_strsF {v : V} {xs : List Str} (h : Dp K H v (.tuple (xs.map .str))) : Df K F H v (.tuple (xs.map .str)) := by
  cases h with
  | tup hs r => have := strs_dps r; subst this; exact .tup hs (dfs_strs xs)
end
end Ag

set_option Elab.async false
set_option linter.all false
set_option maxRecDepth 100000
set_option maxHeartbeats 1000000
/-! Texts of plain signs and how long they may be; lists of texts, made and joined anew. -/
namespace Ag
open PySem PySem.Spec PyProof.Rows L2
/-- plain signs, at most n of them -/
def As (n : Nat) (x : Str) : Prop := (∀ c ∈ x.cps.toList, c < 128) ∧ x.length ≤ n
theorem As.more {m n : Nat} {x : Str} (h : As m x) (l : m ≤ n) : As n x := ⟨h.1, Nat.le_trans h.2 l⟩
theorem as_cat {m n : Nat} {x y : Str} (h : As m x) (k : As n y) : As (m + n) (x ++ y) := by
  refine ⟨fun c hc => ?_, by rw [Str.length_append]; exact Nat.add_le_add h.2 k.2⟩
  have e : (x ++ y).cps.toList = x.cps.toList ++ y.cps.toList := TL.tl_append x y
  rw [e] at hc
  exact (List.mem_append.mp hc).elim (h.1 c) (k.1 c)
theorem as_cut {n : Nat} {x : Str} {lo hi : Option Int} (h : As n x) : As n (cutS x lo hi) := by
  have e : (cutS x lo hi).cps.toList = (x.cps.toList.drop (HT.sIx x.length 0 lo)).take (HT.sIx x.length x.length hi - HT.sIx x.length 0 lo) := by
    unfold cutS; simp
  refine ⟨fun c hc => h.1 c ?_, ?_⟩
  · rw [e] at hc; exact List.mem_of_mem_drop (List.mem_of_mem_take hc)
  · show (cutS x lo hi).cps.size ≤ n
    rw [← Array.length_toList, e, List.length_take, List.length_drop, Array.length_toList]
    have : x.cps.size ≤ n := h.2
    omega
theorem up1_lt : ∀ c, c < 128 → PyProof.Rows.up1 c < 128 := by decide +kernel
theorem as_upper {n : Nat} {x : Str} (h : As n x) : As n (Txt.upper x) := by
  rw [PyProof.Rows.upper_ascii h.1]
  refine ⟨fun c hc => ?_, ?_⟩
  · have hc : c ∈ (x.cps.map PyProof.Rows.up1).toList := hc
    rw [Array.toList_map] at hc
    obtain ⟨b, hb, rfl⟩ := List.mem_map.mp hc
    exact up1_lt b (h.1 b hb)
  · show (x.cps.map PyProof.Rows.up1).size ≤ n
    rw [Array.size_map]; exact h.2
/-- a checked text -/
def asB (n : Nat) (x : Str) : Bool := x.cps.toList.all (fun c => decide (c < 128)) && decide (x.length ≤ n)
theorem as_of {n : Nat} {x : Str} (h : asB n x = true) : As n x := by
  unfold asB at h
  obtain ⟨h1, h2⟩ := Bool.and_eq_true_iff.mp h
  exact ⟨fun c hc => of_decide_eq_true (List.all_eq_true.mp h1 c hc), of_decide_eq_true h2⟩
theorem as_join {s : Str} {n m : Nat} (hs : As m s) : ∀ {xs : List Str}, (∀ x ∈ xs, As n x) → As (xs.length * (n + m)) (Str.join s xs)
  | [], _ => ⟨fun c hc => absurd hc (List.not_mem_nil), (Nat.zero_le _)⟩
  | [x], h => ((h x List.mem_cons_self).more (by simp))
  | x :: y :: r, h => by
    have i := as_join hs (xs := y :: r) fun z hz => h z (List.mem_cons_of_mem _ hz)
    have e : Str.join s (x :: y :: r) = x ++ s ++ Str.join s (y :: r) := rfl
    rw [e]
    refine (as_cat (as_cat (h x List.mem_cons_self) hs) i).more ?_
    simp only [List.length_cons, Nat.add_mul, Nat.one_mul]; omega
section
variable {K : PySem.W.Frag} {σ : L2.St} {F : Addr → Prop} {H : Hp} {te ta tb : TE} {d e : PyData}
theorem ed_slS {x : Str} {tl th : TO} {lo hi : Option Int} (h : ED K te σ F H (.str x)) (hx : x.length ≤ 100000) (hl : EO tl σ H lo) (hh : EO th σ H hi) : ED K (tSl rSlS te tl th) σ F H (.str (cutS x lo hi)) := fun H1 s Q q =>
  h H1 s _ fun v H2 s2 hv => by
    cases hv
    refine hl H2 (s.trans s2) _ fun H3 s3 => hh H3 ((s.trans s2).trans s3) _ fun H4 s4 => ?_
    exact ⟨x, rfl, small5 hx, q _ _ ((s2.trans s3).trans s4) (.str _)⟩
theorem ed_upper {x : Str} (h : ED K te σ F H (.str x)) (hx : x.length ≤ 100000) : ED K (tM0 (fun x xs H Q => ∃ a, x = .str a ∧ xs = [] ∧ a.length ≤ 5592405 ∧ Q (.str (Txt.upper a)) H) te) σ F H (.str (Txt.upper x)) := fun H1 s Q q =>
  h H1 s _ fun v H2 s2 hv => by
    cases hv
    exact ⟨⟨x, rfl⟩, x, rfl, rfl, by omega, q _ _ s2 (.str _)⟩
/-- gives a list of these texts -/
def EL (te : TE) (σ : L2.St) (H : Hp) (xs : List Str) : Prop := ∀ H1, Same H H1 → ∀ Q : VK, (∀ p H2, Same H1 H2 → H2 p = some (.lst (xs.map V.str)) → Q (.ref p) H2) → te σ H1 Q
theorem EL.mono {H' : Hp} {xs : List Str} (s : Same H H') (h : EL te σ H xs) : EL te σ H' xs := fun H1 a Q q => h H1 (s.trans a) Q q
theorem el_var {i : Nat} {p : Addr} {xs : List Str} (h : σ[i]? = some (some (.ref p))) (hp : H p = some (.lst (xs.map V.str))) : EL (tVar i) σ H xs := fun H1 s Q q => ⟨_, h, q p H1 (Same.refl _) (s _ _ hp)⟩
theorem el_cat {xs ys : List Str} (ha : EL ta σ H xs) (hb : EL tb σ H ys) (hl : xs.length + ys.length ≤ 100000) : EL (tOp rCat ta tb) σ H (xs ++ ys) := fun H1 s Q q =>
  ha H1 s _ fun p H2 s2 hp => hb H2 (s.trans s2) _ fun b H3 s3 hb3 =>
    ⟨p, b, _, _, rfl, rfl, s3 _ _ hp, hb3, by rw [List.length_map, List.length_map]; exact small5 hl, fun l hn => q l _ ((s2.trans s3).trans (Same.newA hn)) (by rw [upd_same, List.map_append])⟩
theorem el_lst {t : TA} {xs : List Str} (h : EA K t σ F H (xs.map .str)) (hl : xs.length ≤ 100000) : EL (tLst t) σ H xs := fun H1 s Q q =>
  h H1 s _ fun vs H2 s2 hv => by
    have e := strs_dps (dfs_dps hv)
    subst e
    exact ⟨by rw [List.length_map]; exact small5 hl, fun p hp => q p _ (s2.trans (Same.newA hp)) upd_same⟩
def cutW (xs : List Str) (lo hi : Option Int) : List Str := (xs.drop (HT.sIx xs.length 0 lo)).take (HT.sIx xs.length xs.length hi - HT.sIx xs.length 0 lo)
theorem cutW_map (xs : List Str) (lo hi : Option Int) : cutV (xs.map V.str) lo hi = (cutW xs lo hi).map V.str := by
  unfold cutV cutW; rw [List.length_map, List.map_take, List.map_drop]
theorem cutW_mem {xs : List Str} {lo hi : Option Int} {x : Str} (h : x ∈ cutW xs lo hi) : x ∈ xs := List.mem_of_mem_drop (List.mem_of_mem_take h)
theorem cutW_len {xs : List Str} {lo hi : Option Int} : (cutW xs lo hi).length ≤ xs.length := by
  unfold cutW; rw [List.length_take, List.length_drop]; omega
theorem el_slice {xs : List Str} {tl th : TO} {lo hi : Option Int} (h : EL te σ H xs) (hl : EO tl σ H lo) (hh : EO th σ H hi) : EL (tSl (rSlL K) te tl th) σ H (cutW xs lo hi) := fun H1 s Q q =>
  h H1 s _ fun p H2 s2 hp => hl H2 (s.trans s2) _ fun H3 s3 => hh H3 ((s.trans s2).trans s3) _ fun H4 s4 =>
    ⟨p, _, rfl, .inl (.inl (s4 _ _ (s3 _ _ hp))), fun l hn => q l _ (((s2.trans s3).trans s4).trans (Same.newA hn)) (by rw [upd_same, cutW_map])⟩
theorem el_rep2 {xs : List Str} {tb : TE} (ha : EL ta σ H xs) (hb : ED K tb σ F H (.int 2)) (hl : xs.length ≤ 50000) : EL (tOp rRep ta tb) σ H (xs ++ xs) := fun H1 s Q q =>
  ha H1 s _ fun p H2 s2 hp => hb H2 (s.trans s2) _ fun b H3 s3 hb3 => by
    cases hb3
    refine ⟨p, 2, _, rfl, rfl, s3 _ _ hp, by decide, by decide, ?_, fun l hn => q l _ ((s2.trans s3).trans (Same.newA hn)) ?_⟩
    · rw [List.length_map]; refine small5 ?_
      show xs.length * 2 ≤ _
      omega
    · rw [upd_same]
      show some (HO.lst (List.replicate 2 (xs.map V.str)).flatten) = _
      rw [List.map_append]; simp [List.replicate]
theorem el_if {t : TT} {b : Bool} {xs ys : List Str} (h : ET t σ H b) (h1 : b = true → EL ta σ H xs) (h2 : b = false → EL tb σ H ys) : EL (tIf t ta tb) σ H (if b then xs else ys) := fun H1 s Q q => h H1 s _ fun H2 s2 => by
  cases b with
  | true => exact h1 rfl H2 (s.trans s2) _ fun p H3 s3 hp => q p H3 (s2.trans s3) hp
  | false => exact h2 rfl H2 (s.trans s2) _ fun p H3 s3 hp => q p H3 (s2.trans s3) hp
end
end Ag

set_option Elab.async false
set_option linter.all false
set_option maxRecDepth 100000
set_option maxHeartbeats 1000000
/-! What stays where the pen is drawn and tables of code objects grow. -/
namespace Ag
open PySem PySem.Spec PyProof.Rows L2 LamX
/-- all but the pen and the tables is kept -/
def Kp (p : Addr) (H H' : Hp) : Prop := ∀ a o, a ≠ p → (∀ ps, o ≠ .tbl ps) → H a = some o → H' a = some o
theorem Kp.refl (p : Addr) (H : Hp) : Kp p H H := fun _ _ _ _ h => h
theorem Kp.trans {p : Addr} {H H1 H2 : Hp} (a : Kp p H H1) (b : Kp p H1 H2) : Kp p H H2 := fun x o n t h => b x o n t (a x o n t h)
theorem Kp.but {p : Addr} {H H1 : Hp} (b : But p H H1) : Kp p H H1 := fun x o n _ h => b x o n h
theorem Kp.of {p : Addr} {H H1 : Hp} (b : Same H H1) : Kp p H H1 := fun x o _ _ h => b x o h
theorem Kp.ext {p : Addr} {H H1 : Hp} (b : ExtN H H1) : Kp p H H1 := fun x o _ t h => b x o h t
section
variable {K : PySem.W.Frag} {p c : Addr} {n : Nat} {H H' : Hp}
theorem Pen.rdK {a : Addr} {u : HO} (h : Pen p c n H) (b : Kp p H H') (r : Rd H a u) (no : ∀ kvs, u ≠ .dK kvs) (nt : ∀ ps, u ≠ .tbl ps) : Rd H' a u := by
  rcases r with r | ⟨o, r⟩
  · exact .inl (b _ _ (h.ne r no) nt r)
  · exact .inr ⟨o, b _ _ (h.ne r (fun _ z => nomatch z)) (fun _ z => nomatch z) r⟩
theorem Pen.slK {a : Addr} {xs : List V} (h : Pen p c n H) (b : Kp p H H') (r : SqL K H a xs) : SqL K H' a xs := r.imp (fun z => h.rdK b z (fun _ z => nomatch z) (fun _ z => nomatch z)) id
theorem Pen.stK {a : Addr} {xs : List V} (h : Pen p c n H) (b : Kp p H H') (r : SqT K H a xs) : SqT K H' a xs := r.imp (fun z => h.rdK b z (fun _ z => nomatch z) (fun _ z => nomatch z)) id
mutual
theorem Pen.dpK (h : Pen p c n H) (b : Kp p H H') : ∀ {v : V} {d : PyData}, Dp K H v d → Dp K H' v d
  | _, _, .non => .non
  | _, _, .bl b => .bl b
  | _, _, .int i => .int i
  | _, _, .str x => .str x
  | _, _, .lst q r => .lst (h.slK b q) (Pen.dpsK h b r)
  | _, _, .tup q r => .tup (h.stK b q) (Pen.dpsK h b r)
theorem Pen.dpsK (h : Pen p c n H) (b : Kp p H H') : ∀ {vs : List V} {ds : List PyData}, DpAll K H vs ds → DpAll K H' vs ds
  | _, _, .nil => .nil
  | _, _, .cons q r => .cons (Pen.dpK h b q) (Pen.dpsK h b r)
end
theorem Pen.ext (h : Pen p c n H) (b : ExtN H H') : Pen p c n H' := by
  obtain ⟨cells, a, d, k, f, hp, hc, r⟩ := h
  refine ⟨cells, a, d, k, f, b _ _ hp (fun _ z => nomatch z), ?_, r⟩
  rcases hc with hc | ⟨o, hc⟩
  · exact .inl (b _ _ hc (fun _ z => nomatch z))
  · exact .inr ⟨o, b _ _ hc (fun _ z => nomatch z)⟩
/-- the tables stand where but the pen is changed -/
theorem tabs_but {T : List (Addr × Str)} (h : Pen p c n H) (b : But p H H') (t : Tabs T H) : Tabs T H' := fun q hq => by
  obtain ⟨ps, e, tr, co⟩ := t q hq
  refine ⟨ps, b _ _ (h.ne e (fun _ z => nomatch z)) e, tr, fun pos cv hcv => ?_⟩
  obtain ⟨cc, rfl, hc⟩ := co pos cv hcv
  exact ⟨cc, rfl, b _ _ (h.ne hc (fun _ z => nomatch z)) hc⟩
end
end Ag

set_option Elab.async false
set_option linter.all false
set_option maxRecDepth 100000
set_option maxHeartbeats 1000000
/-! Machines that go round: marks that come again and again, told by a cycle of passes. -/
namespace Ag
section
variable {S α : Type}
def runL (f : S → α → S × Bool) : S → List α → S
  | s, [] => s
  | s, c :: l => runL f (f s c).1 l
def markL (f : S → α → S × Bool) : S → List α → Bool
  | _, [] => false
  | s, c :: l => (f s c).2 || markL f (f s c).1 l
def itF (F : S → S) : Nat → S → S
  | 0, s => s
  | n + 1, s => F (itF F n s)
theorem itF_add (F : S → S) (s : S) : ∀ m n : Nat, itF F (m + n) s = itF F m (itF F n s)
  | 0, n => by rw [Nat.zero_add]; rfl
  | m + 1, n => by
    have e : m + 1 + n = (m + n) + 1 := by omega
    rw [e]
    show F (itF F (m + n) s) = F (itF F m (itF F n s))
    rw [itF_add F s m n]
theorem runL_app (f : S → α → S × Bool) : ∀ (s : S) (a b : List α), runL f s (a ++ b) = runL f (runL f s a) b
  | s, [], b => rfl
  | s, c :: a, b => by show runL f (f s c).1 (a ++ b) = _; rw [runL_app f _ a b]; rfl
theorem markL_app (f : S → α → S × Bool) : ∀ (s : S) (a b : List α), markL f s (a ++ b) = (markL f s a || markL f (runL f s a) b)
  | s, [], b => by show markL f s b = _; rw [show markL f s [] = false from rfl, Bool.false_or]; rfl
  | s, c :: a, b => by
    show ((f s c).2 || markL f (f s c).1 (a ++ b)) = (((f s c).2 || markL f (f s c).1 a) || markL f (runL f (f s c).1 a) b)
    rw [markL_app f _ a b, Bool.or_assoc]
/-- again and again -/
def Again (F : S → S) (G : S → Bool) (s : S) : Prop := ∀ N : Nat, ∃ i, N ≤ i ∧ G (itF F i s) = true
theorem round {F : S → S} {s : S} {i j : Nat} (hj : j < i) (e : itF F i s = itF F j s) : ∀ q t : Nat, itF F (j + q * (i - j) + t) s = itF F (j + t) s := by
  have one : ∀ t, itF F (i + t) s = itF F (j + t) s := fun t => by rw [Nat.add_comm i, Nat.add_comm j, itF_add, itF_add, e]
  intro q
  induction q with
  | zero => intro t; rw [Nat.zero_mul, Nat.add_zero]
  | succ q ih =>
    intro t
    have e2 : j + (q + 1) * (i - j) + t = i + (q * (i - j) + t) := by rw [Nat.succ_mul]; omega
    rw [e2, one, ← Nat.add_assoc, ih]
/-- the cycle of passes tells what comes again and again -/
theorem again_iff {F : S → S} {G : S → Bool} {s : S} {i j : Nat} (hj : j < i) (e : itF F i s = itF F j s) : Again F G s ↔ ∃ k, j ≤ k ∧ k < i ∧ G (itF F k s) = true := by
  constructor
  · intro h
    obtain ⟨m, hm, hg⟩ := h j
    have hd : 0 < i - j := by omega
    refine ⟨j + (m - j) % (i - j), by omega, ?_, ?_⟩
    · have := Nat.mod_lt (m - j) hd; omega
    · have r := round hj e ((m - j) / (i - j)) ((m - j) % (i - j))
      have e3 : j + (m - j) / (i - j) * (i - j) + (m - j) % (i - j) = m := by
        have := Nat.div_add_mod (m - j) (i - j)
        rw [Nat.mul_comm] at this; omega
      rw [e3] at r
      rw [← r]; exact hg
  · rintro ⟨k, h1, h2, hg⟩ N
    refine ⟨j + N * (i - j) + (k - j), ?_, ?_⟩
    · have : N ≤ N * (i - j) := Nat.le_mul_of_pos_right N (by omega)
      omega
    · rw [round hj e N (k - j)]
      have : j + (k - j) = k := by omega
      rw [this]; exact hg
/-- the rows that are come to: the head and i rings -/
def rowI (H R : List α) (i : Nat) : List α := H ++ (List.replicate i R).flatten
theorem rowI_succ (H R : List α) (i : Nat) : rowI H R (i + 1) = rowI H R i ++ R := by
  unfold rowI
  rw [List.replicate_succ', List.flatten_append, List.append_assoc]
  simp
theorem itF_run (f : S → α → S × Bool) (s : S) (H R : List α) : ∀ i, itF (fun s => runL f s R) i (runL f s H) = runL f s (rowI H R i)
  | 0 => by show runL f s H = runL f s (H ++ []); rw [List.append_nil]
  | i + 1 => by
    show runL f (itF (fun s => runL f s R) i (runL f s H)) R = _
    rw [itF_run f s H R i, rowI_succ, runL_app]
end
end Ag

set_option Elab.async false
set_option linter.all false
set_option maxRecDepth 100000
set_option maxHeartbeats 1000000
/-! Machines along an endless row e; those of plain duties, and what tells that they mark again and again. -/
namespace Ag
section
variable {α : Type} [DecidableEq α]
def stE (f : Nat → α → Nat × Bool) (e : Nat → α) : Nat → Nat
  | 0 => 0
  | m + 1 => (f (stE f e m) (e m)).1
def mkE (f : Nat → α → Nat × Bool) (e : Nat → α) (m : Nat) : Bool := (f (stE f e m) (e m)).2
def InfE (f : Nat → α → Nat × Bool) (e : Nat → α) : Prop := ∀ N : Nat, ∃ m, N ≤ m ∧ mkE f e m = true
/-- from h on the row comes again after r calls -/
def Per (e : Nat → α) (h r : Nat) : Prop := 1 ≤ r ∧ ∀ m, h ≤ m → e (m + r) = e m
theorem Per.many {e : Nat → α} {h r : Nat} (p : Per e h r) : ∀ (k m : Nat), h ≤ m → e (m + k * r) = e m
  | 0, m, _ => by rw [Nat.zero_mul, Nat.add_zero]
  | k + 1, m, hm => by
    have e1 : m + (k + 1) * r = m + k * r + r := by rw [Nat.succ_mul]; omega
    rw [e1, p.2 _ (by omega), p.many k m hm]
theorem Per.far {e : Nat → α} {h r : Nat} (p : Per e h r) {x : α} {m : Nat} (hm : h ≤ m) (hx : e m = x) (N : Nat) : ∃ m', N ≤ m' ∧ h ≤ m' ∧ e m' = x :=
  ⟨m + N * r, by have : N ≤ N * r := Nat.le_mul_of_pos_right N p.1; omega, by omega, by rw [p.many N m hm]; exact hx⟩
/-! ### a single call -/
def fCall (w : α) : Nat → α → Nat × Bool := fun _ c => (0, decide (c = w))
theorem inf_call {e : Nat → α} {h r : Nat} (p : Per e h r) (w : α) : InfE (fCall w) e ↔ ∃ m, h ≤ m ∧ e m = w := by
  constructor
  · intro H
    obtain ⟨m, hm, hk⟩ := H h
    exact ⟨m, hm, of_decide_eq_true hk⟩
  · rintro ⟨m, hm, hx⟩ N
    obtain ⟨m', h1, h2, h3⟩ := p.far hm hx N
    exact ⟨m', h1, decide_eq_true h3⟩
/-! ### steps in turn -/
def fSteps (w : List α) : Nat → α → Nat × Bool := fun s c => if w[s]? = some c then ((s + 1) % w.length, decide (s + 1 = w.length)) else (s, false)
theorem steps_lt {w : List α} (hw : 1 ≤ w.length) (e : Nat → α) : ∀ m, stE (fSteps w) e m < w.length
  | 0 => hw
  | m + 1 => by
    show (fSteps w (stE (fSteps w) e m) (e m)).1 < _
    have := steps_lt hw e m
    unfold fSteps
    split
    · exact Nat.mod_lt _ hw
    · exact this
theorem inf_steps {e : Nat → α} {h r : Nat} (p : Per e h r) {w : List α} (hw : 1 ≤ w.length) : InfE (fSteps w) e ↔ ∀ x ∈ w, ∃ m, h ≤ m ∧ e m = x := by
  have lt := steps_lt hw e
  constructor
  · intro H x hx
    apply Classical.byContradiction
    intro no
    have no : ∀ m, h ≤ m → e m ≠ x := fun m hm hx => no ⟨m, hm, hx⟩
    obtain ⟨k, hk, rfl⟩ := List.getElem_of_mem hx
    have stay : ∀ m, h ≤ m → stE (fSteps w) e m ≤ k → stE (fSteps w) e (m + 1) ≤ k ∧ mkE (fSteps w) e m = false := by
      intro m hm hs
      show (fSteps w (stE (fSteps w) e m) (e m)).1 ≤ k ∧ (fSteps w (stE (fSteps w) e m) (e m)).2 = false
      generalize stE (fSteps w) e m = s at hs
      unfold fSteps
      split
      · rename_i hc
        have hne : s ≠ k := fun q => by
          subst q
          rw [List.getElem?_eq_getElem hk] at hc
          exact no m hm (Option.some.inj hc).symm
        have : s + 1 < w.length := by omega
        refine ⟨?_, decide_eq_false (by omega)⟩
        rw [Nat.mod_eq_of_lt this]; omega
      · exact ⟨hs, rfl⟩
    have ever : ∀ d m, h ≤ m → stE (fSteps w) e m ≤ k → stE (fSteps w) e (m + d) ≤ k := by
      intro d
      induction d with
      | zero => intro m _ hs; exact hs
      | succ d ih => intro m hm hs; exact (stay (m + d) (by omega) (ih m hm hs)).1
    obtain ⟨m, hm, hk1⟩ := H h
    have z : stE (fSteps w) e (m + 1) ≤ k := by
      show (fSteps w (stE (fSteps w) e m) (e m)).1 ≤ k
      have hk1 : (fSteps w (stE (fSteps w) e m) (e m)).2 = true := hk1
      revert hk1
      generalize stE (fSteps w) e m = s
      unfold fSteps
      split
      · intro hd
        have hd : s + 1 = w.length := of_decide_eq_true hd
        show (s + 1) % w.length ≤ k
        rw [hd, Nat.mod_self]; exact Nat.zero_le _
      · intro hd; cases hd
    obtain ⟨m2, hm2, hk2⟩ := H (m + 1)
    have z2 := ever (m2 - (m + 1)) (m + 1) (by omega) z
    have e2 : m + 1 + (m2 - (m + 1)) = m2 := by omega
    rw [e2] at z2
    rw [(stay m2 (by omega) z2).2] at hk2
    cases hk2
  · intro H N
    apply Classical.byContradiction
    intro no
    have no : ∀ m, N ≤ m → mkE (fSteps w) e m = false := fun m hm => by
      cases q : mkE (fSteps w) e m with
      | false => rfl
      | true => exact absurd ⟨m, hm, q⟩ no
    have up1 : ∀ m, N ≤ m → stE (fSteps w) e m ≤ stE (fSteps w) e (m + 1) ∧ (w[stE (fSteps w) e m]? = some (e m) → stE (fSteps w) e (m + 1) = stE (fSteps w) e m + 1) := by
      intro m hm
      have hk : (fSteps w (stE (fSteps w) e m) (e m)).2 = false := no m hm
      have hl := lt m
      show stE (fSteps w) e m ≤ (fSteps w (stE (fSteps w) e m) (e m)).1 ∧ (w[stE (fSteps w) e m]? = some (e m) → (fSteps w (stE (fSteps w) e m) (e m)).1 = stE (fSteps w) e m + 1)
      revert hk
      generalize stE (fSteps w) e m = s at hl
      unfold fSteps
      split
      · intro hd
        have hd : s + 1 ≠ w.length := of_decide_eq_false hd
        have hm : (s + 1) % w.length = s + 1 := Nat.mod_eq_of_lt (by omega)
        exact ⟨by show s ≤ (s + 1) % w.length; omega, fun _ => hm⟩
      · rename_i hc
        exact fun _ => ⟨Nat.le_refl _, fun q => absurd q hc⟩
    have up : ∀ d m, N ≤ m → stE (fSteps w) e m ≤ stE (fSteps w) e (m + d) := by
      intro d
      induction d with
      | zero => intro m _; exact Nat.le_refl _
      | succ d ih => intro m hm; exact Nat.le_trans (ih m hm) (up1 (m + d) (by omega)).1
    have grow : ∀ j, ∃ m, N ≤ m ∧ j ≤ stE (fSteps w) e m := by
      intro j
      induction j with
      | zero => exact ⟨N, Nat.le_refl _, Nat.zero_le _⟩
      | succ j ih =>
        obtain ⟨m, hm, hj⟩ := ih
        have hl := lt m
        obtain ⟨m0, h0, h1⟩ := H (w[stE (fSteps w) e m]'hl) (List.getElem_mem hl)
        obtain ⟨m', h2, _, h3⟩ := p.far h0 h1 m
        have hu := up (m' - m) m hm
        have e2 : m + (m' - m) = m' := by omega
        rw [e2] at hu
        by_cases q : stE (fSteps w) e m' = stE (fSteps w) e m
        · have hc : w[stE (fSteps w) e m']? = some (e m') := by rw [q, List.getElem?_eq_getElem hl, h3]
          have := (up1 m' (by omega)).2 hc
          exact ⟨m' + 1, by omega, by omega⟩
        · exact ⟨m', by omega, by omega⟩
    obtain ⟨m, _, hm⟩ := grow w.length
    have := lt m; omega
/-! ### an answer -/
def fAns (a b : α) : Nat → α → Nat × Bool := fun s c => if (if s = 0 then decide (c = a) else !decide (c = b)) then (1, false) else (0, true)
theorem fA0a {a b : α} : fAns a b 0 a = (1, false) := by simp [fAns]
theorem fA0n {a b c : α} (h : c ≠ a) : fAns a b 0 c = (0, true) := by simp [fAns, h]
theorem fA1b {a b : α} : fAns a b 1 b = (0, true) := by simp [fAns]
theorem fA1n {a b c : α} (h : c ≠ b) : fAns a b 1 c = (1, false) := by simp [fAns, h]
theorem fA01 (a b c : α) (s : Nat) : (fAns a b s c).1 = 0 ∨ (fAns a b s c).1 = 1 := by
  generalize hx : (if s = 0 then decide (c = a) else !decide (c = b)) = t
  unfold fAns
  rw [hx]
  cases t
  · exact .inl rfl
  · exact .inr rfl
theorem inf_ans {e : Nat → α} {h r : Nat} (p : Per e h r) {a b : α} (ab : a ≠ b) : InfE (fAns a b) e ↔ (∃ m, h ≤ m ∧ e m = b) ∨ ((∀ m, h ≤ m → e m ≠ a) ∧ stE (fAns a b) e h = 0) := by
  have s01 : ∀ m, stE (fAns a b) e m = 0 ∨ stE (fAns a b) e m = 1 := by
    intro m
    cases m with
    | zero => exact .inl rfl
    | succ m => exact fA01 a b (e m) _
  constructor
  · intro H
    apply Classical.byContradiction
    intro no
    have nb : ∀ m, h ≤ m → e m ≠ b := fun m hm hx => no (.inl ⟨m, hm, hx⟩)
    have stay : ∀ m, h ≤ m → stE (fAns a b) e m = 1 → stE (fAns a b) e (m + 1) = 1 ∧ mkE (fAns a b) e m = false := by
      intro m hm hs
      show (fAns a b (stE (fAns a b) e m) (e m)).1 = 1 ∧ (fAns a b (stE (fAns a b) e m) (e m)).2 = false
      rw [hs, fA1n (nb m hm)]
      exact ⟨rfl, rfl⟩
    have never : ∀ m0, h ≤ m0 → stE (fAns a b) e m0 = 1 → False := by
      intro m0 h0 hs
      have ever : ∀ d, stE (fAns a b) e (m0 + d) = 1 := by
        intro d
        induction d with
        | zero => exact hs
        | succ d ih => exact (stay (m0 + d) (by omega) ih).1
      obtain ⟨m, hm, hk⟩ := H m0
      have := ever (m - m0)
      rw [show m0 + (m - m0) = m by omega] at this
      rw [(stay m (by omega) this).2] at hk; cases hk
    have h0 : stE (fAns a b) e h = 0 := (s01 h).elim id fun q => (never h (Nat.le_refl _) q).elim
    have na : ∀ m, h ≤ m → e m ≠ a := by
      intro m hm hx
      refine never (m + 1) (by omega) ?_
      show (fAns a b (stE (fAns a b) e m) (e m)).1 = 1
      rw [hx]
      rcases s01 m with q | q
      · rw [q, fA0a]
      · rw [q, fA1n ab]
    exact no (.inr ⟨na, h0⟩)
  · rintro (⟨m, hm, hx⟩ | ⟨na, h0⟩) N
    · obtain ⟨m', h1, h2, h3⟩ := p.far hm hx N
      refine ⟨m', h1, ?_⟩
      show (fAns a b (stE (fAns a b) e m') (e m')).2 = true
      rw [h3]
      rcases s01 m' with q | q
      · rw [q, fA0n (Ne.symm ab)]
      · rw [q, fA1b]
    · have st : ∀ d, stE (fAns a b) e (h + d) = 0 := by
        intro d
        induction d with
        | zero => exact h0
        | succ d ih =>
          show (fAns a b (stE (fAns a b) e (h + d)) (e (h + d))).1 = 0
          rw [ih, fA0n (na (h + d) (by omega))]
      refine ⟨h + N, by omega, ?_⟩
      show (fAns a b (stE (fAns a b) e (h + N)) (e (h + N))).2 = true
      rw [st N, fA0n (na (h + N) (by omega))]
/-! ### rows: the longest start with which the calls end -/
def longest (w made : List α) : Nat → Nat
  | 0 => 0
  | k + 1 => if made.drop (made.length - (k + 1)) = w.take (k + 1) then k + 1 else longest w made k
def lng (w made : List α) : Nat := longest w made (min (w.length - 1) made.length)
theorem longest_le (w made : List α) : ∀ m, longest w made m ≤ m
  | 0 => Nat.le_refl _
  | k + 1 => by
    unfold longest
    split
    · exact Nat.le_refl _
    · exact Nat.le_succ_of_le (longest_le w made k)
theorem suf_iff {w made : List α} {k : Nat} (h1 : k ≤ w.length) (h2 : k ≤ made.length) : made.drop (made.length - k) = w.take k ↔ w.take k <:+ made := by
  constructor
  · intro h; rw [← h]; exact List.drop_suffix _ _
  · intro h
    have e := List.suffix_iff_eq_drop.mp h
    rw [List.length_take, Nat.min_eq_left h1] at e
    exact e.symm
theorem longest_suf (w made : List α) : ∀ m, m ≤ w.length → m ≤ made.length → w.take (longest w made m) <:+ made
  | 0, _, _ => by show w.take 0 <:+ made; rw [List.take_zero]; exact List.nil_suffix
  | k + 1, h1, h2 => by
    unfold longest
    split
    · rename_i h; exact (suf_iff h1 h2).mp h
    · exact longest_suf w made k (by omega) (by omega)
theorem longest_max (w made : List α) : ∀ m, m ≤ w.length → m ≤ made.length → ∀ k, k ≤ m → w.take k <:+ made → k ≤ longest w made m
  | 0, _, _, k, hk, _ => by omega
  | j + 1, h1, h2, k, hk, hs => by
    unfold longest
    split
    · exact hk
    · rename_i h
      by_cases q : k = j + 1
      · subst q; exact absurd ((suf_iff h1 h2).mpr hs) h
      · exact longest_max w made j (by omega) (by omega) k (by omega) hs
structure IsLp (w T : List α) (s : Nat) : Prop where
  lt : s < w.length
  suf : w.take s <:+ T
  max : ∀ k, k < w.length → w.take k <:+ T → k ≤ s
theorem IsLp.nil {w : List α} (h : 1 ≤ w.length) : IsLp w [] 0 :=
  ⟨h, by rw [List.take_zero]; exact List.nil_suffix, fun k hk hs => by
    have := List.suffix_nil.mp hs
    have := congrArg List.length this
    rw [List.length_take, List.length_nil] at this; omega⟩
theorem take_last {w t : List α} {c : α} {k : Nat} (hk : k < w.length) (h : w.take (k + 1) = t ++ [c]) : t = w.take k := by
  have hl : t.length = k := by
    have := congrArg List.length h
    rw [List.length_take, List.length_append] at this
    simp at this; omega
  have e := congrArg (List.take k) h
  rw [List.take_take, Nat.min_eq_left (by omega), List.take_append_of_le_length (by omega), List.take_of_length_le (l := t) (by omega)] at e
  exact e.symm
theorem suf_app {a T : List α} {c : α} (h : a <:+ T) : a ++ [c] <:+ T ++ [c] := by
  obtain ⟨u, rfl⟩ := h
  exact ⟨u, by rw [List.append_assoc]⟩
theorem IsLp.whole {w T : List α} {s : Nat} (h : IsLp w T s) (c : α) : w <:+ T ++ [c] ↔ w.take s ++ [c] = w := by
  constructor
  · intro hw
    rcases List.suffix_concat_iff.mp hw with q | ⟨t, ht, hs⟩
    · have := h.lt; rw [q] at this; exact absurd this (Nat.not_lt_zero _)
    · have hl : w.length = t.length + 1 := by rw [ht, List.length_append]; rfl
      have et : t = w.take t.length := take_last (c := c) (by omega) (by rw [← hl, List.take_length]; exact ht)
      have m := h.max t.length (by omega) (by rw [← et]; exact hs)
      have := h.lt
      have es : s = t.length := by omega
      rw [es, ← et]; exact ht.symm
  · intro e
    have := suf_app (c := c) h.suf
    rw [e] at this; exact this
theorem IsLp.step {w T : List α} {s : Nat} (h : IsLp w T s) (c : α) : IsLp w (T ++ [c]) (lng w (w.take s ++ [c])) := by
  have hl : (w.take s ++ [c]).length = s + 1 := by rw [List.length_append, List.length_take, Nat.min_eq_left (Nat.le_of_lt h.lt)]; rfl
  have hlt := h.lt
  have hle := longest_le w (w.take s ++ [c]) (min (w.length - 1) (w.take s ++ [c]).length)
  refine ⟨?_, ?_, fun k hk hs => ?_⟩
  · unfold lng; omega
  · exact (longest_suf w _ _ (by omega) (by omega)).trans (suf_app h.suf)
  · cases k with
    | zero => exact Nat.zero_le _
    | succ k =>
      rcases List.suffix_concat_iff.mp hs with q | ⟨t, ht, hts⟩
      · have := congrArg List.length q
        rw [List.length_take, List.length_nil] at this; omega
      · have et := take_last (by omega) ht
        subst et
        have hks := h.max k (by omega) hts
        have hsub : w.take k <:+ w.take s := List.suffix_of_suffix_length_le hts h.suf (by rw [List.length_take, List.length_take]; omega)
        refine longest_max w _ _ (by omega) (by omega) (k + 1) (by rw [hl]; omega) ?_
        rw [ht]; exact suf_app hsub
def fRow (w : List α) : Nat → α → Nat × Bool := fun s c => (lng w (w.take s ++ [c]), decide (w.take s ++ [c] = w))
def fNever (w : List α) : Nat → α → Nat × Bool := fun s c => if s = w.length then (s, false) else if w.take s ++ [c] = w then (s + 1, false) else (lng w (w.take s ++ [c]), true)
def pre (e : Nat → α) (m : Nat) : List α := (List.range m).map e
theorem pre_succ (e : Nat → α) (m : Nat) : pre e (m + 1) = pre e m ++ [e m] := by
  unfold pre; rw [List.range_succ, List.map_append]; rfl
theorem pre_len (e : Nat → α) (m : Nat) : (pre e m).length = m := by unfold pre; rw [List.length_map, List.length_range]
/-- w stands at p -/
def OccAt (w : List α) (e : Nat → α) (p : Nat) : Prop := ∀ q, q < w.length → w[q]? = some (e (p + q))
theorem pre_get {e : Nat → α} {m q : Nat} (h : q < m) : (pre e m)[q]? = some (e q) := by
  unfold pre; rw [List.getElem?_map, List.getElem?_range h]; rfl
theorem slice_iff {w : List α} {e : Nat → α} {m p : Nat} (h : p + w.length ≤ m) : ((pre e m).drop p).take w.length = w ↔ OccAt w e p := by
  constructor
  · intro h1 q hq
    have : w[q]? = (((pre e m).drop p).take w.length)[q]? := by rw [h1]
    rw [this, List.getElem?_take_of_lt hq, List.getElem?_drop, pre_get (by omega)]
  · intro h1
    apply List.ext_getElem?
    intro q
    by_cases hq : q < w.length
    · rw [List.getElem?_take_of_lt hq, List.getElem?_drop, pre_get (by omega), h1 q hq]
    · rw [List.getElem?_eq_none (by rw [List.length_take]; omega), List.getElem?_eq_none (by omega)]
theorem suf_occ {w : List α} {e : Nat → α} {m : Nat} : w <:+ pre e m ↔ w.length ≤ m ∧ OccAt w e (m - w.length) := by
  rw [List.suffix_iff_eq_drop, pre_len]
  constructor
  · intro h
    have hl := congrArg List.length h
    rw [List.length_drop, pre_len] at hl
    have hm : w.length ≤ m := by omega
    refine ⟨hm, (slice_iff (m := m) (by omega)).mp ?_⟩
    rw [← h]; exact List.take_length
  · rintro ⟨hm, ho⟩
    have := (slice_iff (m := m) (by omega)).mpr ho
    rw [List.take_of_length_le (by rw [List.length_drop, pre_len]; omega)] at this
    exact this.symm
theorem Per.occ {e : Nat → α} {h r : Nat} (p : Per e h r) {w : List α} {x : Nat} (hx : h ≤ x) (k : Nat) : OccAt w e x ↔ OccAt w e (x + k * r) := by
  have key : ∀ q, e (x + k * r + q) = e (x + q) := fun q => by
    rw [show x + k * r + q = x + q + k * r by omega, p.many k _ (by omega)]
  constructor
  · intro h1 q hq; rw [key q]; exact h1 q hq
  · intro h1 q hq; rw [← key q]; exact h1 q hq
theorem Per.low {e : Nat → α} {h r : Nat} (p : Per e h r) {w : List α} {x : Nat} (hx : h ≤ x) (ho : OccAt w e x) : ∃ y, h ≤ y ∧ y < h + r ∧ OccAt w e y := by
  have hr := p.1
  refine ⟨h + (x - h) % r, by omega, by have := Nat.mod_lt (x - h) hr; omega, (p.occ (by omega) ((x - h) / r)).mpr ?_⟩
  have : h + (x - h) % r + (x - h) / r * r = x := by
    have := Nat.div_add_mod (x - h) r
    rw [Nat.mul_comm] at this; omega
  rw [this]; exact ho
theorem row_lp {w : List α} (hw : 1 ≤ w.length) (e : Nat → α) : ∀ m, IsLp w (pre e m) (stE (fRow w) e m)
  | 0 => IsLp.nil hw
  | m + 1 => by
    rw [pre_succ]
    exact (row_lp hw e m).step (e m)
theorem row_mk {w : List α} (hw : 1 ≤ w.length) (e : Nat → α) (m : Nat) : mkE (fRow w) e m = true ↔ w.length ≤ m + 1 ∧ OccAt w e (m + 1 - w.length) := by
  rw [← suf_occ, pre_succ, (row_lp hw e m).whole (e m)]
  exact decide_eq_true_iff
theorem inf_row {e : Nat → α} {h r : Nat} (p : Per e h r) {w : List α} (hw : 1 ≤ w.length) : InfE (fRow w) e ↔ ∃ x, h ≤ x ∧ x < h + r ∧ OccAt w e x := by
  constructor
  · intro H
    obtain ⟨m, hm, hk⟩ := H (h + w.length)
    obtain ⟨h1, h2⟩ := (row_mk hw e m).mp hk
    exact p.low (by omega) h2
  · rintro ⟨x, hx, _, ho⟩ N
    have := (p.occ hx N).mp ho
    have hN : N ≤ N * r := Nat.le_mul_of_pos_right N p.1
    refine ⟨x + N * r + w.length - 1, by omega, (row_mk hw e _).mpr ⟨by omega, ?_⟩⟩
    have e1 : x + N * r + w.length - 1 + 1 - w.length = x + N * r := by omega
    rw [e1]; exact this
theorem nev_st {w : List α} (hw : 1 ≤ w.length) (e : Nat → α) : ∀ m, (stE (fNever w) e m = w.length ∧ ∃ x, x + w.length ≤ m ∧ OccAt w e x) ∨ ((∀ x, x + w.length ≤ m → ¬ OccAt w e x) ∧ IsLp w (pre e m) (stE (fNever w) e m))
  | 0 => .inr ⟨fun x hx => by omega, IsLp.nil hw⟩
  | m + 1 => by
    rcases nev_st hw e m with ⟨q, x, hx, ho⟩ | ⟨no, lp⟩
    · refine .inl ⟨?_, x, by omega, ho⟩
      show (fNever w (stE (fNever w) e m) (e m)).1 = _
      rw [q]
      show (if w.length = w.length then (w.length, false) else _).1 = _
      rw [if_pos rfl]
    · have hne : stE (fNever w) e m ≠ w.length := by have := lp.lt; omega
      have wh := lp.whole (e m)
      have st := lp.step (e m)
      rw [← pre_succ] at wh st
      rw [suf_occ] at wh
      by_cases q : w.take (stE (fNever w) e m) ++ [e m] = w
      · refine .inl ⟨?_, m + 1 - w.length, by have := (wh.mpr q).1; omega, (wh.mpr q).2⟩
        have hl := congrArg List.length q
        rw [List.length_append, List.length_take, Nat.min_eq_left (Nat.le_of_lt lp.lt)] at hl
        show (fNever w (stE (fNever w) e m) (e m)).1 = _
        generalize stE (fNever w) e m = s at hne q hl
        unfold fNever
        rw [if_neg hne, if_pos q]; exact hl
      · refine .inr ⟨fun x hx ho => ?_, ?_⟩
        · by_cases z : x + w.length ≤ m
          · exact no x z ho
          · have : x = m + 1 - w.length := by omega
            subst this
            exact q (wh.mp ⟨by omega, ho⟩)
        · have e1 : stE (fNever w) e (m + 1) = lng w (w.take (stE (fNever w) e m) ++ [e m]) := by
            show (fNever w (stE (fNever w) e m) (e m)).1 = _
            generalize stE (fNever w) e m = s at hne q
            unfold fNever
            rw [if_neg hne, if_neg q]
          rw [e1]; exact st
theorem nev_mk {w : List α} (hw : 1 ≤ w.length) (e : Nat → α) (m : Nat) : mkE (fNever w) e m = true ↔ ∀ x, x + w.length ≤ m + 1 → ¬ OccAt w e x := by
  rcases nev_st hw e m with ⟨q, x, hx, ho⟩ | ⟨no, lp⟩
  · constructor
    · intro hk
      have hk : (fNever w (stE (fNever w) e m) (e m)).2 = true := hk
      rw [q] at hk
      have hk : (if w.length = w.length then (w.length, false) else if w.take w.length ++ [e m] = w then (w.length + 1, false) else (lng w (w.take w.length ++ [e m]), true)).2 = true := hk
      rw [if_pos rfl] at hk; cases hk
    · intro H; exact absurd ho (H x (by omega))
  · have hne : stE (fNever w) e m ≠ w.length := by have := lp.lt; omega
    have wh := lp.whole (e m)
    rw [← pre_succ, suf_occ] at wh
    have e1 : mkE (fNever w) e m = !decide (w.take (stE (fNever w) e m) ++ [e m] = w) := by
      show (fNever w (stE (fNever w) e m) (e m)).2 = _
      generalize stE (fNever w) e m = s at hne
      unfold fNever
      rw [if_neg hne]
      by_cases q : w.take s ++ [e m] = w
      · rw [if_pos q, decide_eq_true q]; rfl
      · rw [if_neg q, decide_eq_false q]; rfl
    rw [e1]
    constructor
    · intro hk x hx ho
      by_cases z : x + w.length ≤ m
      · exact no x z ho
      · have : x = m + 1 - w.length := by omega
        subst this
        rw [decide_eq_true (wh.mp ⟨by omega, ho⟩)] at hk; cases hk
    · intro H
      rw [decide_eq_false fun q => H _ (by have := (wh.mpr q).1; omega) (wh.mpr q).2]; rfl
theorem inf_never {e : Nat → α} {h r : Nat} (p : Per e h r) {w : List α} (hw : 1 ≤ w.length) : InfE (fNever w) e ↔ ∀ x, x < h + r → ¬ OccAt w e x := by
  constructor
  · intro H x hx ho
    obtain ⟨m, hm, hk⟩ := H (x + w.length)
    exact (nev_mk hw e m).mp hk x (by omega) ho
  · intro H N
    refine ⟨N, Nat.le_refl _, (nev_mk hw e N).mpr fun x hx ho => ?_⟩
    by_cases q : x < h + r
    · exact H x q ho
    · obtain ⟨y, _, hy, hoy⟩ := p.low (x := x) (by omega) ho
      exact H y hy hoy
end
end Ag

set_option Elab.async false
set_option linter.all false
set_option maxRecDepth 100000
set_option maxHeartbeats 1000000
/-! A head and a ring as an endless row. -/
namespace Ag
section
variable {α : Type} [DecidableEq α]
def eHR (d : α) (H R : List α) (m : Nat) : α := if m < H.length then (H[m]?).getD d else (R[(m - H.length) % R.length]?).getD d
variable {d : α} {H R : List α}
theorem e_per (hR : 1 ≤ R.length) : Per (eHR d H R) H.length R.length := by
  refine ⟨hR, fun m hm => ?_⟩
  unfold eHR
  rw [if_neg (by omega), if_neg (by omega)]
  have : m + R.length - H.length = (m - H.length) + R.length := by omega
  rw [this, Nat.add_mod_right]
theorem e_head : pre (eHR d H R) H.length = H := by
  apply List.ext_getElem?
  intro q
  by_cases hq : q < H.length
  · rw [pre_get hq]
    unfold eHR
    rw [if_pos hq, List.getElem?_eq_getElem hq]; rfl
  · rw [List.getElem?_eq_none (by rw [pre_len]; omega), List.getElem?_eq_none (by omega)]
theorem e_ring (hR : 1 ≤ R.length) (i : Nat) : (List.range R.length).map (fun t => eHR d H R (H.length + i * R.length + t)) = R := by
  apply List.ext_getElem?
  intro q
  by_cases hq : q < R.length
  · rw [List.getElem?_map, List.getElem?_range hq]
    show some (eHR d H R (H.length + i * R.length + q)) = _
    unfold eHR
    rw [if_neg (by omega)]
    have : (H.length + i * R.length + q - H.length) % R.length = q := by
      have e1 : H.length + i * R.length + q - H.length = q + R.length * i := by rw [Nat.mul_comm R.length]; omega
      rw [e1, Nat.add_mul_mod_self_left, Nat.mod_eq_of_lt hq]
    rw [this, List.getElem?_eq_getElem hq]; rfl
  · rw [List.getElem?_eq_none (by rw [List.length_map, List.length_range]; omega), List.getElem?_eq_none (by omega)]
theorem pre_add (e : Nat → α) (m : Nat) : ∀ k, pre e (m + k) = pre e m ++ (List.range k).map (fun t => e (m + t))
  | 0 => by rw [Nat.add_zero]; simp
  | k + 1 => by
    rw [← Nat.add_assoc, pre_succ, pre_add e m k, List.range_succ, List.map_append, List.append_assoc]; rfl
theorem e_rowI (hR : 1 ≤ R.length) : ∀ i, pre (eHR d H R) (H.length + i * R.length) = rowI H R i
  | 0 => by rw [Nat.zero_mul, Nat.add_zero, e_head]; unfold rowI; simp
  | i + 1 => by
    have e1 : H.length + (i + 1) * R.length = H.length + i * R.length + R.length := by rw [Nat.succ_mul]; omega
    rw [e1, pre_add, e_rowI hR i, e_ring hR i, rowI_succ]
theorem run_pre (f : Nat → α → Nat × Bool) (e : Nat → α) : ∀ m, runL f 0 (pre e m) = stE f e m
  | 0 => rfl
  | m + 1 => by
    rw [pre_succ, runL_app, run_pre f e m]; rfl
theorem run_seg (f : Nat → α → Nat × Bool) (e : Nat → α) (m : Nat) : ∀ k, runL f (stE f e m) ((List.range k).map fun t => e (m + t)) = stE f e (m + k) := fun k => by
  rw [← run_pre f e m, ← runL_app, ← pre_add, run_pre]
theorem mark_seg (f : Nat → α → Nat × Bool) (e : Nat → α) (m : Nat) : ∀ k, markL f (stE f e m) ((List.range k).map fun t => e (m + t)) = true ↔ ∃ t, t < k ∧ mkE f e (m + t) = true
  | 0 => ⟨fun h => (nomatch (show false = true from h)), fun ⟨t, h, _⟩ => absurd h (Nat.not_lt_zero t)⟩
  | k + 1 => by
    rw [List.range_succ, List.map_append, markL_app, run_seg, Bool.or_eq_true, mark_seg f e m k]
    constructor
    · rintro (⟨t, h1, h2⟩ | h)
      · exact ⟨t, by omega, h2⟩
      · refine ⟨k, by omega, ?_⟩
        have h : ((f (stE f e (m + k)) (e (m + k))).2 || false) = true := h
        rw [Bool.or_false] at h; exact h
    · rintro ⟨t, h1, h2⟩
      by_cases q : t = k
      · subst q
        refine .inr ?_
        show ((f (stE f e (m + t)) (e (m + t))).2 || false) = true
        rw [Bool.or_false]; exact h2
      · exact .inl ⟨t, by omega, h2⟩
/-- passes that mark again and again: calls that do -/
theorem again_inf (f : Nat → α → Nat × Bool) (hR : 1 ≤ R.length) : Again (fun s => runL f s R) (fun s => markL f s R) (runL f 0 H) ↔ InfE f (eHR d H R) := by
  have st : ∀ i, itF (fun s => runL f s R) i (runL f 0 H) = stE f (eHR d H R) (H.length + i * R.length) := fun i => by
    rw [itF_run, ← e_rowI (d := d) hR i, run_pre]
  have gi : ∀ i, markL f (itF (fun s => runL f s R) i (runL f 0 H)) R = true ↔ ∃ t, t < R.length ∧ mkE f (eHR d H R) (H.length + i * R.length + t) = true := fun i => by
    have hr := e_ring (d := d) (H := H) hR i
    have ms := mark_seg f (eHR d H R) (H.length + i * R.length) R.length
    rw [hr] at ms
    rw [st i]; exact ms
  constructor
  · intro A N
    obtain ⟨i, hi, hg⟩ := A N
    obtain ⟨t, ht, hk⟩ := (gi i).mp hg
    have : i ≤ i * R.length := Nat.le_mul_of_pos_right i hR
    exact ⟨_, by omega, hk⟩
  · intro A N
    obtain ⟨m, hm, hk⟩ := A (H.length + N * R.length)
    have dm := Nat.div_add_mod (m - H.length) R.length
    have lt := Nat.mod_lt (m - H.length) hR
    refine ⟨(m - H.length) / R.length, ?_, (gi _).mpr ⟨(m - H.length) % R.length, lt, ?_⟩⟩
    · exact (Nat.le_div_iff_mul_le hR).mpr (by omega)
    · have : H.length + (m - H.length) / R.length * R.length + (m - H.length) % R.length = m := by rw [Nat.mul_comm] at dm; omega
      rw [this]; exact hk
/-! ### the same endless row, told otherwise -/
theorem e_twice (hR : 1 ≤ R.length) : eHR d H (R ++ R) = eHR d H R := by
  funext m
  unfold eHR
  by_cases h : m < H.length
  · rw [if_pos h, if_pos h]
  · rw [if_neg h, if_neg h, List.length_append]
    congr 1
    generalize m - H.length = k
    have hlt := Nat.mod_lt k (show R.length + R.length > 0 by omega)
    have hm : k % (R.length + R.length) % R.length = k % R.length := by
      have : R.length + R.length = R.length * 2 := by omega
      rw [this]; exact Nat.mod_mul_right_mod k R.length 2
    rw [List.getElem?_append]
    split
    · rename_i q
      rw [← hm, Nat.mod_eq_of_lt q]
    · rename_i q
      rw [← hm]
      congr 1
      have e1 : k % (R.length + R.length) = R.length + (k % (R.length + R.length) - R.length) := by omega
      have e2 : k % (R.length + R.length) - R.length < R.length := by omega
      conv => rhs; rw [e1, Nat.add_mod_left, Nat.mod_eq_of_lt e2]
theorem e_turned (hR : 1 ≤ R.length) {k : Nat} (hk : k < R.length) : eHR d (H ++ R ++ R.take k) (R.drop k ++ R.take k) = eHR d H R := by
  funext m
  have hl : (H ++ R ++ R.take k).length = H.length + R.length + k := by rw [List.length_append, List.length_append, List.length_take]; omega
  have hr : (R.drop k ++ R.take k).length = R.length := by rw [List.length_append, List.length_drop, List.length_take]; omega
  have rot : ∀ j, j < R.length → (R.drop k ++ R.take k)[j]? = R[(k + j) % R.length]? := by
    intro j hj
    rw [List.getElem?_append, List.length_drop]
    split
    · rename_i q
      rw [List.getElem?_drop, Nat.mod_eq_of_lt (by omega)]
    · rename_i q
      have e1 : (k + j) % R.length = j - (R.length - k) := by
        have : k + j = R.length + (j - (R.length - k)) := by omega
        rw [this, Nat.add_mod_left, Nat.mod_eq_of_lt (by omega)]
      rw [e1, List.getElem?_take_of_lt (by omega)]
  unfold eHR
  rw [hl, hr]
  by_cases h : m < H.length
  · rw [if_pos (by omega), if_pos h, List.append_assoc, List.getElem?_append_left h]
  · rw [if_neg h]
    by_cases h2 : m < H.length + R.length + k
    · rw [if_pos h2]
      congr 1
      by_cases h3 : m < H.length + R.length
      · rw [List.getElem?_append_left (by rw [List.length_append]; omega), List.getElem?_append_right (by omega), Nat.mod_eq_of_lt (by omega)]
      · rw [List.getElem?_append_right (by rw [List.length_append]; omega), List.length_append, List.getElem?_take_of_lt (by omega)]
        congr 1
        have : m - H.length = R.length + (m - (H.length + R.length)) := by omega
        rw [this, Nat.add_mod_left, Nat.mod_eq_of_lt (by omega)]
    · rw [if_neg h2, rot _ (Nat.mod_lt _ hR)]
      congr 2
      have e1 : m - H.length = R.length + (k + (m - (H.length + R.length + k))) := by omega
      rw [e1, Nat.add_mod_left, Nat.add_mod k, Nat.mod_mod, ← Nat.add_mod]
/-! ### what is in the ring -/
theorem in_ring (hR : 1 ≤ R.length) {x : α} : (∃ m, H.length ≤ m ∧ eHR d H R m = x) ↔ x ∈ R := by
  constructor
  · rintro ⟨m, hm, hx⟩
    unfold eHR at hx
    rw [if_neg (by omega), List.getElem?_eq_getElem (Nat.mod_lt _ hR)] at hx
    rw [← hx]; exact List.getElem_mem _
  · intro h
    obtain ⟨k, hk, rfl⟩ := List.getElem_of_mem h
    refine ⟨H.length + k, by omega, ?_⟩
    unfold eHR
    rw [if_neg (by omega), Nat.add_sub_cancel_left, Nat.mod_eq_of_lt hk, List.getElem?_eq_getElem hk]; rfl
/-- where a row stands in the head and some rings -/
def hitsL (w H R : List α) : List Nat := (List.range ((rowI H R (w.length + 2)).length - w.length + 1)).filter fun i => decide (((rowI H R (w.length + 2)).drop i).take w.length = w)
theorem rowI_len (H R : List α) : ∀ i, (rowI H R i).length = H.length + i * R.length
  | 0 => by unfold rowI; simp
  | i + 1 => by rw [rowI_succ, List.length_append, rowI_len H R i, Nat.succ_mul]; omega
theorem mem_hits (hR : 1 ≤ R.length) {w : List α} {i : Nat} : i ∈ hitsL w H R ↔ i + w.length ≤ H.length + (w.length + 2) * R.length ∧ OccAt w (eHR d H R) i := by
  have big : w.length ≤ (w.length + 2) * R.length := Nat.le_trans (by omega : w.length ≤ w.length + 2) (Nat.le_mul_of_pos_right _ hR)
  unfold hitsL
  rw [List.mem_filter, List.mem_range, rowI_len, decide_eq_true_iff]
  constructor
  · rintro ⟨h1, h2⟩
    have h3 : i + w.length ≤ H.length + (w.length + 2) * R.length := by omega
    rw [← e_rowI (d := d) hR] at h2
    exact ⟨h3, (slice_iff h3).mp h2⟩
  · rintro ⟨h1, h2⟩
    refine ⟨by omega, ?_⟩
    rw [← e_rowI (d := d) hR]; exact (slice_iff h1).mpr h2
theorem room (hR : 1 ≤ R.length) (n : Nat) : H.length + R.length + n ≤ H.length + (n + 2) * R.length := by
  have : n ≤ n * R.length := Nat.le_mul_of_pos_right n hR
  rw [Nat.add_mul]; omega
theorem look_row (hR : 1 ≤ R.length) {w : List α} (hw : 1 ≤ w.length) : InfE (fRow w) (eHR d H R) ↔ ∃ i ∈ hitsL w H R, H.length ≤ i := by
  have p := e_per (d := d) (H := H) hR
  rw [inf_row p hw]
  constructor
  · rintro ⟨x, h1, h2, h3⟩
    have := room (H := H) hR w.length
    exact ⟨x, (mem_hits hR).mpr ⟨by omega, h3⟩, h1⟩
  · rintro ⟨i, hi, h1⟩
    exact p.low h1 ((mem_hits hR).mp hi).2
theorem look_never (hR : 1 ≤ R.length) {w : List α} (hw : 1 ≤ w.length) : InfE (fNever w) (eHR d H R) ↔ hitsL w H R = [] := by
  have p := e_per (d := d) (H := H) hR
  rw [inf_never p hw]
  constructor
  · intro h
    refine List.eq_nil_iff_forall_not_mem.mpr fun i hi => ?_
    have ho := ((mem_hits (d := d) hR).mp hi).2
    by_cases q : i < H.length + R.length
    · exact h i q ho
    · obtain ⟨y, _, hy, hoy⟩ := p.low (x := i) (by omega) ho
      exact h y hy hoy
  · intro h x hx ho
    have := room (H := H) hR w.length
    have hm : x ∈ hitsL w H R := (mem_hits (d := d) hR).mpr ⟨by omega, ho⟩
    rw [h] at hm; cases hm
theorem ans_head {a b : α} (ab : a ≠ b) : ∀ L : List α, (runL (fAns a b) 0 L = 0 ∨ runL (fAns a b) 0 L = 1) ∧ (runL (fAns a b) 0 L = 1 ↔ (L.filter fun c => decide (c ∈ [a, b])).getLast? = some a) := by
  intro L
  generalize hn : L.length = n
  induction n generalizing L with
  | zero =>
    have : L = [] := List.eq_nil_of_length_eq_zero hn
    subst this
    exact ⟨.inl rfl, ⟨fun h => (nomatch (show (0 : Nat) = 1 from h)), fun h => by cases h⟩⟩
  | succ n ih =>
    obtain ⟨M, c, rfl⟩ : ∃ M c, L = M ++ [c] := by
      rcases List.eq_nil_or_concat L with q | ⟨M, c, q⟩
      · rw [q] at hn; cases hn
      · exact ⟨M, c, by rw [q]; simp⟩
    obtain ⟨i1, i2⟩ := ih M (by rw [List.length_append] at hn; simpa using hn)
    have e1 : runL (fAns a b) 0 (M ++ [c]) = (fAns a b (runL (fAns a b) 0 M) c).1 := by rw [runL_app]; rfl
    rw [e1, List.filter_append]
    refine ⟨fA01 a b c _, ?_⟩
    by_cases hca : c = a
    · subst hca
      have : [c].filter (fun x => decide (x ∈ [c, b])) = [c] := by simp
      rw [this, List.getLast?_concat]
      rcases i1 with q | q
      · rw [q, fA0a]; exact ⟨fun _ => rfl, fun _ => rfl⟩
      · rw [q, fA1n ab]; exact ⟨fun _ => rfl, fun _ => rfl⟩
    · by_cases hcb : c = b
      · subst hcb
        have : [c].filter (fun x => decide (x ∈ [a, c])) = [c] := by simp
        rw [this, List.getLast?_concat]
        have z : (fAns a c (runL (fAns a c) 0 M) c).1 = 0 := by
          rcases i1 with q | q
          · rw [q, fA0n hca]
          · rw [q, fA1b]
        rw [z]
        exact ⟨fun h => (nomatch h), fun h => absurd (Option.some.inj h) hca⟩
      · have : [c].filter (fun x => decide (x ∈ [a, b])) = [] := by simp [hca, hcb]
        rw [this, List.append_nil, ← i2]
        rcases i1 with q | q
        · rw [q, fA0n hca]
        · rw [q, fA1n hcb]
theorem look_ans (hR : 1 ≤ R.length) {a b : α} (ab : a ≠ b) : InfE (fAns a b) (eHR d H R) ↔ b ∈ R ∨ (a ∉ R ∧ (H.filter fun c => decide (c ∈ [a, b])).getLast? ≠ some a) := by
  have p := e_per (d := d) (H := H) hR
  rw [inf_ans p ab, in_ring hR]
  have e1 : stE (fAns a b) (eHR d H R) H.length = runL (fAns a b) 0 H := by rw [← run_pre, e_head]
  obtain ⟨i1, i2⟩ := ans_head ab H
  rw [e1]
  constructor
  · rintro (h | ⟨h1, h2⟩)
    · exact .inl h
    · refine .inr ⟨fun h => ?_, fun h => ?_⟩
      · obtain ⟨m, hm, hx⟩ := (in_ring (d := d) (H := H) hR).mpr h
        exact h1 m hm hx
      · rw [i2.mpr h] at h2; cases h2
  · rintro (h | ⟨h1, h2⟩)
    · exact .inl h
    · refine .inr ⟨fun m hm hx => h1 ((in_ring (d := d) (H := H) hR).mp ⟨m, hm, hx⟩), ?_⟩
      rcases i1 with q | q
      · exact q
      · exact absurd (i2.mp q) h2
theorem look_steps (hR : 1 ≤ R.length) {w : List α} (hw : 1 ≤ w.length) : InfE (fSteps w) (eHR d H R) ↔ ∀ x ∈ w, x ∈ R := by
  rw [inf_steps (e_per hR) hw]
  exact ⟨fun h x hx => (in_ring hR).mp (h x hx), fun h x hx => (in_ring hR).mpr (h x hx)⟩
theorem look_call (hR : 1 ≤ R.length) {w : α} : InfE (fCall w) (eHR d H R) ↔ w ∈ R := by
  rw [inf_call (e_per hR) w]; exact in_ring hR
end
end Ag

set_option Elab.async false
set_option linter.all false
set_option maxRecDepth 100000
set_option maxHeartbeats 1000000
namespace Ag
open PySem PySem.Spec PyProof.Rows L2
/-! ### the text by places -/
def top (i : Nat) : Stmt := PySem.Challenge.pw_againnotes_k04_whole_fulfilled_duties.main.body.getD i (.Pass ⟨0, 0, 0, 0⟩)
abbrev s_BadText___init__ : Stmt := inClass (top 2) 0
abbrev s_BadNumber___init__ : Stmt := inClass (top 3) 0
abbrev s_BadRow___init__ : Stmt := inClass (top 4) 0
abbrev s_NoName___init__ : Stmt := inClass (top 5) 0
abbrev s_Unlike___init__ : Stmt := inClass (top 6) 0
abbrev s_TooMany___init__ : Stmt := inClass (top 7) 0
abbrev s_is_name : Stmt := top 11
abbrev s_is_word : Stmt := top 12
abbrev s_names_in : Stmt := top 15
abbrev s_longest_start : Stmt := top 16
abbrev s_behind_plain : Stmt := top 17
abbrev s_begin : Stmt := top 18
abbrev s_marks_by : Stmt := top 19
abbrev s_fulfils : Stmt := top 20
abbrev s_is_done : Stmt := top 21
abbrev s_law_pen : Stmt := top 23
abbrev s_law_draw : Stmt := top 24
abbrev s_law_pick : Stmt := top 25
abbrev s_law_shuffled : Stmt := top 26
abbrev s_law_name : Stmt := top 27
abbrev s_law_names : Stmt := top 28
abbrev s_law_same : Stmt := top 29
abbrev s_law_calls : Stmt := top 30
abbrev s_law_some_word : Stmt := top 31
abbrev s_law_why : Stmt := top 32
abbrev s_law_some_plain : Stmt := top 33
abbrev s_law_some_duty : Stmt := top 34
abbrev s_law_plain_names : Stmt := top 35
abbrev s_law_plain_ones : Stmt := top 36
abbrev s_law_plain_done : Stmt := top 37
abbrev s_law_done : Stmt := top 38
abbrev s_law : Stmt := top 39
structure DefAt (K : PySem.W.Frag) (mg : Str → Option Value) (x : Str) (st : Stmt) (ps : List Str) (a : Addr) (fd : FuncData) : Prop where
  fn : Fun K x x st a fd
  mg : mg x = some (.ref a)
  bd : Binds K fd ps []
structure MethAt (K : PySem.W.Frag) (x qual : Str) (st : Stmt) (ps : List Str) (a : Addr) (fd : FuncData) : Prop where
  fn : Fun K x qual st a fd
  bd : Binds K fd ps []
structure DefAtD (K : PySem.W.Frag) (mg : Str → Option Value) (x : Str) (st : Stmt) (ps : List Str) (dvs : List V) (a : Addr) (fd : FuncData) : Prop where
  fn : FunD K x x (defArgs st) (defBody st) (defScope st) dvs [] a fd
  mg : mg x = some (.ref a)
  bd : Binds K fd ps []
structure MethAtD (K : PySem.W.Frag) (x qual : Str) (st : Stmt) (ps : List Str) (dvs : List V) (a : Addr) (fd : FuncData) : Prop where
  fn : FunD K x qual (defArgs st) (defBody st) (defScope st) dvs [] a fd
  bd : Binds K fd ps []
theorem bt_all : bootBuiltins ("all" : Str) = some (.builtin "all") := by decide +kernel
theorem bt_min : bootBuiltins ("min" : Str) = some (.builtin "min") := by decide +kernel
theorem bt_any : bootBuiltins ("any" : Str) = some (.builtin "any") := by decide +kernel
theorem bt_range : bootBuiltins ("range" : Str) = some (.type "range") := by decide +kernel
theorem bt_isinstance : bootBuiltins ("isinstance" : Str) = some (.builtin "isinstance") := by decide +kernel
theorem bt_tuple : bootBuiltins ("tuple" : Str) = some (.type "tuple") := by decide +kernel
theorem bt_int : bootBuiltins ("int" : Str) = some (.type "int") := by decide +kernel
theorem bt_len : bootBuiltins ("len" : Str) = some (.builtin "len") := by decide +kernel
theorem bt_list : bootBuiltins ("list" : Str) = some (.type "list") := by decide +kernel
theorem bt_str : bootBuiltins ("str" : Str) = some (.type "str") := by decide +kernel
theorem bt_sorted : bootBuiltins ("sorted" : Str) = some (.builtin "sorted") := by decide +kernel
theorem bt_bool : bootBuiltins ("bool" : Str) = some (.type "bool") := by decide +kernel
theorem bt_repr : bootBuiltins ("repr" : Str) = some (.builtin "repr") := by decide +kernel
theorem bt_zip : bootBuiltins ("zip" : Str) = some (.type "zip") := by decide +kernel
structure Txt (w : World) (K : PySem.W.Frag) (mg : Str → Option Value) where
  C_AgainError : Addr
  g_AgainError : mg "AgainError" = some (.ref C_AgainError)
  ox_AgainError : OexC K C_AgainError
  xf_AgainError : XfC K C_AgainError
  sb_AgainError : PySem.W.subIn K (.ref C_AgainError) (.ref C_AgainError) = some true
  C_BadText : Addr
  g_BadText : mg "BadText" = some (.ref C_BadText)
  a_BadText___init__ : Addr
  d_BadText___init__ : FuncData
  D_BadText___init__ : MethAt K "__init__" "BadText.__init__" s_BadText___init__ ["self", "line", "word"] a_BadText___init__ d_BadText___init__
  na_BadText_line : NoAttr K C_BadText "line"
  na_BadText_word : NoAttr K C_BadText "word"
  ox_BadText : OexC K C_BadText
  xf_BadText : XfC K C_BadText
  sb_BadText : PySem.W.subIn K (.ref C_BadText) (.ref C_BadText) = some true
  ic_BadText : PySem.W.findIn K (.ref C_BadText) "__init__" = some (some (.ref a_BadText___init__))
  ti_BadText : PySem.W.typeIn K (.ref a_BadText___init__) = some (.type "function")
  C_BadNumber : Addr
  g_BadNumber : mg "BadNumber" = some (.ref C_BadNumber)
  a_BadNumber___init__ : Addr
  d_BadNumber___init__ : FuncData
  D_BadNumber___init__ : MethAt K "__init__" "BadNumber.__init__" s_BadNumber___init__ ["self", "what", "number"] a_BadNumber___init__ d_BadNumber___init__
  na_BadNumber_what : NoAttr K C_BadNumber "what"
  na_BadNumber_number : NoAttr K C_BadNumber "number"
  ox_BadNumber : OexC K C_BadNumber
  xf_BadNumber : XfC K C_BadNumber
  sb_BadNumber : PySem.W.subIn K (.ref C_BadNumber) (.ref C_BadNumber) = some true
  ic_BadNumber : PySem.W.findIn K (.ref C_BadNumber) "__init__" = some (some (.ref a_BadNumber___init__))
  ti_BadNumber : PySem.W.typeIn K (.ref a_BadNumber___init__) = some (.type "function")
  C_BadRow : Addr
  g_BadRow : mg "BadRow" = some (.ref C_BadRow)
  a_BadRow___init__ : Addr
  d_BadRow___init__ : FuncData
  D_BadRow___init__ : MethAt K "__init__" "BadRow.__init__" s_BadRow___init__ ["self", "what", "row"] a_BadRow___init__ d_BadRow___init__
  na_BadRow_what : NoAttr K C_BadRow "what"
  na_BadRow_row : NoAttr K C_BadRow "row"
  ox_BadRow : OexC K C_BadRow
  xf_BadRow : XfC K C_BadRow
  sb_BadRow : PySem.W.subIn K (.ref C_BadRow) (.ref C_BadRow) = some true
  ic_BadRow : PySem.W.findIn K (.ref C_BadRow) "__init__" = some (some (.ref a_BadRow___init__))
  ti_BadRow : PySem.W.typeIn K (.ref a_BadRow___init__) = some (.type "function")
  C_NoName : Addr
  g_NoName : mg "NoName" = some (.ref C_NoName)
  a_NoName___init__ : Addr
  d_NoName___init__ : FuncData
  D_NoName___init__ : MethAt K "__init__" "NoName.__init__" s_NoName___init__ ["self", "name"] a_NoName___init__ d_NoName___init__
  na_NoName_name : NoAttr K C_NoName "name"
  ox_NoName : OexC K C_NoName
  xf_NoName : XfC K C_NoName
  sb_NoName : PySem.W.subIn K (.ref C_NoName) (.ref C_NoName) = some true
  ic_NoName : PySem.W.findIn K (.ref C_NoName) "__init__" = some (some (.ref a_NoName___init__))
  ti_NoName : PySem.W.typeIn K (.ref a_NoName___init__) = some (.type "function")
  C_Unlike : Addr
  g_Unlike : mg "Unlike" = some (.ref C_Unlike)
  a_Unlike___init__ : Addr
  d_Unlike___init__ : FuncData
  D_Unlike___init__ : MethAt K "__init__" "Unlike.__init__" s_Unlike___init__ ["self", "what"] a_Unlike___init__ d_Unlike___init__
  na_Unlike_what : NoAttr K C_Unlike "what"
  ox_Unlike : OexC K C_Unlike
  xf_Unlike : XfC K C_Unlike
  sb_Unlike : PySem.W.subIn K (.ref C_Unlike) (.ref C_Unlike) = some true
  ic_Unlike : PySem.W.findIn K (.ref C_Unlike) "__init__" = some (some (.ref a_Unlike___init__))
  ti_Unlike : PySem.W.typeIn K (.ref a_Unlike___init__) = some (.type "function")
  C_TooMany : Addr
  g_TooMany : mg "TooMany" = some (.ref C_TooMany)
  a_TooMany___init__ : Addr
  d_TooMany___init__ : FuncData
  D_TooMany___init__ : MethAt K "__init__" "TooMany.__init__" s_TooMany___init__ ["self", "what", "many", "limit"] a_TooMany___init__ d_TooMany___init__
  na_TooMany_what : NoAttr K C_TooMany "what"
  na_TooMany_many : NoAttr K C_TooMany "many"
  na_TooMany_limit : NoAttr K C_TooMany "limit"
  ox_TooMany : OexC K C_TooMany
  xf_TooMany : XfC K C_TooMany
  sb_TooMany : PySem.W.subIn K (.ref C_TooMany) (.ref C_TooMany) = some true
  ic_TooMany : PySem.W.findIn K (.ref C_TooMany) "__init__" = some (some (.ref a_TooMany___init__))
  ti_TooMany : PySem.W.typeIn K (.ref a_TooMany___init__) = some (.type "function")
  sb_BadRow_BadText : PySem.W.subIn K (.ref C_BadRow) (.ref C_BadText) = some false
  sb_BadRow_BadNumber : PySem.W.subIn K (.ref C_BadRow) (.ref C_BadNumber) = some false
  a_is_name : Addr
  d_is_name : FuncData
  D_is_name : DefAt K mg "is_name" s_is_name ["value"] a_is_name d_is_name
  a_is_word : Addr
  d_is_word : FuncData
  D_is_word : DefAt K mg "is_word" s_is_word ["value"] a_is_word d_is_word
  a_names_in : Addr
  d_names_in : FuncData
  D_names_in : DefAt K mg "names_in" s_names_in ["duty"] a_names_in d_names_in
  a_longest_start : Addr
  d_longest_start : FuncData
  D_longest_start : DefAt K mg "longest_start" s_longest_start ["word", "made"] a_longest_start d_longest_start
  a_behind_plain : Addr
  d_behind_plain : FuncData
  D_behind_plain : DefAt K mg "behind_plain" s_behind_plain ["duty", "state", "call"] a_behind_plain d_behind_plain
  a_begin : Addr
  d_begin : FuncData
  D_begin : DefAt K mg "begin" s_begin ["duty"] a_begin d_begin
  a_marks_by : Addr
  d_marks_by : FuncData
  D_marks_by : DefAt K mg "marks_by" s_marks_by ["duty", "head", "ring"] a_marks_by d_marks_by
  a_fulfils : Addr
  d_fulfils : FuncData
  D_fulfils : DefAt K mg "fulfils" s_fulfils ["duty", "head", "ring"] a_fulfils d_fulfils
  a_is_done : Addr
  d_is_done : FuncData
  D_is_done : DefAt K mg "is_done" s_is_done ["duty", "head", "ring"] a_is_done d_is_done
  a_law_pen : Addr
  d_law_pen : FuncData
  D_law_pen : DefAt K mg "_law_pen" s_law_pen ["script"] a_law_pen d_law_pen
  a_law_draw : Addr
  d_law_draw : FuncData
  D_law_draw : DefAt K mg "_law_draw" s_law_draw ["pen", "many"] a_law_draw d_law_draw
  a_law_pick : Addr
  d_law_pick : FuncData
  D_law_pick : DefAt K mg "_law_pick" s_law_pick ["pen", "some"] a_law_pick d_law_pick
  a_law_shuffled : Addr
  d_law_shuffled : FuncData
  D_law_shuffled : DefAt K mg "_law_shuffled" s_law_shuffled ["pen", "some"] a_law_shuffled d_law_shuffled
  a_law_name : Addr
  d_law_name : FuncData
  D_law_name : DefAt K mg "_law_name" s_law_name ["pen", "index"] a_law_name d_law_name
  a_law_names : Addr
  d_law_names : FuncData
  D_law_names : DefAt K mg "_law_names" s_law_names ["pen", "many"] a_law_names d_law_names
  a_law_same : Addr
  d_law_same : FuncData
  D_law_same : DefAt K mg "_law_same" s_law_same ["told", "due"] a_law_same d_law_same
  a_law_calls : Addr
  d_law_calls : FuncData
  D_law_calls : DefAt K mg "_law_calls" s_law_calls ["pen", "many"] a_law_calls d_law_calls
  a_law_some_word : Addr
  d_law_some_word : FuncData
  D_law_some_word : DefAt K mg "_law_some_word" s_law_some_word ["pen", "calls", "most"] a_law_some_word d_law_some_word
  a_law_why : Addr
  d_law_why : FuncData
  D_law_why : DefAt K mg "_law_why" s_law_why ["call"] a_law_why d_law_why
  a_law_some_plain : Addr
  d_law_some_plain : FuncData
  D_law_some_plain : DefAt K mg "_law_some_plain" s_law_some_plain ["pen", "calls"] a_law_some_plain d_law_some_plain
  a_law_some_duty : Addr
  d_law_some_duty : FuncData
  D_law_some_duty : DefAt K mg "_law_some_duty" s_law_some_duty ["pen", "calls", "many", "deep"] a_law_some_duty d_law_some_duty
  a_law_plain_names : Addr
  d_law_plain_names : FuncData
  D_law_plain_names : DefAt K mg "_law_plain_names" s_law_plain_names ["duty"] a_law_plain_names d_law_plain_names
  a_law_plain_ones : Addr
  d_law_plain_ones : FuncData
  D_law_plain_ones : DefAt K mg "_law_plain_ones" s_law_plain_ones ["duty"] a_law_plain_ones d_law_plain_ones
  a_law_plain_done : Addr
  d_law_plain_done : FuncData
  D_law_plain_done : DefAt K mg "_law_plain_done" s_law_plain_done ["duty", "head", "ring"] a_law_plain_done d_law_plain_done
  a_law_done : Addr
  d_law_done : FuncData
  D_law_done : DefAt K mg "_law_done" s_law_done ["duty", "head", "ring"] a_law_done d_law_done
  a_law : Addr
  d_law : FuncData
  D_law : DefAt K mg "law" s_law ["script"] a_law d_law
  t_FIGURES : Tok
  g_FIGURES : mg "FIGURES" = some (.str "0123456789" t_FIGURES)
  t_LETTERS : Tok
  g_LETTERS : mg "LETTERS" = some (.str "abcdefghijklmnopqrstuvwxyz" t_LETTERS)
  a_JOINTS : Addr
  g_JOINTS : mg "JOINTS" = some (.ref a_JOINTS)
  sq_JOINTS : ∀ H, SqT K H a_JOINTS [.str "all", .str "any"]
  b_all : mg "all" = none
  b_min : mg "min" = none
  b_any : mg "any" = none
  b_range : mg "range" = none
  b_isinstance : mg "isinstance" = none
  b_tuple : mg "tuple" = none
  b_int : mg "int" = none
  b_len : mg "len" = none
  b_list : mg "list" = none
  b_str : mg "str" = none
  b_sorted : mg "sorted" = none
  b_bool : mg "bool" = none
  b_repr : mg "repr" = none
  b_zip : mg "zip" = none
theorem sc_BadText___init__ : FnScope ["self", "line", "word"] ["self", "line", "word"] (defScope s_BadText___init__) := ⟨rfl, rfl, rfl, by decide +kernel, rfl, by decide +kernel, by decide +kernel⟩
theorem sc_BadNumber___init__ : FnScope ["self", "what", "number"] ["self", "what", "number"] (defScope s_BadNumber___init__) := ⟨rfl, rfl, rfl, by decide +kernel, rfl, by decide +kernel, by decide +kernel⟩
theorem sc_BadRow___init__ : FnScope ["self", "what", "row"] ["self", "what", "row"] (defScope s_BadRow___init__) := ⟨rfl, rfl, rfl, by decide +kernel, rfl, by decide +kernel, by decide +kernel⟩
theorem sc_NoName___init__ : FnScope ["self", "name"] ["self", "name"] (defScope s_NoName___init__) := ⟨rfl, rfl, rfl, by decide +kernel, rfl, by decide +kernel, by decide +kernel⟩
theorem sc_Unlike___init__ : FnScope ["self", "what"] ["self", "what"] (defScope s_Unlike___init__) := ⟨rfl, rfl, rfl, by decide +kernel, rfl, by decide +kernel, by decide +kernel⟩
theorem sc_TooMany___init__ : FnScope ["self", "what", "many", "limit"] ["self", "what", "many", "limit"] (defScope s_TooMany___init__) := ⟨rfl, rfl, rfl, by decide +kernel, rfl, by decide +kernel, by decide +kernel⟩
theorem sc_is_name : FnScope ["value", "sign"] ["value"] (defScope s_is_name) := ⟨rfl, rfl, rfl, by decide +kernel, rfl, by decide +kernel, by decide +kernel⟩
theorem sc_is_word : FnScope ["value", "call"] ["value"] (defScope s_is_word) := ⟨rfl, rfl, rfl, by decide +kernel, rfl, by decide +kernel, by decide +kernel⟩
theorem sc_names_in : FnScope ["duty"] ["duty"] (defScope s_names_in) := ⟨rfl, rfl, rfl, by decide +kernel, rfl, by decide +kernel, by decide +kernel⟩
theorem sc_longest_start : FnScope ["word", "made", "many"] ["word", "made"] (defScope s_longest_start) := ⟨rfl, rfl, rfl, by decide +kernel, rfl, by decide +kernel, by decide +kernel⟩
theorem sc_behind_plain : FnScope ["duty", "state", "call", "kind", "word", "due", "made"] ["duty", "state", "call"] (defScope s_behind_plain) := ⟨rfl, rfl, rfl, by decide +kernel, rfl, by decide +kernel, by decide +kernel⟩
theorem sc_begin : FnScope ["duty", "part"] ["duty"] (defScope s_begin) := ⟨rfl, rfl, rfl, by decide +kernel, rfl, by decide +kernel, by decide +kernel⟩
theorem sc_marks_by : FnScope ["duty", "head", "ring", "state", "call", "met", "flags", "flag", "marked"] ["duty", "head", "ring"] (defScope s_marks_by) := ⟨rfl, rfl, rfl, by decide +kernel, rfl, by decide +kernel, by decide +kernel⟩
theorem sc_fulfils : FnScope ["duty", "head", "ring", "told"] ["duty", "head", "ring"] (defScope s_fulfils) := ⟨rfl, rfl, rfl, by decide +kernel, rfl, by decide +kernel, by decide +kernel⟩
theorem sc_is_done : FnScope ["duty", "head", "ring", "truths", "part"] ["duty", "head", "ring"] (defScope s_is_done) := ⟨rfl, rfl, rfl, by decide +kernel, rfl, by decide +kernel, by decide +kernel⟩
theorem sc_law_pen : FnScope ["script", "fold", "cell"] ["script"] (defScope s_law_pen) := ⟨rfl, rfl, rfl, by decide +kernel, rfl, by decide +kernel, by decide +kernel⟩
theorem sc_law_draw : FnScope ["pen", "many", "cell", "digit", "blend"] ["pen", "many"] (defScope s_law_draw) := ⟨rfl, rfl, rfl, by decide +kernel, rfl, by decide +kernel, by decide +kernel⟩
theorem sc_law_pick : FnScope ["pen", "some"] ["pen", "some"] (defScope s_law_pick) := ⟨rfl, rfl, rfl, by decide +kernel, rfl, by decide +kernel, by decide +kernel⟩
theorem sc_law_shuffled : FnScope ["pen", "some", "left", "found", "lap"] ["pen", "some"] (defScope s_law_shuffled) := ⟨rfl, rfl, rfl, by decide +kernel, rfl, by decide +kernel, by decide +kernel⟩
theorem sc_law_name : FnScope ["pen", "index", "word", "spot", "place"] ["pen", "index"] (defScope s_law_name) := ⟨rfl, rfl, rfl, by decide +kernel, rfl, by decide +kernel, by decide +kernel⟩
theorem sc_law_names : FnScope ["pen", "many", "index"] ["pen", "many"] (defScope s_law_names) := ⟨rfl, rfl, rfl, by decide +kernel, rfl, by decide +kernel, by decide +kernel⟩
theorem sc_law_same : FnScope ["told", "due", "one", "two"] ["told", "due"] (defScope s_law_same) := ⟨rfl, rfl, rfl, by decide +kernel, rfl, by decide +kernel, by decide +kernel⟩
theorem sc_law_calls : FnScope ["pen", "many"] ["pen", "many"] (defScope s_law_calls) := ⟨rfl, rfl, rfl, by decide +kernel, rfl, by decide +kernel, by decide +kernel⟩
theorem sc_law_some_word : FnScope ["pen", "calls", "most", "spot"] ["pen", "calls", "most"] (defScope s_law_some_word) := ⟨rfl, rfl, rfl, by decide +kernel, rfl, by decide +kernel, by decide +kernel⟩
theorem sc_law_why : FnScope ["call", "found", "error"] ["call"] (defScope s_law_why) := ⟨rfl, rfl, rfl, by decide +kernel, rfl, by decide +kernel, by decide +kernel⟩
theorem sc_law_some_plain : FnScope ["pen", "calls", "kind", "spot"] ["pen", "calls"] (defScope s_law_some_plain) := ⟨rfl, rfl, rfl, by decide +kernel, rfl, by decide +kernel, by decide +kernel⟩
theorem sc_law_some_duty : FnScope ["pen", "calls", "many", "deep", "first", "parts"] ["pen", "calls", "many", "deep"] (defScope s_law_some_duty) := ⟨rfl, rfl, rfl, by decide +kernel, rfl, by decide +kernel, by decide +kernel⟩
theorem sc_law_plain_names : FnScope ["duty"] ["duty"] (defScope s_law_plain_names) := ⟨rfl, rfl, rfl, by decide +kernel, rfl, by decide +kernel, by decide +kernel⟩
theorem sc_law_plain_ones : FnScope ["duty", "found", "part"] ["duty"] (defScope s_law_plain_ones) := ⟨rfl, rfl, rfl, by decide +kernel, rfl, by decide +kernel, by decide +kernel⟩
theorem sc_law_plain_done : FnScope ["duty", "head", "ring", "kind", "names", "last", "call", "row", "name", "hits", "at"] ["duty", "head", "ring"] (defScope s_law_plain_done) := ⟨rfl, rfl, rfl, by decide +kernel, rfl, by decide +kernel, by decide +kernel⟩
theorem sc_law_done : FnScope ["duty", "head", "ring", "truths", "part"] ["duty", "head", "ring"] (defScope s_law_done) := ⟨rfl, rfl, rfl, by decide +kernel, rfl, by decide +kernel, by decide +kernel⟩
theorem sc_law : FnScope ["script", "pen", "lap", "calls", "duty", "own", "one", "turn", "head", "ring", "spot", "due", "at", "odd"] ["script"] (defScope s_law) := ⟨rfl, rfl, rfl, by decide +kernel, rfl, by decide +kernel, by decide +kernel⟩
end Ag

set_option Elab.async false
set_option linter.all false
set_option maxRecDepth 100000
set_option maxHeartbeats 1000000
namespace Ag
open PySem PySem.Spec PyProof.Rows L2
theorem rd_but {H : Hp} {p : Addr} {o : HO} : But p H (upd H p o) := fun a u n h => by rw [upd_ne n]; exact h
theorem rd_upd {H : Hp} {p c : Addr} {o : HO} {xs : List V} {kvs : List (Key × V)} (hp : H p = some (.dK kvs)) (h : Rd H c (.lst xs)) : Rd (upd H p o) c (.lst xs) := by
  rcases h with h | ⟨u, h⟩
  · exact .inl (by rw [upd_ne (ne_of h hp (fun z => nomatch z))]; exact h)
  · exact .inr ⟨u, by rw [upd_ne (ne_of h hp (fun z => nomatch z))]; exact h⟩
section
variable {P : Program} {w : World} {K : PySem.W.Frag} {mg : Str → Option Value} {base : Heap} (T : Txt w K mg)
theorem ok_draw : FnOk P w K mg base CX0 1 T.a_law_draw T.d_law_draw ["pen", "many"] spDraw := by
  refine T.D_law_draw.fn.ok sc_law_draw (fun vs H Q E h => ?_) (fun cdv A outer s H vs Q E hr h => ?_)
  · obtain ⟨p, c, many, n, rfl, _⟩ := h; rfl
  · obtain ⟨p, c, many, n, rfl, hP, m0, m1, n1, k⟩ := h
    refine ⟨_, (pss_cons (ps_dput (hu_of hr) (pv 0) pe_str (pe_op op_add (pe_dget (hu_of hr) (pv 0) pe_str (fun _ _ => rfl)) pe_int) rfl)
      (C8.pss_cut (ps_if (PW.pt (pw_and (pt_cmpR op_eq (pe_dget (hu_of hr) (pv 0) pe_str (fun _ _ => rfl)) pe_int (nomark _)) (pw_and1 (pt_cmpR op_lt (pe_dget (hu_of hr) (pv 0) pe_str (fun _ _ => rfl)) (pe_callB call_len (by rfl) T.b_len bt_len (pa_cons (pe_dget (hu_of hr) (pv 0) pe_str (fun _ _ => rfl)) pa_nil)) (nomark _))))) (pss_cons (ps_set (i := 2) sc_law_draw.nd rfl (by first | exact Or.inl rfl | exact Or.inr rfl) (pe_ix ix_seq (pe_dget (hu_of hr) (pv 0) pe_str (fun _ _ => rfl)) (pe_dget (hu_of hr) (pv 0) pe_str (fun _ _ => rfl)) (fun _ _ => rfl)))
      (pss_cons (ps_dput (hu_of hr) (pv 0) pe_str (pe_op op_add (pe_dget (hu_of hr) (pv 0) pe_str (fun _ _ => rfl)) pe_int) rfl)
      (pss_one (ps_if (pt_cmpR op_ge (pv 2) (pe_op op_pow pe_int pe_int) (nomark _)) (pss_one (ps_dput (hu_of hr) (pv 0) pe_str (pe_op op_sub (pv 2) (pe_op op_pow pe_int pe_int)) rfl)) (pss_one (ps_dput (hu_of hr) (pv 0) pe_str (pe_op op_mod (pe_callTy call_int1 (by rfl) T.b_int bt_int (pa_cons (pe_op op_add (pe_op op_mul (pe_dget (hu_of hr) (pv 0) pe_str (fun _ _ => rfl)) pe_int) (pv 2)) pa_nil)) pe_int) rfl)))))) pss_nil)
      (pss_cons (ps_if (pt_cmpR op_gt (pe_dget (hu_of hr) (pv 0) pe_str (fun _ _ => rfl)) pe_int (nomark _)) (pss_cons (ps_set (i := 3) sc_law_draw.nd rfl (by first | exact Or.inl rfl | exact Or.inr rfl) (pe_op op_mod (pe_callTy call_int1 (by rfl) T.b_int bt_int (pa_cons (pe_dget (hu_of hr) (pv 0) pe_str (fun _ _ => rfl)) pa_nil)) (pv 1)))
      (pss_cons (ps_dput (hu_of hr) (pv 0) pe_str (pe_op op_fdiv (pe_dget (hu_of hr) (pv 0) pe_str (fun _ _ => rfl)) (pv 1)) rfl)
      (pss_one (ps_ret (pv 3))))) pss_nil)
      (pss_cons (ps_set (i := 4) sc_law_draw.nd rfl (by first | exact Or.inl rfl | exact Or.inr rfl) (pe_op op_add (pe_op op_add (pe_dget (hu_of hr) (pv 0) pe_str (fun _ _ => rfl)) (pe_op op_mul (pe_dget (hu_of hr) (pv 0) pe_str (fun _ _ => rfl)) pe_int)) pe_int))
      (pss_one (ps_ret (pe_op op_mod (pe_op op_fdiv (pe_callTy call_int1 (by rfl) T.b_int bt_int (pa_cons (pe_op op_mod (pe_op op_pow (pv 4) pe_int) pe_int) pa_nil)) pe_int) (pv 1)))))))), ?_⟩
    obtain ⟨cells, a, d, cn, f, hp, hc, a0, d0, c0, cnn, f0, f1⟩ := hP
    -- pen["count"] = pen["count"] + 1
    refine ⟨_, rfl, p, _, rfl, pg_cnt hp, _, _, rfl, rfl, _, rfl, p, _, rfl, pp_cnt hp, ?_⟩
    have b1 : But p H (upd H p (.dK (penKV c a d (cn + 1) f))) := rd_but
    have c1 := rd_upd (o := .dK (penKV c a d (cn + 1) f)) hp hc
    have p1 : (upd H p (.dK (penKV c a d (cn + 1) f))) p = some (.dK (penKV c a d (cn + 1) f)) := upd_same
    generalize upd H p (.dK (penKV c a d (cn + 1) f)) = H1 at b1 c1 p1
    refine ⟨fun σ' H' => ∃ (a' d' f' : Int) (o : Option V), σ' = [some (.ref p), some (.int many), o, none, none] ∧ 0 ≤ a' ∧ 0 ≤ d' ∧ 0 ≤ f' ∧ f' < 2147483648 ∧ H' p = some (.dK (penKV c a' d' (cn + 1) f')) ∧ Rd H' c (.lst (cells.map V.int)) ∧ But p H H', ?_, ?_⟩
    · -- if pen["digits"] == 0 and pen["at"] < len(pen["cells"]):
      refine ⟨_, rfl, p, _, rfl, pg_dig p1, rfl, _, rfl, ?_⟩
      refine ite2 (fun hz => ?_) (fun hz => ?_)
      · refine ⟨_, rfl, p, _, rfl, pg_at p1, _, rfl, p, _, rfl, pg_cells p1, _, _, rfl, .inl ⟨_, .inl c1, rfl⟩, _, _, rfl, rfl, _, rfl, ?_⟩
        refine ite2 (fun hl => ?_) (fun hl => ?_)
        · -- the next cell
          have hl := of_decide_eq_true hl
          obtain ⟨x, hx⟩ : ∃ x, cells[a.toNat]? = some x := ⟨_, List.getElem?_eq_getElem (by rw [List.length_map] at hl; omega)⟩
          have hx' : (cells.map V.int)[a.toNat]? = some (V.int x) := by rw [List.getElem?_map, hx]; rfl
          have ea : ((a.toNat : Nat) : Int) = a := by omega
          refine ⟨_, rfl, p, _, rfl, pg_cells p1, _, rfl, p, _, rfl, pg_at p1, .inl ⟨_, _, _, _, rfl, rfl, .inl c1, by rw [← ea]; exact atI_nat hx', ?_⟩⟩
          refine ⟨_, rfl, p, _, rfl, pg_at p1, _, _, rfl, rfl, _, rfl, p, _, rfl, pp_at p1, ?_⟩
          have b2 : But p H (upd H1 p (.dK (penKV c (a + 1) d (cn + 1) f))) := b1.trans rd_but
          have c2 := rd_upd (o := .dK (penKV c (a + 1) d (cn + 1) f)) p1 c1
          have p2 : (upd H1 p (.dK (penKV c (a + 1) d (cn + 1) f))) p = some (.dK (penKV c (a + 1) d (cn + 1) f)) := upd_same
          generalize upd H1 p (.dK (penKV c (a + 1) d (cn + 1) f)) = H2 at b2 c2 p2
          refine ⟨_, rfl, _, _, rfl, rfl, ⟨by decide, by decide, by decide⟩, _, _, rfl, rfl, _, rfl, ?_⟩
          refine ite2 (fun hg => ?_) (fun hg => ?_)
          · refine ⟨_, rfl, _, _, rfl, rfl, ⟨by decide, by decide, by decide⟩, _, _, rfl, rfl, _, rfl, p, _, rfl, pp_dig p2, ?_⟩
            exact ⟨a + 1, _, f, _, rfl, by omega, by have := of_decide_eq_true hg; omega, f0, f1, upd_same, rd_upd p2 c2, b2.trans rd_but⟩
          · refine ⟨_, rfl, p, _, rfl, pg_fold p2, _, _, rfl, rfl, .inl ⟨by omega, by omega⟩, _, rfl, _, _, rfl, rfl, .inl ⟨_, rfl, _, _, rfl, rfl, (by show (0 : Int) < 2147483269; decide), _, rfl, p, _, rfl, pp_fold p2, ?_⟩⟩
            exact ⟨a + 1, d, _, _, rfl, by omega, d0, Int.emod_nonneg _ (by decide), Int.lt_trans (Int.emod_lt_of_pos _ (by decide)) (by decide), upd_same, rd_upd p2 c2, b2.trans rd_but⟩
        · exact ⟨a, d, f, _, rfl, a0, d0, f0, f1, p1, c1, b1⟩
      · exact ⟨a, d, f, _, rfl, a0, d0, f0, f1, p1, c1, b1⟩
    · rintro σ' H' ⟨a', d', f', o, rfl, a0, d0, f0, f1, p1, c1, b1⟩
      refine ⟨_, rfl, p, _, rfl, pg_dig p1, _, _, rfl, rfl, _, rfl, ?_⟩
      refine ite2 (fun hg => ?_) (fun hg => ?_)
      · -- a digit
        refine ⟨_, rfl, p, _, rfl, pg_dig p1, .inl ⟨_, rfl, _, rfl, _, _, rfl, rfl, m0, ?_⟩⟩
        refine ⟨_, rfl, p, _, rfl, pg_dig p1, _, rfl, _, _, rfl, rfl, ⟨m0, by omega⟩, _, rfl, p, _, rfl, pp_dig p1, ?_⟩
        refine ⟨_, rfl, ?_⟩
        exact k _ _ (Int.emod_nonneg _ (by omega)) (Int.emod_lt_of_pos _ m0) (b1.trans rd_but) ⟨cells, a', _, cn + 1, f', upd_same, rd_upd p1 c1, a0, Int.ediv_nonneg d0 (by omega), by omega, by omega, f0, f1⟩
      · -- the mix
        refine ⟨_, rfl, p, _, rfl, pg_fold p1, _, rfl, p, _, rfl, pg_cnt p1, _, _, rfl, rfl, .inr ⟨by decide, by decide⟩, _, _, rfl, rfl, _, _, rfl, rfl, ?_⟩
        refine ⟨_, rfl, _, _, rfl, rfl, ⟨by decide, by decide, by omega⟩, _, _, rfl, rfl, (by show (0 : Int) < 2305843009213693951; decide), .inl ⟨_, rfl, _, _, rfl, rfl, ⟨by decide, by decide⟩, _, rfl, _, _, rfl, rfl, m0, ?_⟩⟩
        exact k _ _ (Int.emod_nonneg _ (by omega)) (Int.emod_lt_of_pos _ m0) b1 ⟨cells, a', d', cn + 1, f', p1, c1, a0, d0, by omega, by omega, f0, f1⟩
end
end Ag

set_option Elab.async false
set_option linter.all false
set_option maxRecDepth 100000
set_option maxHeartbeats 1000000
set_option exponentiation.threshold 2000
namespace Ag
open PySem PySem.Spec PyProof.Rows L2
theorem atI_int {α : Type} {xs : List α} {i : Int} {v : α} (h0 : 0 ≤ i) (h : xs[i.toNat]? = some v) : atI xs i = some v := by
  obtain ⟨k, rfl⟩ : ∃ k : Nat, i = k := ⟨i.toNat, by omega⟩
  exact atI_nat h

/-! ### names, as texts -/
abbrev S (l : List Nat) : Str := SX.S l
def Digs (i : Nat) : List Nat := (Str.ofString (toString (i : Int))).cps.toList
theorem digs_ok : ∀ i, i < 32 → 1 ≤ (Digs i).length ∧ (Digs i).length ≤ 2 ∧ ∀ c ∈ Digs i, 48 ≤ c ∧ c ≤ 57 := by decide +kernel
theorem digs_inj : ∀ i, i < 32 → ∀ j, j < 32 → Digs i = Digs j → i = j := by decide +kernel
def Nm (i : Nat) (s : Str) : Prop := ∃ a b : List Nat, s = S (a ++ Digs i ++ b) ∧ 1 ≤ a.length ∧ a.length + b.length ≤ 8 ∧ ∀ c ∈ a ++ b, 97 ≤ c ∧ c ≤ 122
theorem nm_filter {i : Nat} {a b : List Nat} (hi : i < 32) (h : ∀ c ∈ a ++ b, 97 ≤ c ∧ c ≤ 122) : (a ++ Digs i ++ b).filter (fun c => decide (c ≤ 57)) = Digs i := by
  have ha : a.filter (fun c => decide (c ≤ 57)) = [] := List.filter_eq_nil_iff.mpr fun c hc => by have := h c (List.mem_append_left _ hc); simp; omega
  have hb : b.filter (fun c => decide (c ≤ 57)) = [] := List.filter_eq_nil_iff.mpr fun c hc => by have := h c (List.mem_append_right _ hc); simp; omega
  have hd : (Digs i).filter (fun c => decide (c ≤ 57)) = Digs i := List.filter_eq_self.mpr fun c hc => by have := (digs_ok i hi).2.2 c hc; simp; omega
  rw [List.filter_append, List.filter_append, ha, hb, hd]; simp
theorem nm_inj {i j : Nat} {s : Str} (hi : i < 32) (hj : j < 32) (h1 : Nm i s) (h2 : Nm j s) : i = j := by
  obtain ⟨a, b, e1, _, _, h⟩ := h1
  obtain ⟨a', b', e2, _, _, h'⟩ := h2
  have e : a ++ Digs i ++ b = a' ++ Digs j ++ b' := SX.S_inj (e1.symm.trans e2)
  have q := congrArg (List.filter (fun c => decide (c ≤ 57))) e
  rw [nm_filter hi h, nm_filter hj h'] at q
  exact digs_inj i hi j hj q
/-- the names of the indices below m, in some order -/
def Nms (m : Nat) (ns : List Str) : Prop := ∃ ms : List Str, ms.length = m ∧ (∀ j s, ms[j]? = some s → Nm j s) ∧ ns.Perm ms
theorem nms_nodup {m : Nat} {ns : List Str} (hm : m ≤ 32) (h : Nms m ns) : ns.Nodup := by
  obtain ⟨ms, hl, hn, hp⟩ := h
  refine hp.nodup_iff.mpr (List.nodup_iff_pairwise_ne.mpr (List.pairwise_iff_getElem.mpr fun i j hi hj hij e => ?_))
  have h1 := hn i _ (List.getElem?_eq_getElem hi)
  have h2 := hn j _ (List.getElem?_eq_getElem hj)
  rw [e] at h1
  have := nm_inj (by omega) (by omega) h1 h2
  omega
theorem nms_mem {m : Nat} {ns : List Str} (h : Nms m ns) {s : Str} (hs : s ∈ ns) : ∃ j, j < m ∧ Nm j s := by
  obtain ⟨ms, hl, hn, hp⟩ := h
  obtain ⟨j, hj, e⟩ := List.getElem_of_mem (hp.mem_iff.mp hs)
  exact ⟨j, by omega, hn j s (by rw [List.getElem?_eq_getElem hj, e])⟩
theorem nms_len {m : Nat} {ns : List Str} (h : Nms m ns) : ns.length = m := by
  obtain ⟨ms, hl, hn, hp⟩ := h; rw [hp.length_eq, hl]
theorem cut_take (l : List Nat) (k : Nat) (h : k ≤ l.length) : cutS (S l) none (some (k : Int)) = S (l.take k) := by
  unfold cutS
  rw [HT.sIx_none, HT.sIx_nat, SX.S_len, Nat.min_eq_left h]
  simp [SX.S]
theorem cut_drop (l : List Nat) (k : Nat) (h : k ≤ l.length) : cutS (S l) (some (k : Int)) none = S (l.drop k) := by
  unfold cutS
  rw [HT.sIx_none, HT.sIx_nat, SX.S_len, Nat.min_eq_left h]
  have e : (l.drop k).take (l.length - k) = l.drop k := List.take_of_length_le (by rw [List.length_drop]; exact Nat.le_refl _)
  simp [SX.S, e]
theorem cut_takeI (l : List Nat) (k : Int) (h0 : 0 ≤ k) (h : k ≤ l.length) : cutS (S l) none (some k) = S (l.take k.toNat) := by
  obtain ⟨j, rfl⟩ : ∃ j : Nat, k = j := ⟨k.toNat, by omega⟩
  exact cut_take l j (by omega)
theorem cut_dropI (l : List Nat) (k : Int) (h0 : 0 ≤ k) (h : k ≤ l.length) : cutS (S l) (some k) none = S (l.drop k.toNat) := by
  obtain ⟨j, rfl⟩ : ∃ j : Nat, k = j := ⟨k.toNat, by omega⟩
  exact cut_drop l j (by omega)
theorem letters_at : ∀ d, d < 26 → ("abcdefghijklmnopqrstuvwxyz" : Str).cps.toList[d]? = some (97 + d) := by decide +kernel
theorem S_one (c : Nat) : (⟨#[c]⟩ : Str) = S [c] := rfl
theorem letters_short : ("abcdefghijklmnopqrstuvwxyz" : Str).length ≤ sizeLine := by decide +kernel

/-! ### promises -/
def spPick (K : PySem.W.Frag) : Sp := fun vs H Q _ => ∃ (p c a : Addr) (xs : List V) (n : Nat), vs = [.ref p, .ref a] ∧ Pen p c n H ∧ (SqL K H a xs ∨ SqT K H a xs) ∧ 0 < xs.length ∧ xs.length < 100000 ∧ n < 1000000000000 ∧
  ∀ (i : Nat) v H', xs[i]? = some v → But p H H' → Pen p c (n + 1) H' → Q v H'
def spShuf (K : PySem.W.Frag) : Sp := fun vs H Q _ => ∃ (p c a : Addr) (xs : List V) (n : Nat), vs = [.ref p, .ref a] ∧ Pen p c n H ∧ (SqL K H a xs ∨ SqT K H a xs) ∧ xs.length < 100000 ∧ n + 100000 < 1000000000000 ∧
  ∀ (l : Addr) (ys : List V) H', ys.Perm xs → H l = none → H' l = some (.lst ys) → But p H H' → Pen p c (n + xs.length) H' → Q (.ref l) H'
def spName : Sp := fun vs H Q _ => ∃ (p c : Addr) (i n : Nat), vs = [.ref p, .int (i : Int)] ∧ Pen p c n H ∧ i < 32 ∧ n + 100000 < 1000000000000 ∧
  ∀ (s : Str) H', Nm i s → But p H H' → Pen p c (n + 10) H' → Q (.str s) H'
def spNames (K : PySem.W.Frag) : Sp := fun vs H Q _ => ∃ (p c : Addr) (m n : Nat), vs = [.ref p, .int (m : Int)] ∧ Pen p c n H ∧ m ≤ 31 ∧ n + 200000 < 1000000000000 ∧
  ∀ (l : Addr) (ns : List Str) H', Nms m ns → H l = none → H' l = some (.lst (ns.map V.str)) → But p H H' → Pen p c (n + 400) H' → Q (.ref l) H'
/-- tuple(sorted(names)) -/
def spCalls (K : PySem.W.Frag) : Sp := fun vs H Q _ => ∃ (p c : Addr) (m n : Nat), vs = [.ref p, .int (m : Int)] ∧ Pen p c n H ∧ m ≤ 31 ∧ n + 200000 < 1000000000000 ∧
  ∀ (l : Addr) (ns : List Str) H', Nms m ns → sortedS ns = true → H' l = some (.tup (ns.map V.str)) → But p H H' → Pen p c (n + 400) H' → Q (.ref l) H'

theorem seq_at {n : Nat} {i : Int} (h0 : 0 ≤ i) (h1 : i < n) : seqIndex? i n = some i.toNat := (ixN_seq (by unfold ixN; rw [if_pos h0, if_pos h1])).1

section
variable {P : Program} {w : World} {K : PySem.W.Frag} {mg : Str → Option Value} {base : Heap} (T : Txt w K mg)
theorem ok_pick : FnOk P w K mg base CX0 2 T.a_law_pick T.d_law_pick ["pen", "some"] (spPick K) := by
  have G_law_draw := ok_draw (P := P) (base := base) T
  refine T.D_law_pick.fn.ok sc_law_pick (fun vs H Q E h => ?_) (fun cdv A outer s H vs Q E hr h => ?_)
  · obtain ⟨p, c, a, xs, n, rfl, _⟩ := h; rfl
  · obtain ⟨p, c, a, xs, n, rfl, hP, hs, x0, x1, n1, k⟩ := h
    refine ⟨_, (pss_one (ps_ret (pe_ix ix_seq (pv 1) (pe_call (G_law_draw) (hr.mono (by omega)) (by rfl) T.D_law_draw.mg T.D_law_draw.fn.kp T.D_law_draw.bd .nil pass0 (pa_cons (pv 0) (pa_cons (pe_callB call_len (by rfl) T.b_len bt_len (pa_cons (pv 1) pa_nil)) pa_nil))) (fun _ _ => rfl)))), ?_⟩
    have hl : LenV K (.ref a) H xs.length := hs.elim (fun z => .inl ⟨_, z, rfl⟩) fun z => .inr ⟨_, z, rfl⟩
    refine ⟨_, rfl, _, rfl, _, rfl, _, _, rfl, hl, p, c, _, n, rfl, hP, by omega, by omega, n1, fun d H1 d0 d1 b1 P1 => ?_⟩
    have hd : d.toNat < xs.length := by omega
    have ed : ((d.toNat : Nat) : Int) = d := by omega
    have hx : xs[d.toNat]? = some xs[d.toNat] := List.getElem?_eq_getElem hd
    rcases hs with hs | hs
    · exact .inl ⟨_, _, _, _, rfl, rfl, hP.sl b1 hs, atI_int d0 hx, k _ _ _ hx b1 P1⟩
    · exact .inr (.inl ⟨_, _, _, _, rfl, rfl, hP.st b1 hs, atI_int d0 hx, k _ _ _ hx b1 P1⟩)

theorem ok_shuf : FnOk P w K mg base CX0 2 T.a_law_shuffled T.d_law_shuffled ["pen", "some"] (spShuf K) := by
  have G_law_draw := ok_draw (P := P) (base := base) T
  refine T.D_law_shuffled.fn.ok sc_law_shuffled (fun vs H Q E h => ?_) (fun cdv A outer s H vs Q E hr h => ?_)
  · obtain ⟨p, c, a, xs, n, rfl, _⟩ := h; rfl
  · obtain ⟨p, c, a, xs, n, rfl, hP, hs, x1, n1, k⟩ := h
    refine ⟨_, (pss_cons (ps_par (i := 2) (j := 3) (by rfl) sc_law_shuffled.nd rfl rfl (by decide) rfl rfl (pa_cons (pe_callTy call_list_of (by rfl) T.b_list bt_list (pa_cons (pv 1) pa_nil)) (pa_cons (pe_lst pa_nil) pa_nil)) (by rfl))
      (pss_cons (ps_for PassesOwn.never rfl (pi_range1 (by rfl) T.b_range (pa_cons (pe_callB call_len (by rfl) T.b_len bt_len (pa_cons (pv 1) pa_nil)) pa_nil)) (pg_name (i := 4) sc_law_shuffled.nd rfl (by first | exact Or.inl rfl | exact Or.inr rfl)) (pss_one (ps_expr (pe_bm PySem.F.plainAttrs_list PySem.F.slot_list_append PySem.F.type_list_append mt_append (pv 3) (pa_cons (pe_bm PySem.F.plainAttrs_list PySem.F.slot_list_pop PySem.F.type_list_pop mt_popAt (pv 2) (pa_cons (pe_call (G_law_draw) (hr.mono (by omega)) (by rfl) T.D_law_draw.mg T.D_law_draw.fn.kp T.D_law_draw.bd .nil pass0 (pa_cons (pv 0) (pa_cons (pe_callB call_len (by rfl) T.b_len bt_len (pa_cons (pv 2) pa_nil)) pa_nil))) pa_nil)) pa_nil)))))
      (pss_one (ps_ret (pv 3))))), ?_⟩
    refine ⟨_, rfl, _, _, rfl, hs, fun l1 hl1 => ⟨Nat.zero_le _, fun l2 hl2 => ⟨_, _, rfl, ?_⟩⟩⟩
    have n12 : l1 ≠ l2 := fun z => by rw [z, upd_same] at hl2; cases hl2
    have hl2' : H l2 = none := by rw [upd_ne (Ne.symm n12)] at hl2; exact hl2
    have s1 : Same H (upd (upd H l1 (.lst xs)) l2 (.lst [])) := (Same.newA hl1).trans (Same.newA hl2)
    have e1 : (upd (upd H l1 (.lst xs)) l2 (.lst [])) l1 = some (.lst xs) := by rw [upd_ne n12]; exact upd_same
    have e2 : (upd (upd H l1 (.lst xs)) l2 (.lst [])) l2 = some (.lst []) := upd_same
    generalize upd (upd H l1 (.lst xs)) l2 (.lst []) = H1 at s1 e1 e2
    have hs1 : SqL K H1 a xs ∨ SqT K H1 a xs := hs.imp s1.slA s1.stA
    have hl : LenV K (.ref a) H1 xs.length := hs1.elim (fun z => .inl ⟨_, z, rfl⟩) fun z => .inr ⟨_, z, rfl⟩
    refine ⟨_, rfl, _, _, rfl, hl, _, rfl, by omega, by omega, for_range (n := xs.length) (fun i σ' H' => ∃ (ls fs : List V) (o : Option V), σ' = [some (.ref p), some (.ref a), some (.ref l1), some (.ref l2), o] ∧
      H' l1 = some (.lst ls) ∧ H' l2 = some (.lst fs) ∧ fs.length = i ∧ (fs ++ ls).Perm xs ∧ But p H H' ∧ Pen p c (n + i) H') ⟨xs, [], none, rfl, e1, e2, rfl, .refl _, .of s1, hP.same s1⟩ ?_ ?_⟩
    · rintro i σ' H' hi ⟨ls, fs, o, rfl, f1, f2, fl, pm, b1, P1⟩
      have tot := pm.length_eq
      rw [List.length_append] at tot
      refine ⟨_, rfl, .inl ⟨rfl, _, SqL.of f2⟩, _, rfl, .inl ⟨rfl, _, SqL.of f1⟩, _, rfl, _, rfl, _, _, rfl, .inl ⟨_, SqL.of f1, rfl⟩, p, c, _, n + i, rfl, P1, by omega, by omega, by omega, fun d H2 d0 d1 b2 P2 => ?_⟩
      have g1 : H2 l1 = some (.lst ls) := b2 _ _ (P1.ne f1 (fun _ z => nomatch z)) f1
      have g2 : H2 l2 = some (.lst fs) := b2 _ _ (P1.ne f2 (fun _ z => nomatch z)) f2
      have hd : d.toNat < ls.length := by omega
      refine ⟨_, _, _, _, _, rfl, rfl, g1, by omega, by omega, seq_at d0 (by omega), List.getElem?_eq_getElem hd, ?_⟩
      refine ⟨_, _, _, rfl, rfl, by rw [upd_ne (Ne.symm n12)]; exact g2, by rw [fl]; exact lt5 (by omega), ?_⟩
      refine ⟨ls.eraseIdx d.toNat, fs ++ [ls[d.toNat]], some (.int (0 + (i : Int))), rfl, ?_, upd_same, by rw [List.length_append, fl]; rfl, ?_, ?_, ?_⟩
      · rw [upd_ne n12]; exact upd_same
      · refine List.Perm.trans ?_ pm
        rw [List.append_assoc]
        exact List.Perm.append_left fs (erase_perm _ _ _ (List.getElem?_eq_getElem hd))
      · intro b u nb e
        rw [upd_ne (ne_of_none e hl2'), upd_ne (ne_of_none e hl1)]
        exact b2 _ _ nb (b1 _ _ nb e)
      · exact (P2.upd (hP.ne_p hl1) (hP.ne_c hl1)).upd (hP.ne_p hl2') (hP.ne_c hl2')
    · rintro σ' H' ⟨ls, fs, o, rfl, f1, f2, fl, pm, b1, P1⟩
      have tot := pm.length_eq
      rw [List.length_append] at tot
      have : ls = [] := List.length_eq_zero_iff.mp (by omega)
      subst this
      rw [List.append_nil] at pm
      exact ⟨_, rfl, k _ _ _ pm hl2' f2 b1 P1⟩

theorem ok_name : FnOk P w K mg base CX0 2 T.a_law_name T.d_law_name ["pen", "index"] spName := by
  have G_law_draw := ok_draw (P := P) (base := base) T
  refine T.D_law_name.fn.ok sc_law_name (fun vs H Q E h => ?_) (fun cdv A outer s H vs Q E hr h => ?_)
  · obtain ⟨p, c, i, n, rfl, _⟩ := h; rfl
  · obtain ⟨p, c, ix, n, rfl, hP, hi, n1, k⟩ := h
    refine ⟨_, (pss_cons (ps_set (i := 2) sc_law_name.nd rfl (by first | exact Or.inl rfl | exact Or.inr rfl) pe_str)
      (pss_cons (ps_for PassesOwn.never rfl (pi_range1 (by rfl) T.b_range (pa_cons (pe_op op_add pe_int (pe_call (G_law_draw) (hr.mono (by omega)) (by rfl) T.D_law_draw.mg T.D_law_draw.fn.kp T.D_law_draw.bd .nil pass0 (pa_cons (pv 0) (pa_cons pe_int pa_nil)))) pa_nil)) (pg_name (i := 3) sc_law_name.nd rfl (by first | exact Or.inl rfl | exact Or.inr rfl)) (pss_one (ps_set (i := 2) sc_law_name.nd rfl (by first | exact Or.inl rfl | exact Or.inr rfl) (pe_op op_add_str (pv 2) (pe_ix ix_seq pe_str (pe_call (G_law_draw) (hr.mono (by omega)) (by rfl) T.D_law_draw.mg T.D_law_draw.fn.kp T.D_law_draw.bd .nil pass0 (pa_cons (pv 0) (pa_cons pe_int pa_nil))) (fun _ _ => rfl))))))
      (pss_cons (ps_set (i := 4) sc_law_name.nd rfl (by first | exact Or.inl rfl | exact Or.inr rfl) (pe_op op_add pe_int (pe_call (G_law_draw) (hr.mono (by omega)) (by rfl) T.D_law_draw.mg T.D_law_draw.fn.kp T.D_law_draw.bd .nil pass0 (pa_cons (pv 0) (pa_cons (pe_callB call_len (by rfl) T.b_len bt_len (pa_cons (pv 2) pa_nil)) pa_nil)))))
      (pss_one (ps_ret (pe_op op_add_str (pe_op op_add_str (pe_slice sl_str (pv 2) po_none (po_some (pv 4))) (pe_callTy call_str_int (by rfl) T.b_str bt_str (pa_cons (pv 1) pa_nil))) (pe_slice sl_str (pv 2) (po_some (pv 4)) po_none))))))), ?_⟩
    refine ⟨_, rfl, p, c, 8, n, rfl, hP, by decide, by decide, by omega, fun d H1 d0 d1 b1 P1 => ?_⟩
    refine ⟨_, _, rfl, rfl, _, rfl, by omega, by omega, for_range (n := (1 + d).toNat) (fun i σ' H' => ∃ (cs : List Nat) (o : Option V), σ' = [some (.ref p), some (.int (ix : Int)), some (.str (S cs)), o, none] ∧
      cs.length = i ∧ (∀ x ∈ cs, 97 ≤ x ∧ x ≤ 122) ∧ But p H H' ∧ Pen p c (n + 1 + i) H') ⟨[], none, rfl, rfl, (fun x hx => by cases hx), b1, P1⟩ ?_ ?_⟩
    · rintro i σ' H' hi ⟨cs, o, rfl, hc, hx, b2, P2⟩
      refine ⟨_, rfl, _, rfl, p, c, 26, _, rfl, P2, by decide, by decide, by omega, fun d2 H2 e0 e1 b3 P3 => ?_⟩
      have ed : ((d2.toNat : Nat) : Int) = d2 := by omega
      refine .inr (.inr ⟨_, _, _, rfl, rfl, letters_short, atI_int e0 (letters_at d2.toNat (by omega)), ?_⟩)
      refine ⟨_, _, rfl, rfl, ?_, ?_⟩
      · rw [SX.S_len]; refine small5 ?_
        show cs.length + 1 ≤ _
        omega
      · refine ⟨cs ++ [97 + d2.toNat], some (.int (0 + (i : Int))), ?_, by rw [List.length_append, hc]; rfl, fun x hx' => ?_, b2.trans b3, P3⟩
        · rw [S_one, SX.S_cat]; rfl
        · rcases List.mem_append.mp hx' with h | h
          · exact hx x h
          · rw [List.mem_singleton.mp h]; omega
    · rintro σ' H' ⟨cs, o, rfl, hc, hx, b2, P2⟩
      refine ⟨_, rfl, _, rfl, _, _, rfl, ⟨by rw [SX.S_len]; exact small5 (by omega), rfl⟩, p, c, _, _, rfl, P2, by rw [SX.S_len]; omega, by rw [SX.S_len]; omega, by omega, fun d2 H2 e0 e1 b3 P3 => ?_⟩
      rw [SX.S_len] at e1
      have lc : cs.length = (1 + d).toNat := hc
      have ct := cut_takeI cs (1 + d2) (by omega) (by omega)
      have cd := cut_dropI cs (1 + d2) (by omega) (by omega)
      have lg : (ix : Int).natAbs.log2 < 1920 := by
        have : (ix : Int).natAbs < 2 ^ 1920 := Nat.lt_of_lt_of_le (by omega : (ix : Int).natAbs < 32) (by decide)
        by_cases z : (ix : Int).natAbs = 0
        · rw [z]; decide
        · exact (Nat.log2_lt z).mpr this
      have eS : cutS (S cs) none (some (1 + d2)) ++ Str.ofString (toString (ix : Int)) ++ cutS (S cs) (some (1 + d2)) none = S (cs.take (1 + d2).toNat ++ Digs ix ++ cs.drop (1 + d2).toNat) := by
        rw [ct, cd, ← SX.S_tl (Str.ofString (toString (ix : Int))), SX.S_cat, SX.S_cat]; rfl
      have l1 : (cutS (S cs) none (some (1 + d2))).length + (Str.ofString (toString (ix : Int))).length ≤ 100000 := by
        rw [ct, SX.S_len, List.length_take, ← SX.S_tl (Str.ofString (toString (ix : Int))), SX.S_len]
        have := (digs_ok ix hi).2.1
        show _ + (Digs ix).length ≤ _
        omega
      have l2 : (cutS (S cs) none (some (1 + d2)) ++ Str.ofString (toString (ix : Int))).length + (cutS (S cs) (some (1 + d2)) none).length ≤ 100000 := by
        rw [ct, cd, ← SX.S_tl (Str.ofString (toString (ix : Int))), SX.S_cat, SX.S_len, SX.S_len, List.length_append, List.length_take, List.length_drop]
        have := (digs_ok ix hi).2.1
        show _ + (Digs ix).length + _ ≤ _
        omega
      refine ⟨_, _, rfl, rfl, _, rfl, _, rfl, _, rfl, _, rfl, by rw [SX.S_len]; exact small5 (by omega), _, rfl, _, rfl, lg, _, _, rfl, rfl, small5 l1, ?_⟩
      refine ⟨_, rfl, _, rfl, _, rfl, _, rfl, by rw [SX.S_len]; exact small5 (by omega), _, _, rfl, rfl, small5 l2, ?_⟩
      refine k _ _ ⟨cs.take (1 + d2).toNat, cs.drop (1 + d2).toNat, eS, ?_, ?_, fun x h => hx x ?_⟩ (b2.trans b3) (P3.more (by omega))
      · rw [List.length_take]; omega
      · rw [List.length_take, List.length_drop]; omega
      · rw [List.take_append_drop] at h; exact h
end
end Ag

set_option Elab.async false
set_option linter.all false
set_option maxRecDepth 100000
set_option maxHeartbeats 1000000
namespace Ag
open PySem PySem.Spec PyProof.Rows L2
theorem vstr_perm {ys : List V} {ms : List Str} (h : ys.Perm (ms.map V.str)) : ∃ ns : List Str, ns.Perm ms ∧ ys = ns.map V.str := by
  have hm : ∀ y ∈ ys, ∃ s, y = V.str s := fun y hy => by
    obtain ⟨s, _, e⟩ := List.mem_map.mp (h.mem_iff.mp hy); exact ⟨s, e.symm⟩
  let f : V → Str := fun v => match v with | .str s => s | _ => Str.empty
  refine ⟨ys.map f, ?_, ?_⟩
  · have := h.map f
    rw [List.map_map] at this
    have e : ms.map (f ∘ V.str) = ms := by
      have q : ms.map (f ∘ V.str) = ms.map id := List.map_congr_left fun s _ => rfl
      rw [q, List.map_id]
    rw [e] at this; exact this
  · rw [List.map_map]
    have e : ys.map (V.str ∘ f) = ys.map id := List.map_congr_left fun y hy => by
      obtain ⟨s, rfl⟩ := hm y hy; rfl
    rw [e, List.map_id]
section
variable {P : Program} {w : World} {K : PySem.W.Frag} {mg : Str → Option Value} {base : Heap} (T : Txt w K mg)
theorem ok_names : FnOk P w K mg base CX0 3 T.a_law_names T.d_law_names ["pen", "many"] (spNames K) := by
  have G_law_name := ok_name (P := P) (base := base) T
  have G_law_shuffled := ok_shuf (P := P) (base := base) T
  refine T.D_law_names.fn.ok sc_law_names (fun vs H Q E h => ?_) (fun cdv A outer s H vs Q E hr h => ?_)
  · obtain ⟨p, c, m, n, rfl, _⟩ := h; rfl
  · obtain ⟨p, c, m, n, rfl, hP, m31, n1, k⟩ := h
    refine ⟨_, (pss_one (ps_ret (pe_call (G_law_shuffled) (hr.mono (by omega)) (by rfl) T.D_law_shuffled.mg T.D_law_shuffled.fn.kp T.D_law_shuffled.bd .nil pass0 (pa_cons (pv 0) (pa_cons (pe_lc (own := [("index", 2)]) rfl sc_law_names.nd (pi_range1 (by rfl) T.b_range (pa_cons (pv 1) pa_nil)) (blkOk_by (own := [("index", 2)]) (N := ["pen", "many", "index"]) (sc := defScope s_law_names) (by decide +kernel)) (fun _ _ _ _ _ => (pg_name (i := 2) sc_law_names.nd rfl (by first | exact Or.inl rfl | exact Or.inr rfl))) (fun _ _ _ _ _ => pts_nil) (fun _ _ _ _ _ => (pe_call (G_law_name) (hr.mono (by omega)) (by rfl) T.D_law_name.mg T.D_law_name.fn.kp T.D_law_name.bd .nil pass0 (pa_cons (pv 0) (pa_cons (pv 2) pa_nil))))) pa_nil))))), ?_⟩
    refine ⟨_, rfl, _, rfl, _, rfl, by omega, by omega, fun D hD => lc_range (lo := 0) (n := m) (fun i H' => ∃ ms : List Str, H' D = some (.lst (ms.map V.str)) ∧ ms.length = i ∧ (∀ j s, ms[j]? = some s → Nm j s) ∧ But p H H' ∧ Pen p c (n + 10 * i) H')
      ⟨[], upd_same, rfl, fun j s e => by simp at e, .of (Same.newA hD), hP.upd (hP.ne_p hD) (hP.ne_c hD)⟩ ?_ ?_⟩
    · rintro i H' hi ⟨ms, e1, ml, hm, b1, P1⟩
      refine ⟨rfl, ?_⟩
      refine ⟨_, rfl, _, rfl, p, c, i, n + 10 * i, ?_, P1, by omega, by omega, fun s H2 hs b2 P2 => ?_⟩
      · show [V.ref p, V.int (0 + (i : Int))] ++ [] = _
        rw [Int.zero_add]; rfl
      have e2 : H2 D = some (.lst (ms.map V.str)) := b2 _ _ (hP.ne_p hD) e1
      refine ⟨_, e2, lt5 (by rw [List.length_map]; omega), ms ++ [s], ?_, by rw [List.length_append, ml]; rfl, fun j t e => ?_, ?_, ?_⟩
      · rw [List.map_append]; exact upd_same
      · rw [List.getElem?_append] at e
        split at e
        · exact hm j t e
        · have : j - ms.length = 0 := by
            cases z : j - ms.length with
            | zero => rfl
            | succ q => rw [z] at e; simp at e
          rw [this] at e
          have ej : j = i := by omega
          simp at e
          rw [← e, ej]; exact hs
      · intro b u nb e
        rw [upd_ne (ne_of_none e hD)]
        exact b2 _ _ nb (b1 _ _ nb e)
      · exact (P2.more (by omega)).upd (hP.ne_p hD) (hP.ne_c hD)
    · rintro H' ⟨ms, e1, ml, hm, b1, P1⟩
      refine ⟨p, c, D, ms.map V.str, _, rfl, P1, .inl (SqL.of e1), by rw [List.length_map]; omega, by omega, fun l ys H2 pm hl e2 b2 P2 => ?_⟩
      obtain ⟨ns, pn, rfl⟩ := vstr_perm pm
      exact k l ns H2 ⟨ms, ml, hm, pn⟩ (b1.free hl (P1.ne_p hl)) e2 (b1.trans b2) (P2.more (by rw [List.length_map, ml]; omega))
theorem ok_calls : FnOk P w K mg base CX0 4 T.a_law_calls T.d_law_calls ["pen", "many"] (spCalls K) := by
  have G_law_names := ok_names (P := P) (base := base) T
  refine T.D_law_calls.fn.ok sc_law_calls (fun vs H Q E h => ?_) (fun cdv A outer s H vs Q E hr h => ?_)
  · obtain ⟨p, c, m, n, rfl, _⟩ := h; rfl
  · obtain ⟨p, c, m, n, rfl, hP, m31, n1, k⟩ := h
    refine ⟨_, (pss_one (ps_ret (pe_callTy call_tuple_of (by rfl) T.b_tuple bt_tuple (pa_cons (pe_callB cr_sortedS (by rfl) T.b_sorted bt_sorted (pa_cons (pe_call (G_law_names) (hr.mono (by omega)) (by rfl) T.D_law_names.mg T.D_law_names.fn.kp T.D_law_names.bd .nil pass0 (pa_cons (pv 0) (pa_cons (pv 1) pa_nil))) pa_nil)) pa_nil)))), ?_⟩
    refine ⟨_, rfl, _, rfl, p, c, m, n, rfl, hP, m31, n1, fun l ns H1 hn hl e1 b1 P1 => ?_⟩
    have len := nms_len hn
    refine ⟨l, ns, rfl, SqL.of e1, by omega, fun ys q py sy hq => ?_⟩
    refine ⟨_, _, rfl, .inl ⟨SqL.of upd_same, fun r hr1 => ?_⟩⟩
    obtain ⟨ms, ml, hm, pm⟩ := hn
    have nrq : r ≠ q := fun z => by rw [z, upd_same] at hr1; cases hr1
    have hr2 : H1 r = none := by rw [upd_ne nrq] at hr1; exact hr1
    exact k r ys _ ⟨ms, ml, hm, py.trans pm⟩ sy upd_same (b1.trans (.of ((Same.newA hq).trans (Same.newA hr1)))) ((P1.upd (P1.ne_p hq) (P1.ne_c hq)).upd (P1.ne_p hr2) (P1.ne_c hr2))
end
end Ag

set_option Elab.async false
set_option linter.all false
set_option maxRecDepth 100000
set_option maxHeartbeats 1000000
namespace Ag
open PySem PySem.Spec PyProof.Rows L2

/-! ### good data -/
mutual
def gd : PyData → Bool
  | .none | .bool _ | .int _ => true
  | .str x => x.cps.all (· < 0x110000) && decide (x.length ≤ 1000)
  | .list xs => gds xs && decide (xs.length ≤ 1000)
  | .tuple xs => gds xs && decide (xs.length ≤ 1000)
  | .dict _ => false
def gds : List PyData → Bool
  | [] => true
  | x :: xs => gd x && gds xs
end
theorem gds_all : ∀ {xs : List PyData}, gds xs = true → ∀ x ∈ xs, gd x = true
  | [], _, _, h => by cases h
  | x :: xs, h, y, hy => by
    simp only [gds, Bool.and_eq_true] at h
    rcases List.mem_cons.mp hy with rfl | hy
    · exact h.1
    · exact gds_all h.2 y hy
theorem gds_of : ∀ {xs : List PyData}, (∀ x ∈ xs, gd x = true) → gds xs = true
  | [], _ => by simp [gds]
  | x :: xs, h => by
    simp only [gds, Bool.and_eq_true]
    exact ⟨h x List.mem_cons_self, gds_of fun y hy => h y (List.mem_cons_of_mem _ hy)⟩
mutual
theorem gd_lay : ∀ {d : PyData}, gd d = true → d.canLay0 = true
  | .none, _ => by simp [PyData.canLay0]
  | .bool _, _ => by simp [PyData.canLay0]
  | .int _, _ => by simp [PyData.canLay0]
  | .str x, h => by
    simp only [gd, Bool.and_eq_true] at h
    simp only [PyData.canLay0]; exact h.1
  | .list xs, h => by
    simp only [gd, Bool.and_eq_true] at h
    simp only [PyData.canLay0]; exact gds_lay h.1
  | .tuple xs, h => by
    simp only [gd, Bool.and_eq_true] at h
    simp only [PyData.canLay0]; exact gds_lay h.1
  | .dict _, h => by simp [gd] at h
theorem gds_lay : ∀ {ds : List PyData}, gds ds = true → PyData.canLayAll0 ds = true
  | [], _ => by simp [PyData.canLayAll0]
  | x :: xs, h => by
    simp only [gds, Bool.and_eq_true] at h
    simp only [PyData.canLayAll0, Bool.and_eq_true]
    exact ⟨gd_lay h.1, gds_lay h.2⟩
end

/-! ### names -/
def letter (c : Nat) : Bool := decide (97 ≤ c ∧ c ≤ 122)
def figure (c : Nat) : Bool := decide (48 ≤ c ∧ c ≤ 57)
theorem letters_list : ("abcdefghijklmnopqrstuvwxyz" : Str).cps.toList = List.range' 97 26 := by decide +kernel
theorem figures_list : ("0123456789" : Str).cps.toList = List.range' 48 10 := by decide +kernel
theorem both_list : ("abcdefghijklmnopqrstuvwxyz0123456789" : Str).cps.toList = List.range' 97 26 ++ List.range' 48 10 := by decide +kernel
theorem mem_letters (c : Nat) : decide (c ∈ ("abcdefghijklmnopqrstuvwxyz" : Str).cps.toList) = letter c := by
  rw [letters_list]; unfold letter; congr 1; rw [List.mem_range'_1]; apply propext; omega
theorem mem_figures (c : Nat) : decide (c ∈ ("0123456789" : Str).cps.toList) = figure c := by
  rw [figures_list]; unfold figure; congr 1; rw [List.mem_range'_1]; apply propext; omega
theorem mem_both (c : Nat) : decide (c ∈ ("abcdefghijklmnopqrstuvwxyz0123456789" : Str).cps.toList) = (letter c || figure c) := by
  rw [both_list, ← mem_letters, ← mem_figures, letters_list, figures_list]
  by_cases h1 : c ∈ List.range' 97 26 <;> by_cases h2 : c ∈ List.range' 48 10 <;> simp [h1, h2]
def nameB (s : Str) : Bool := decide (1 ≤ (s.length : Int)) && decide ((s.length : Int) ≤ 12) && (match s.cps.toList with | [] => false | c :: _ => letter c) && s.cps.toList.all fun c => letter c || figure c
def isName : PyData → Bool | .str s => nameB s | _ => false
theorem nm_name {i : Nat} {s : Str} (hi : i < 32) (h : Nm i s) : nameB s = true := by
  obtain ⟨a, b, rfl, h1, h2, h3⟩ := h
  obtain ⟨d1, d2, d3⟩ := digs_ok i hi
  have hl : (S (a ++ Digs i ++ b)).length = a.length + (Digs i).length + b.length := by rw [SX.S_len, List.length_append, List.length_append]
  have hc : (S (a ++ Digs i ++ b)).cps.toList = a ++ Digs i ++ b := rfl
  unfold nameB
  rw [hl, hc]
  simp only [Bool.and_eq_true, decide_eq_true_eq, List.all_eq_true, Bool.or_eq_true]
  refine ⟨⟨⟨by omega, by omega⟩, ?_⟩, fun c hc => ?_⟩
  · cases a with
    | nil => simp at h1
    | cons x r =>
      have := h3 x (by simp)
      show letter x = true
      unfold letter; simp; omega
  · rcases List.mem_append.mp hc with hc | hc
    · rcases List.mem_append.mp hc with hc | hc
      · have := h3 c (List.mem_append_left _ hc); left; unfold letter; simp; omega
      · have := d3 c hc; right; unfold figure; simp; omega
    · have := h3 c (List.mem_append_right _ hc); left; unfold letter; simp; omega

/-- a def that answers a Bool of one datum -/
def spB (K : PySem.W.Frag) (pre : PyData → Prop) (f : PyData → Bool) : Sp := fun vs H Q _ => ∃ v d, vs = [v] ∧ Dp K H v d ∧ pre d ∧ ∀ H', Same H H' → Q (.bl (f d)) H'
theorem rdc_spB {K : PySem.W.Frag} {E : XK} {pre : PyData → Prop} {f : PyData → Bool} {d : PyData} (hp : pre d) : RDC K (fun vs H Q => spB K pre f vs H Q E) [d] (.bool (f d)) := fun F vs H1 hv Q q => by
  cases hv with
  | cons a r => cases r; exact ⟨_, d, rfl, df_dp a, hp, fun H' s => q _ H' s (.bl _)⟩
theorem all_signs {p : Nat → Bool} (g : PyData → Bool) (hg : ∀ c, g (.str ⟨#[c]⟩) = p c) (x : Str) : ((signs x).map g).all id = x.cps.toList.all p := by
  unfold signs
  rw [List.map_map, List.all_map]
  congr 1; funext c; exact hg c
section
variable {P : Program} {w : World} {K : PySem.W.Frag} {mg : Str → Option Value} {base : Heap} (T : Txt w K mg)
def sgn : PyData → Nat | .str x => x.cps.toList.headD 0 | _ => 0
theorem ok_is_name : FnOk P w K mg base CX0 1 T.a_is_name T.d_is_name ["value"] (spB K (fun d => gd d = true) isName) := by
  refine T.D_is_name.fn.ok sc_is_name (fun vs H Q E h => ?_) (fun cdv A outer s H vs Q E hr h => ?_)
  · obtain ⟨v, d, rfl, _⟩ := h; rfl
  · obtain ⟨v, d, rfl, hv, hd, k⟩ := h
    refine ⟨_, (pss_cons (ps_if (PW.pt (pw_or (pt_not (pt_val (pe_callB call_isi (by rfl) T.b_isinstance bt_isinstance (pa_cons (pv 0) (pa_cons (pe_bltn (v := .ty "str") (by rfl) T.b_str bt_str rfl) pa_nil))))) (pw_or (pt_not (pt_chain op_le op_le pe_int (pe_callB call_len (by rfl) T.b_len bt_len (pa_cons (pv 0) pa_nil)) pe_int)) (pw_or1 (pt_cmpR op_notIn_sign (pe_ix ix_seq (pv 0) pe_int (fun _ _ => rfl)) (pe_glob (v := .str "abcdefghijklmnopqrstuvwxyz") (by rfl) T.g_LETTERS ⟨_, rfl⟩) rfl))))) (pss_one (ps_ret pe_bl)) pss_nil)
      (pss_one (ps_ret (pe_callB (cr_all rfl) (by rfl) T.b_all bt_all (pa_cons (pe_lc (own := [("sign", 1)]) rfl sc_is_name.nd (pi_str (pv 0)) (blkOk_by (own := [("sign", 1)]) (N := ["value", "sign"]) (sc := defScope s_is_name) (by decide +kernel)) (fun _ _ _ _ _ => (pg_name (i := 1) sc_is_name.nd rfl (by first | exact Or.inl rfl | exact Or.inr rfl))) (fun _ _ _ _ _ => pts_nil) (fun _ _ _ _ _ => (pe_or (pe_cmpR op_in_sign (pv 1) (pe_glob (v := .str "abcdefghijklmnopqrstuvwxyz") (by rfl) T.g_LETTERS ⟨_, rfl⟩) rfl) (pe_one (pe_cmpR op_in_sign (pv 1) (pe_glob (v := .str "0123456789") (by rfl) T.g_FIGURES ⟨_, rfl⟩) rfl))))) pa_nil))))), ?_⟩
    have hvar : ∀ H1, Same H H1 → ED K (tVar 0) (start ["value", "sign"] [v]) (nn H) H1 d := fun H1 s1 => ed_var rfl (df_mono s1 (fun _ z => z) (dp_df hv))
    have isi := et_B (ed_isi (T := "str") (hvar H (Same.refl _)) (.inl rfl))
    cases d with
    | str x =>
      have hx : x.length ≤ 1000 := by simp only [gd, Bool.and_eq_true, decide_eq_true_eq] at hd; exact hd.2
      have h12 : ET _ _ H _ := et_not (et_test (ed_chain (r := rI0 fun i j => .bl (decide (i ≤ j))) (r' := rI0 fun i j => .bl (decide (i ≤ j))) (ed_int (i := 1)) (ed_len (hvar H (Same.refl _)) (decide_eq_true (by omega))) (ed_int (i := 12)) rd_cmp fun _ => rd_cmp))
      by_cases hb : decide (1 ≤ (x.length : Int)) && decide ((x.length : Int) ≤ 12)
      · obtain ⟨c, cs, hc⟩ : ∃ c cs, x.cps.toList = c :: cs := by
          cases hc : x.cps.toList with
          | nil => 
            have : x.length = 0 := by show x.cps.size = 0; rw [← Array.length_toList, hc]; rfl
            simp [this] at hb
          | cons c cs => exact ⟨c, cs, rfl⟩
        have hch := et_B (ed_notInS (ed_ixS (j := 0) (hvar H (Same.refl _)) ed_int (by omega) (c := c) (by rw [hc]; rfl)) (ed_str (x := "abcdefghijklmnopqrstuvwxyz")))
        refine s_if (b := !letter c) (et_is (et_or (et_not isi) fun _ => et_or h12 fun _ => hch) ?_) (fun h H1 s1 => ?_) (fun h H1 s1 => ?_)
        · rw [mem_letters]; show (!true || (!(decide (1 ≤ (x.length : Int)) && decide ((x.length : Int) ≤ 12)) || !letter c)) = _; rw [hb]; rfl
        · have := k H1 s1
          have e : isName (.str x) = false := by
            show nameB x = false
            unfold nameB; rw [hc]; simp at h; simp [h]
          rw [e] at this; exact this
        · refine s_ret (F := nn H) (ed_all (bs := (signs x).map fun s => letter (sgn s) || figure (sgn s)) (ed_is (ed_lc (f := fun _ => true) (m := fun s => .bool (letter (sgn s) || figure (sgn s))) (ei_str (hvar H1 s1)) ?_ fun F2 H2 e2 v2 d2 hm hd2 => ?_) ?_)) fun v H2 s2 hv2 => ?_
          · unfold signs; rw [List.length_map, Array.length_toList]; show x.length ≤ _; omega
          · obtain ⟨c2, hc2, rfl⟩ := List.mem_map.mp hm
            refine ⟨_, fun Q q => q, rfl, et_yes, fun _ => ed_is (ed_orV (ed_inS (ed_var rfl hd2) (ed_str (x := "abcdefghijklmnopqrstuvwxyz"))) fun _ => ed_inS (ed_var rfl hd2) (ed_str (x := "0123456789"))) ?_⟩
            rw [mem_letters, mem_figures]; rfl
          · rw [filt_tt, List.map_map]; rfl
          · cases hv2
            have := k H2 (s1.trans s2)
            have e : isName (.str x) = ((signs x).map fun s => letter (sgn s) || figure (sgn s)).all id := by
              rw [all_signs (p := fun c => letter c || figure c) _ (fun c => rfl)]
              show nameB x = _
              unfold nameB; rw [hb, hc]; simp at h; simp [h]
            rw [e] at this; exact this
      · rw [Bool.not_eq_true] at hb
        refine s_if (b := true) (et_is (et_or (b := true) (et_not isi) fun _ => et_is (et_or (b := false) h12 fun h => ?_) ?_) ?_) (fun h H1 s1 => ?_) (fun h H1 s1 => nomatch h)
        · have h := (show (!(decide (1 ≤ (x.length : Int)) && decide ((x.length : Int) ≤ 12))) = false from h)
          rw [hb] at h; cases h
        · show (!(decide (1 ≤ (x.length : Int)) && decide ((x.length : Int) ≤ 12)) || false) = true
          rw [hb]; rfl
        · rfl
        · have := k H1 s1
          have e : isName (.str x) = false := by
            show nameB x = false
            unfold nameB; rw [hb]; rfl
          rw [e] at this; exact this
    | _ =>
      refine s_if (b := true) (et_or (b := true) (et_not isi) fun h => nomatch h) (fun h H1 s1 => ?_) (fun h H1 s1 => nomatch h)
      exact k H1 s1
end
end Ag

set_option Elab.async false
set_option linter.all false
set_option maxRecDepth 100000
set_option maxHeartbeats 1000000
namespace Ag
open PySem PySem.Spec PyProof.Rows L2
section
variable {K : PySem.W.Frag} {σ : L2.St} {F : Addr → Prop} {H : Hp} {te ta tb : TE} {d : PyData} {D : Ends}
theorem s_retB {b c : Bool} (h : ED K te σ F H (.bool b)) (e : b = c) (k : ∀ H1, Same H H1 → D.rt (.bl c) H1) : tRet te D σ H := s_ret h fun v H1 s1 hv => by
  cases hv; subst e; exact k H1 s1
theorem s_retI {b c : Int} (h : ED K te σ F H (.int b)) (e : b = c) (k : ∀ H1, Same H H1 → D.rt (.int c) H1) : tRet te D σ H := s_ret h fun v H1 s1 hv => by
  cases hv; subst e; exact k H1 s1
end
def isWord : PyData → Bool | .tuple ds => ds.all isName | _ => false
theorem gd_tup {ds : List PyData} (h : gd (.tuple ds) = true) : (∀ x ∈ ds, gd x = true) ∧ ds.length ≤ 1000 := by
  simp only [gd, Bool.and_eq_true, decide_eq_true_eq] at h
  exact ⟨gds_all h.1, h.2⟩
section
variable {P : Program} {w : World} {K : PySem.W.Frag} {mg : Str → Option Value} {base : Heap} (T : Txt w K mg)
theorem ok_is_word : FnOk P w K mg base CX0 2 T.a_is_word T.d_is_word ["value"] (spB K (fun d => gd d = true) isWord) := by
  have G_is_name := ok_is_name (P := P) (base := base) T
  refine T.D_is_word.fn.ok sc_is_word (fun vs H Q E h => ?_) (fun cdv A outer s H vs Q E hr h => ?_)
  · obtain ⟨v, d, rfl, _⟩ := h; rfl
  · obtain ⟨v, d, rfl, hv, hd, k⟩ := h
    refine ⟨_, (pss_one (ps_ret (pe_and (pe_callB call_isi (by rfl) T.b_isinstance bt_isinstance (pa_cons (pv 0) (pa_cons (pe_bltn (v := .ty "tuple") (by rfl) T.b_tuple bt_tuple rfl) pa_nil))) (pe_one (pe_callB (cr_all rfl) (by rfl) T.b_all bt_all (pa_cons (pe_lc (own := [("call", 1)]) rfl sc_is_word.nd (pi_tup (pv 0)) (blkOk_by (own := [("call", 1)]) (N := ["value", "call"]) (sc := defScope s_is_word) (by decide +kernel)) (fun _ _ _ _ _ => (pg_name (i := 1) sc_is_word.nd rfl (by first | exact Or.inl rfl | exact Or.inr rfl))) (fun _ _ _ _ _ => pts_nil) (fun _ _ _ _ _ => (pe_call (G_is_name) (hr.mono (by omega)) (by rfl) T.D_is_name.mg T.D_is_name.fn.kp T.D_is_name.bd .nil pass0 (pa_cons (pv 1) pa_nil)))) pa_nil)))))), ?_⟩
    have hvar : ED K (tVar 0) (start ["value", "call"] [v]) (nn H) H d := ed_var rfl (dp_df hv)
    have isi := ed_isi (T := "tuple") hvar (.inr (.inl rfl))
    cases d with
    | tuple ds =>
      obtain ⟨g1, g2⟩ := gd_tup hd
      refine s_retB (F := nn H) (ed_andV isi fun _ => ed_all (bs := ds.map isName) (ed_is (ed_lc (f := fun _ => true) (m := fun s => .bool (isName s)) (ei_tup hvar) (by omega) fun F2 H2 e2 v2 d2 hm hd2 => ?_) ?_)) ?_ k
      · exact ⟨_, fun Q q => q, rfl, et_yes, fun _ => ed_call (ea_cons (ed_var rfl hd2) ea_nil) (rdc_spB (g1 _ hm))⟩
      · rw [filt_tt, List.map_map]; rfl
      · show (true && (ds.map isName).all id) = ds.all isName
        rw [List.all_map]; rfl
    | _ => exact s_retB (F := nn H) (b := false) (ed_andV (a := false) (b := true) isi fun h => nomatch h) rfl k
end
end Ag

set_option Elab.async false
set_option linter.all false
set_option maxRecDepth 100000
set_option maxHeartbeats 1000000
namespace Ag
open PySem PySem.Spec PyProof.Rows L2
section
variable {P : Program} {w : World} {K : PySem.W.Frag} {mg : Str → Option Value} {base : Heap}
def spNo : Sp := fun _ _ _ _ => False
theorem no_ok (k : Nat) {x : Str} {N : List Str} {st : Stmt} {ps : List Str} {a : Addr} {fd : FuncData} (D : DefAt K mg x st ps a fd) (S : FnScope N ps (defScope st)) : FnOk P w K mg base CX0 (k + 1) a fd ps spNo :=
  D.fn.ok S (fun vs H Q E h => h.elim) (fun cdv A outer s H vs Q E hr h => h.elim)
end
theorem merge_pen {c : Addr} {a d n f : Int} : mergeK [] [(ck "cells", V.ref c), (ck "at", .int a), (ck "digits", .int d), (ck "count", .int n), (ck "fold", .int f)] = penKV c a d n f := by
  unfold mergeK
  simp [putK, penKV, ck, sn_cells_at, sn_cells_digits, sn_cells_count, sn_cells_fold, sn_at_digits, sn_at_count, sn_at_fold, sn_digits_count, sn_digits_fold, sn_count_fold]
def spLPen (K : PySem.W.Frag) : Sp := fun vs H Q _ => ∃ (a : Addr) (ns : List Int), vs = [.ref a] ∧ SqL K H a (ns.map V.int) ∧ ns.length ≤ 63 ∧ ∀ p c H', Same H H' → Pen p c 0 H' → Q (.ref p) H'
/-- told and due are one and the same leaf -/
def leafD : PyData → Bool | .bool _ => true | .str _ => true | _ => false
def spSame0 (K : PySem.W.Frag) : Sp := fun vs H Q _ => ∃ x y d, vs = [x, y] ∧ Dp K H x d ∧ Dp K H y d ∧ leafD d = true ∧ ∀ H', Same H H' → Q (.bl true) H'
def spSame1 (K : PySem.W.Frag) : Sp := fun vs H Q _ => ∃ x y ds, vs = [x, y] ∧ Dp K H x (.tuple ds) ∧ Dp K H y (.tuple ds) ∧ ds.length ≤ 1000 ∧ (∀ d ∈ ds, leafD d = true) ∧ ∀ H', Same H H' → Q (.bl true) H'
def oneD : PyData → PyData | .tuple [a, _] => a | d => d
def twoD : PyData → PyData | .tuple [_, b] => b | d => d
section
variable {P : Program} {w : World} {K : PySem.W.Frag} {mg : Str → Option Value} {base : Heap} (T : Txt w K mg)
theorem ok_law_pen : FnOk P w K mg base CX0 1 T.a_law_pen T.d_law_pen ["script"] (spLPen K) := by
  refine T.D_law_pen.fn.ok sc_law_pen (fun vs H Q E h => ?_) (fun cdv A outer s H vs Q E hr h => ?_)
  · obtain ⟨a, ns, rfl, _⟩ := h; rfl
  · obtain ⟨a, ns, rfl, hs, hl, k⟩ := h
    refine ⟨_, (pss_cons (ps_set (i := 1) sc_law_pen.nd rfl (by first | exact Or.inl rfl | exact Or.inr rfl) pe_int)
      (pss_cons (ps_for PassesOwn.never rfl (pi_list (pv 0)) (pg_name (i := 2) sc_law_pen.nd rfl (by first | exact Or.inl rfl | exact Or.inr rfl)) (pss_one (ps_set (i := 1) sc_law_pen.nd rfl (by first | exact Or.inl rfl | exact Or.inr rfl) (pe_op op_mod (pe_callTy call_int1 (by rfl) T.b_int bt_int (pa_cons (pe_op op_add (pe_op op_mul (pv 1) pe_int) (pv 2)) pa_nil)) pe_int))))
      (pss_one (ps_ret (pe_disp (pps_cons pe_str (pe_callTy call_list_of (by rfl) T.b_list bt_list (pa_cons (pv 0) pa_nil)) (pps_cons pe_str pe_int (pps_cons pe_str pe_int (pps_cons pe_str pe_int (pps_cons pe_str (pv 1) pps_nil))))) (by rfl) (by rfl) (fun z => by cases z) (by decide)))))), ?_⟩
    refine ⟨_, rfl, a, rfl, ⟨_, hs⟩, for_list (K := K) (a := a) (xs := ns.map V.int) (fun i σ' H' => H' = H ∧ ∃ (f : Int) (o : Option V), σ' = [some (.ref a), some (.int f), o] ∧ 0 ≤ f ∧ f < 1000000411) ⟨rfl, 29, none, rfl, by decide, by decide⟩ (fun i σ' H' _ h => by rw [h.1]; exact hs) ?_ ?_⟩
    · rintro i y σ' H' hi ⟨rfl, f, o, rfl, f0, f1⟩
      obtain ⟨u, rfl⟩ : ∃ u, y = V.int u := by
        rw [List.getElem?_map] at hi
        cases e : ns[i]? with
        | none => rw [e] at hi; cases hi
        | some u => rw [e] at hi; exact ⟨u, (Option.some.inj hi).symm⟩
      refine ⟨_, rfl, _, _, rfl, rfl, .inl ⟨by omega, by omega⟩, _, rfl, _, _, rfl, rfl, .inl ⟨_, rfl, _, _, rfl, rfl, (by show (0 : Int) < 1000000411; decide), ?_⟩⟩
      exact ⟨rfl, _, _, rfl, Int.emod_nonneg _ (by decide), Int.emod_lt_of_pos _ (by decide)⟩
    · rintro σ' H' ⟨rfl, f, o, rfl, f0, f1⟩
      intro p hp
      refine ⟨_, rfl, _, _, rfl, .inl ((Same.newA hp).slA hs), fun c hc => ⟨_, rfl, ?_⟩⟩
      have npc : p ≠ c := ne_of_none upd_same hc
      have s2 : Same H' (upd (upd H' p (.dK [])) c (.lst (ns.map V.int))) := (Same.newA hp).trans (Same.newA hc)
      refine ⟨by rw [upd_ne npc]; exact upd_same, [(ck "cells", V.ref c), (ck "at", .int 0), (ck "digits", .int 0), (ck "count", .int 0), (ck "fold", .int f)], rfl, (by decide : 5 ≤ 15), ?_⟩
      rw [merge_pen]
      refine k p c _ (fun b o e => ?_) ⟨ns, 0, 0, 0, f, upd_same, .inl (by rw [upd_ne (Ne.symm npc)]; exact upd_same), by decide, by decide, by decide, by decide, f0, by omega⟩
      rw [upd_ne (ne_of_none e hp)]; exact s2 _ _ e
theorem step_same0 (m : Nat) {spR : Sp} (G_law_same : FnOk P w K mg base CX0 m T.a_law_same T.d_law_same ["told", "due"] spR) : FnOk P w K mg base CX0 (m + 1) T.a_law_same T.d_law_same ["told", "due"] (spSame0 K) := by
  refine T.D_law_same.fn.ok sc_law_same (fun vs H Q E h => ?_) (fun cdv A outer s H vs Q E hr h => ?_)
  · obtain ⟨x, y, d, rfl, _⟩ := h; rfl
  · obtain ⟨x, y, d, rfl, hx, hy, hd, k⟩ := h
    refine ⟨_, (pss_cons (ps_if (pt_val (pe_callB call_isi (by rfl) T.b_isinstance bt_isinstance (pa_cons (pv 1) (pa_cons (pe_bltn (v := .ty "tuple") (by rfl) T.b_tuple bt_tuple rfl) pa_nil)))) (pss_one (ps_ret (pe_and (pe_callB call_isi (by rfl) T.b_isinstance bt_isinstance (pa_cons (pv 0) (pa_cons (pe_bltn (v := .ty "tuple") (by rfl) T.b_tuple bt_tuple rfl) pa_nil))) (pe_and (pe_cmpR op_eq (pe_callB call_len (by rfl) T.b_len bt_len (pa_cons (pv 0) pa_nil)) (pe_callB call_len (by rfl) T.b_len bt_len (pa_cons (pv 1) pa_nil)) (nomark _)) (pe_one (pe_callB (cr_all rfl) (by rfl) T.b_all bt_all (pa_cons (pe_lc (own := [("one", 2), ("two", 3)]) (g := (gTup K 2 (gCons (gName 2) (gCons (gName 3) gNil)))) rfl sc_law_same.nd (RZ.pi_zipA (by rfl) T.b_zip (pa_cons (pv 0) (pa_cons (pv 1) pa_nil))) (blkOk_by (own := [("one", 2), ("two", 3)]) (N := ["told", "due", "one", "two"]) (sc := defScope s_law_same) (by decide +kernel)) (fun _ _ _ _ _ => (pg_tup rfl (pgs_cons (pg_name (i := 2) sc_law_same.nd rfl (by first | exact Or.inl rfl | exact Or.inr rfl)) (pgs_cons (pg_name (i := 3) sc_law_same.nd rfl (by first | exact Or.inl rfl | exact Or.inr rfl)) pgs_nil)))) (fun _ _ _ _ _ => pts_nil) (fun _ _ _ _ _ => (pe_call (G_law_same) (hr.mono (by omega)) (by rfl) T.D_law_same.mg T.D_law_same.fn.kp T.D_law_same.bd .nil pass0 (pa_cons (pv 2) (pa_cons (pv 3) pa_nil))))) pa_nil))))))) pss_nil)
      (pss_cons (ps_if (pt_cmpR op_isN (pv 1) pe_non (nomark _)) (pss_one (ps_ret (pe_cmpR op_isN (pv 0) pe_non (nomark _)))) pss_nil)
      (pss_cons (ps_if (pt_cmpR op_isB (pv 1) pe_bl (nomark _)) (pss_one (ps_ret (pe_cmpR op_isB (pv 0) pe_bl (nomark _)))) pss_nil)
      (pss_cons (ps_if (pt_cmpR op_isB (pv 1) pe_bl (nomark _)) (pss_one (ps_ret (pe_cmpR op_isB (pv 0) pe_bl (nomark _)))) pss_nil)
      (pss_cons (ps_if (pt_val (pe_callB call_isi (by rfl) T.b_isinstance bt_isinstance (pa_cons (pv 1) (pa_cons (pe_bltn (v := .ty "int") (by rfl) T.b_int bt_int rfl) pa_nil)))) (pss_one (ps_ret (pe_and (pe_callB call_isi (by rfl) T.b_isinstance bt_isinstance (pa_cons (pv 0) (pa_cons (pe_bltn (v := .ty "int") (by rfl) T.b_int bt_int rfl) pa_nil))) (pe_and (pe_not (pe_callB call_isi (by rfl) T.b_isinstance bt_isinstance (pa_cons (pv 0) (pa_cons (pe_bltn (v := .ty "bool") (by rfl) T.b_bool bt_bool rfl) pa_nil)))) (pe_one (pe_cmpR op_eq (pv 0) (pv 1) (nomark _))))))) pss_nil)
      (pss_one (ps_ret (pe_and (pe_callB call_isi (by rfl) T.b_isinstance bt_isinstance (pa_cons (pv 0) (pa_cons (pe_bltn (v := .ty "str") (by rfl) T.b_str bt_str rfl) pa_nil))) (pe_one (pe_cmpR op_eq (pv 0) (pv 1) (nomark _))))))))))), ?_⟩
    have h0 : ∀ H1, Same H H1 → ED K (tVar 0) (start ["told", "due", "one", "two"] [x, y]) (nn H) H1 d := fun H1 s1 => ed_var rfl (df_mono s1 (fun _ z => z) (dp_df hx))
    have h1 : ∀ H1, Same H H1 → ED K (tVar 1) (start ["told", "due", "one", "two"] [x, y]) (nn H) H1 d := fun H1 s1 => ed_var rfl (df_mono s1 (fun _ z => z) (dp_df hy))
    cases d with
    | bool b =>
      refine s_if (b := false) (et_B (ed_isi (T := "tuple") (h1 H (Same.refl _)) (.inr (.inl rfl)))) (fun h => nomatch h) fun _ H1 s1 => ?_
      refine s_if (b := false) (et_test (ed_isN (h1 H1 s1))) (fun h => nomatch h) fun _ H2 s2 => ?_
      have s12 := s1.trans s2
      refine s_if (et_test (ed_isB (h1 H2 s12))) (fun h H3 s3 => ?_) fun h H3 s3 => ?_
      · have s13 := s12.trans s3
        exact s_retB (ed_isB (h0 H3 s13)) h fun H4 s4 => k H4 (s13.trans s4)
      · have s13 := s12.trans s3
        refine s_if (et_test (ed_isB (h1 H3 s13))) (fun h2 H4 s4 => ?_) fun h2 H4 s4 => ?_
        · exact s_retB (ed_isB (h0 H4 (s13.trans s4))) h2 fun H5 s5 => k H5 ((s13.trans s4).trans s5)
        · cases b
          · cases h2
          · cases h
    | str z =>
      refine s_if (b := false) (et_B (ed_isi (T := "tuple") (h1 H (Same.refl _)) (.inr (.inl rfl)))) (fun h => nomatch h) fun _ H1 s1 => ?_
      refine s_if (b := false) (et_test (ed_isN (h1 H1 s1))) (fun h => nomatch h) fun _ H2 s2 => ?_
      have s12 := s1.trans s2
      refine s_if (b := false) (et_test (ed_isB (h1 H2 s12))) (fun h => nomatch h) fun h H3 s3 => ?_
      have s13 := s12.trans s3
      refine s_if (b := false) (et_test (ed_isB (h1 H3 s13))) (fun h => nomatch h) fun h H4 s4 => ?_
      have s14 := s13.trans s4
      refine s_if (b := false) (et_B (ed_isi (T := "int") (h1 H4 s14) (.inr (.inr (.inr (.inl rfl)))))) (fun h => nomatch h) fun h H5 s5 => ?_
      have s15 := s14.trans s5
      exact s_retB (ed_andV (ed_isi (T := "str") (h0 H5 s15) (.inl rfl)) fun _ => ed_eqS (h0 H5 s15) (h1 H5 s15)) (by rw [decide_eq_true rfl]; rfl) fun H6 s6 => k H6 (s15.trans s6)
    | _ => cases hd
theorem ok_law_same0 : FnOk P w K mg base CX0 2 T.a_law_same T.d_law_same ["told", "due"] (spSame0 K) := step_same0 T 1 (no_ok 0 T.D_law_same sc_law_same)
end
end Ag

set_option Elab.async false
set_option linter.all false
set_option maxRecDepth 100000
set_option maxHeartbeats 1000000
namespace Ag
open PySem PySem.Spec PyProof.Rows L2
/-! ### duties as a type -/
inductive Kd | row | steps | never
def kdS : Kd → Str | .row => "row" | .steps => "steps" | .never => "never"
inductive Pl
  | call (w : Str)
  | answer (a b : Str)
  | many (k : Kd) (w : List Str)
def nmP : Pl → List Str | .call w => [w] | .answer a b => [a, b] | .many _ w => w
def kindS : Pl → Str | .call _ => "call" | .answer _ _ => "answer" | .many k _ => kdS k
def plD : Pl → PyData
  | .call w => .tuple [.str "call", .str w]
  | .answer a b => .tuple [.str "answer", .str a, .str b]
  | .many k w => .tuple [.str (kdS k), .tuple (w.map .str)]
/-- a plain duty that is right -/
structure OkP (p : Pl) : Prop where
  as : ∀ x ∈ nmP p, As 12 x
  len : 1 ≤ (nmP p).length ∧ (nmP p).length ≤ 4
  ans : ∀ a b, p = .answer a b → a ≠ b
def stepP : Pl → Nat → Str → Nat × Bool
  | .call w => fCall w
  | .answer a b => fAns a b
  | .many .row w => fRow w
  | .many .steps w => fSteps w
  | .many .never w => fNever w
/-- the states of a plain duty -/
def StP : Pl → Nat → Prop
  | .call _, s => s = 0
  | .answer _ _, s => s ≤ 1
  | .many .never w, s => s ≤ w.length
  | .many _ w, s => s < w.length
theorem stP_le {p : Pl} {s : Nat} (o : OkP p) (h : StP p s) : s ≤ 4 := by
  have l := o.len
  cases p with
  | call w => have h : s = 0 := h; omega
  | answer a b => have h : s ≤ 1 := h; omega
  | many k w =>
    have l : 1 ≤ w.length ∧ w.length ≤ 4 := l
    cases k
    · have h : s < w.length := h; omega
    · have h : s < w.length := h; omega
    · have h : s ≤ w.length := h; omega
theorem lng_lt {w mk : List Str} (h : 1 ≤ w.length) : lng w mk < w.length := by
  have := longest_le w mk (min (w.length - 1) mk.length)
  unfold lng; omega
theorem stP_zero {p : Pl} (o : OkP p) : StP p 0 := by
  have l := o.len
  cases p with
  | call w => rfl
  | answer a b => exact Nat.zero_le _
  | many k w =>
    have l : 1 ≤ w.length ∧ w.length ≤ 4 := l
    cases k
    · exact l.1
    · exact l.1
    · exact Nat.zero_le _
theorem stP_step {p : Pl} {s : Nat} {c : Str} (o : OkP p) (h : StP p s) : StP p (stepP p s c).1 := by
  have l := o.len
  cases p with
  | call w => rfl
  | answer a b =>
    rcases fA01 a b c s with q | q
    · show (fAns a b s c).1 ≤ 1; omega
    · show (fAns a b s c).1 ≤ 1; omega
  | many k w =>
    have l : 1 ≤ w.length ∧ w.length ≤ 4 := l
    cases k with
    | row => exact lng_lt l.1
    | steps =>
      have h : s < w.length := h
      show (fSteps w s c).1 < w.length
      unfold fSteps
      split
      · exact Nat.mod_lt _ l.1
      · exact h
    | never =>
      have h : s ≤ w.length := h
      show (fNever w s c).1 ≤ w.length
      unfold fNever
      split
      · exact h
      · split
        · show s + 1 ≤ w.length; omega
        · exact Nat.le_of_lt (lng_lt l.1)
theorem eqvTs : ∀ (xs ys : List Str), PyData.eqvAll (xs.map .str) (ys.map .str) = decide (xs = ys)
  | [], [] => by simp [PyData.eqvAll]
  | [], y :: ys => by simp [PyData.eqvAll]
  | x :: xs, [] => by simp [PyData.eqvAll]
  | x :: xs, y :: ys => by
    have i := eqvTs xs ys
    simp only [List.map_cons, PyData.eqvAll, PyData.eqv]
    rw [i]
    by_cases h : x = y
    · subst h; simp
    · simp [h]
theorem eqvT (xs ys : List Str) : PyData.eqv (.tuple (xs.map .str)) (.tuple (ys.map .str)) = decide (xs = ys) := by
  rw [PyData.eqv]; exact eqvTs xs ys
theorem as_gd {n : Nat} {x : Str} (h : As n x) (hn : n ≤ 1000) : gd (.str x) = true := by
  simp only [gd, Bool.and_eq_true, decide_eq_true_eq]
  refine ⟨Array.all_eq_true_iff_forall_mem.mpr fun c hc => decide_eq_true ?_, Nat.le_trans h.2 hn⟩
  have := h.1 c (Array.mem_toList_iff.mpr hc); omega
theorem strs_sh {ws : List Str} (h : ∀ x ∈ ws, As 12 x) (hl : ws.length ≤ 1000) : gd (.tuple (ws.map .str)) = true ∧ SeqAt.shaped (.tuple (ws.map .str)) = true := by
  have g : gd (.tuple (ws.map .str)) = true := by
    simp only [gd, Bool.and_eq_true, decide_eq_true_eq]
    refine ⟨gds_of fun y hy => ?_, by rw [List.length_map]; exact hl⟩
    obtain ⟨x, hx, rfl⟩ := List.mem_map.mp hy
    exact as_gd (h x hx) (by decide)
  refine ⟨g, ?_⟩
  have d := strs_depth ws
  have e : (PyData.tuple (ws.map .str)).depth = 1 + PyData.depthAll (ws.map .str) := by rw [PyData.depth]; first | rfl | omega
  unfold SeqAt.shaped
  rw [gd_lay g, Bool.true_and, e]
  exact decide_eq_true (by omega)
theorem cutD_map (xs : List Str) (lo hi : Option Int) : cutD (xs.map PyData.str) lo hi = (cutW xs lo hi).map .str := by
  unfold cutD cutW; rw [List.length_map, List.map_take, List.map_drop]
theorem cutW_take {xs : List Str} {k : Nat} (h : k ≤ xs.length) : cutW xs none (some (k : Int)) = xs.take k := by
  unfold cutW
  rw [HT.sIx_none, HT.sIx_nat, List.drop_zero, Nat.sub_zero, Nat.min_eq_left h]
theorem cutW_neg {xs : List Str} {k : Nat} (h1 : 1 ≤ k) (h : k ≤ xs.length) : cutW xs (some (-(k : Int))) none = xs.drop (xs.length - k) := by
  have e : HT.sIx xs.length 0 (some (-(k : Int))) = xs.length - k := by
    show (if -(k : Int) < 0 then (-(k : Int) + (xs.length : Int)).toNat else _) = _
    rw [if_pos (by omega)]; omega
  unfold cutW
  rw [e, HT.sIx_none]
  exact List.take_of_length_le (by rw [List.length_drop]; exact Nat.le_refl _)
section
variable {K : PySem.W.Frag} {σ : L2.St} {F : Addr → Prop} {H : Hp}
theorem dp_strsG {v : V} {xs : List Str} (h : Dp K H v (.tuple (xs.map .str))) : Df K F H v (.tuple (xs.map .str)) := dp_strsF h
theorem run_while {c : TT} {tb tz : TS} {D : Ends} {W : Nat → L2.St → Hp → Prop} {m0 : Nat} (h0 : W m0 σ H)
    (hs : ∀ m σ H, W m σ H → ∃ b, ET c σ H b ∧ (b = true → ∀ H1, Same H H1 → ∃ N : L2.St → Hp → Prop, (∀ σ' H', N σ' H' → ∃ m', m' < m ∧ W m' σ' H') ∧ tb { D with nx := N, ct := N, bk := tz D } σ H1) ∧ (b = false → ∀ H1, Same H H1 → tz D σ H1)) :
    tSeq (tWhile c tb) tz D σ H := ⟨W, ⟨m0, h0⟩, fun m σ H w => by
  obtain ⟨b, hc, h1, h2⟩ := hs m σ H w
  refine hc H (Same.refl _) _ fun H2 s2 => ?_
  cases b with
  | true => exact h1 rfl H2 s2
  | false => exact h2 rfl H2 s2⟩
end
section
variable {P : Program} {w : World} {K : PySem.W.Frag} {mg : Str → Option Value} {base : Heap} (T : Txt w K mg)
def spNm (K : PySem.W.Frag) : Sp := fun vs H Q _ => ∃ v p, vs = [v] ∧ Dp K H v (plD p) ∧ ∀ u H', Same H H' → Dp K H' u (.tuple ((nmP p).map .str)) → Q u H'
theorem rdc_nm {E : XK} {p : Pl} : RDC K (fun vs H Q => spNm K vs H Q E) [plD p] (.tuple ((nmP p).map .str)) := fun F vs H1 hv Q q => by
  obtain _ | ⟨hv, hn⟩ := hv
  cases hn
  exact ⟨_, p, rfl, df_dp hv, fun u H' s' hu => q u H' s' (dp_strsF hu)⟩
theorem ok_names_in : FnOk P w K mg base CX0 1 T.a_names_in T.d_names_in ["duty"] (spNm K) := by
  refine T.D_names_in.fn.ok sc_names_in (fun vs H Q E h => ?_) (fun cdv A outer s H vs Q E hr h => ?_)
  · obtain ⟨v, p, rfl, _⟩ := h; rfl
  · obtain ⟨v, p, rfl, hv, k⟩ := h
    refine ⟨_, (pss_cons (ps_if (pt_cmpR op_eq (pe_ix ix_seq (pv 0) pe_int (fun _ _ => rfl)) pe_str (nomark _)) (pss_one (ps_ret (pe_tup (pa_cons (pe_ix ix_seq (pv 0) pe_int (fun _ _ => rfl)) pa_nil)))) pss_nil)
      (pss_one (ps_ret (pe_ifExp (pt_cmpR op_eq (pe_ix ix_seq (pv 0) pe_int (fun _ _ => rfl)) pe_str (nomark _)) (pe_slice sl_tupA (pv 0) (po_some pe_int) po_none) (pe_ix ix_seq (pv 0) pe_int (fun _ _ => rfl)))))), ?_⟩
    have var : ∀ H1, Same H H1 → ED K (tVar 0) (start ["duty"] [v]) (nn H) H1 (plD p) := fun H1 s1 => ed_var rfl (df_mono s1 (fun _ z => z) (dp_df hv))
    cases p with
    | call c =>
      refine s_if (b := true) (et_is (et_test (ed_eqS (ed_ixT (j := 0) (d := .str "call") (var H (Same.refl _)) ed_int rfl) (ed_str (x := "call")))) (by decide)) (fun _ H1 s1 => ?_) (fun h => nomatch h)
      exact s_ret (ed_tup (ea_cons (ed_ixT (j := 1) (d := .str c) (var H1 s1) ed_int rfl) ea_nil) (by show 1 ≤ 100000; decide)) fun u H' s' hu => k u H' (s1.trans s') (df_dp hu)
    | answer a b =>
      refine s_if (b := false) (et_is (et_test (ed_eqS (ed_ixT (j := 0) (d := .str "answer") (var H (Same.refl _)) ed_int rfl) (ed_str (x := "call")))) (by decide)) (fun h => nomatch h) (fun _ H1 s1 => ?_)
      refine s_ret (d := .tuple ([a, b].map .str)) (ed_if (et_is (b := true) (et_test (ed_eqS (ed_ixT (j := 0) (d := .str "answer") (var H1 s1) ed_int rfl) (ed_str (x := "answer")))) (by decide)) (fun _ => ed_is (ed_slT (var H1 s1) (eo_some (K := K) (F := nn H) (ed_int (i := 1))) eo_none) ?_) (fun h => nomatch h)) fun u H' s' hu => k u H' (s1.trans s') (df_dp hu)
      rfl
    | many kd ws =>
      have n1 : decide (kdS kd = "call") = false := by cases kd <;> decide
      have n2 : decide (kdS kd = "answer") = false := by cases kd <;> decide
      refine s_if (b := false) (et_is (et_test (ed_eqS (ed_ixT (j := 0) (d := .str (kdS kd)) (var H (Same.refl _)) ed_int rfl) (ed_str (x := "call")))) n1) (fun h => nomatch h) (fun _ H1 s1 => ?_)
      exact s_ret (d := .tuple (ws.map .str)) (ed_if (et_is (b := false) (et_test (ed_eqS (ed_ixT (j := 0) (d := .str (kdS kd)) (var H1 s1) ed_int rfl) (ed_str (x := "answer")))) n2) (fun h => nomatch h) (fun _ => ed_ixT (j := 1) (var H1 s1) ed_int rfl)) fun u H' s' hu => k u H' (s1.trans s') (df_dp hu)
def spLng (K : PySem.W.Frag) : Sp := fun vs H Q _ => ∃ v u ws mk, vs = [v, u] ∧ Dp K H v (.tuple (ws.map .str)) ∧ Dp K H u (.tuple (mk.map .str)) ∧ (∀ x ∈ ws, As 12 x) ∧ (∀ x ∈ mk, As 12 x) ∧ 1 ≤ ws.length ∧ ws.length ≤ 900 ∧ mk.length ≤ 900 ∧ ∀ H', Same H H' → Q (.int (lng ws mk : Nat)) H'
theorem rdc_lng {E : XK} {ws mk : List Str} (a1 : ∀ x ∈ ws, As 12 x) (a2 : ∀ x ∈ mk, As 12 x) (l1 : 1 ≤ ws.length) (l2 : ws.length ≤ 900) (l3 : mk.length ≤ 900) : RDC K (fun vs H Q => spLng K vs H Q E) [.tuple (ws.map .str), .tuple (mk.map .str)] (.int (lng ws mk : Nat)) := fun F vs H1 hv Q q => by
  obtain _ | ⟨hv, hn⟩ := hv
  obtain _ | ⟨hu, hn⟩ := hn
  cases hn
  exact ⟨_, _, ws, mk, rfl, df_dp hv, df_dp hu, a1, a2, l1, l2, l3, fun H' s => q _ H' s (.int _)⟩
theorem ok_longest : FnOk P w K mg base CX0 1 T.a_longest_start T.d_longest_start ["word", "made"] (spLng K) := by
  refine T.D_longest_start.fn.ok sc_longest_start (fun vs H Q E h => ?_) (fun cdv A outer s H vs Q E hr h => ?_)
  · obtain ⟨v, u, ws, mk, rfl, _⟩ := h; rfl
  · obtain ⟨v, u, ws, mk, rfl, hv, hu, a1, a2, l1, l2, l3, k⟩ := h
    refine ⟨_, (pss_cons (ps_set (i := 2) sc_longest_start.nd rfl (by first | exact Or.inl rfl | exact Or.inr rfl) (pe_callB (call_min2 rfl) (by rfl) T.b_min bt_min (pa_cons (pe_op op_sub (pe_callB call_len (by rfl) T.b_len bt_len (pa_cons (pv 0) pa_nil)) pe_int) (pa_cons (pe_callB call_len (by rfl) T.b_len bt_len (pa_cons (pv 1) pa_nil)) pa_nil))))
      (pss_cons (ps_while PassesOwn.never (PW.pt (pw_and (pt_cmpR op_gt (pv 2) pe_int (nomark _)) (pw_and1 (pt_cmpR (op_neD hr.units) (pe_slice sl_tupA (pv 1) (po_some (pe_un un_neg (pv 2))) po_none) (pe_slice sl_tupA (pv 0) po_none (po_some (pv 2))) (nomark _))))) (pss_one (ps_aug (i := 2) sc_longest_start.nd rfl (by first | exact Or.inl rfl | exact Or.inr rfl) pe_int ip_sub)))
      (pss_one (ps_ret (pv 2))))), ?_⟩
    have e1 : lenP (.tuple (ws.map PyData.str)) = ws.length := List.length_map _
    have e2 : lenP (.tuple (mk.map PyData.str)) = mk.length := List.length_map _
    refine s_set (K := K) (F := nn H) (d := .int ((min (ws.length - 1) mk.length : Nat) : Int)) (ed_cb (ea_cons (ed_sub (ed_len (ed_var rfl (dp_df hv)) rfl) (ed_int (i := 1))) (ea_cons (ed_len (ed_var rfl (dp_df hu)) rfl) ea_nil)) fun F vs H1 hvs Q q => ?_) fun mv H1 s1 hmv => ?_
    · obtain _ | ⟨h1, hn⟩ := hvs
      obtain _ | ⟨h2, hn⟩ := hn
      cases hn; cases h1; cases h2
      refine ⟨_, _, rfl, ?_⟩
      rw [e1, e2]
      have e3 : (if ((mk.length : Int) < (ws.length : Int) - 1) then (mk.length : Int) else (ws.length : Int) - 1) = ((min (ws.length - 1) mk.length : Nat) : Int) := by split <;> omega
      rw [e3]; exact q _ _ (Same.refl _) (.int _)
    · cases hmv
      refine run_while (W := fun m σ' H' => σ' = [some v, some u, some (.int (m : Nat))] ∧ Same H H' ∧ m ≤ ws.length - 1 ∧ m ≤ mk.length ∧ longest ws mk m = lng ws mk) (m0 := min (ws.length - 1) mk.length) ⟨rfl, s1, by omega, by omega, rfl⟩ ?_
      rintro m σ' H' ⟨rfl, s2, m1, m2, hl⟩
      have dv : ∀ H5, Same H' H5 → ED K (tVar 0) [some v, some u, some (.int (m : Nat))] (nn H5) H5 (.tuple (ws.map .str)) := fun H5 s5 => ed_var rfl (dp_df (dp_mono (s2.trans s5) hv))
      have du : ∀ H5, Same H' H5 → ED K (tVar 1) [some v, some u, some (.int (m : Nat))] (nn H5) H5 (.tuple (mk.map .str)) := fun H5 s5 => ed_var rfl (dp_df (dp_mono (s2.trans s5) hu))
      have dm : ∀ H5, ED K (tVar 2) [some v, some u, some (.int (m : Nat))] (nn H5) H5 (.int (m : Nat)) := fun H5 => ed_var rfl (.int _)
      by_cases hm : m = 0
      · subst hm
        refine ⟨false, et_is (et_and (b := false) (et_test (ed_gt (dm H') (ed_int (i := 0)))) fun h => nomatch h) rfl, (fun h => nomatch h), fun _ H5 s5 => ?_⟩
        refine s_ret (dm H5) fun z H6 s6 hz => ?_
        cases hz
        have : (0 : Nat) = lng ws mk := hl
        rw [this]; exact k H6 ((s2.trans s5).trans s6)
      · have c1 : cutW mk (some (-(m : Int))) none = mk.drop (mk.length - m) := cutW_neg (by omega) m2
        have c2 : cutW ws none (some (m : Int)) = ws.take m := cutW_take (by omega)
        have d1 : ED K (tSl (rSlA K) (tVar 1) (tPart (tUn (rU fun i => .int (-i)) (tVar 2))) tNoPart) [some v, some u, some (.int (m : Nat))] (nn H') H' (.tuple ((mk.drop (mk.length - m)).map .str)) :=
          ed_is (ed_slT (du H' (Same.refl _)) (eo_some (K := K) (F := nn H') (i := -(m : Int)) (fun H1 s Q q => ⟨_, rfl, _, rfl, q _ _ (Same.refl _) (.int _)⟩)) eo_none) (by rw [cutD_map, c1])
        have d2 : ED K (tSl (rSlA K) (tVar 0) tNoPart (tPart (tVar 2))) [some v, some u, some (.int (m : Nat))] (nn H') H' (.tuple ((ws.take m).map .str)) :=
          ed_is (ed_slT (dv H' (Same.refl _)) eo_none (eo_some (K := K) (F := nn H') (dm H'))) (by rw [cutD_map, c2])
        have g1 := (strs_sh (ws := mk.drop (mk.length - m)) (fun x hx => a2 x (List.mem_of_mem_drop hx)) (by rw [List.length_drop]; omega)).2
        have g2 := (strs_sh (ws := ws.take m) (fun x hx => a1 x (List.mem_of_mem_take hx)) (by rw [List.length_take]; omega)).2
        refine ⟨!decide (mk.drop (mk.length - m) = ws.take m), et_is (et_and (et_test (ed_gt (dm H') (ed_int (i := 0)))) fun _ => et_test (ed_neD d1 d2 g1 g2)) ?_, fun hb H5 s5 => ?_, fun hb H5 s5 => ?_⟩
        · rw [decide_eq_true (by omega : (0 : Int) < (m : Int)), eqvT]; rfl
        · refine ⟨fun σ2 H2 => σ2 = [some v, some u, some (.int ((m - 1 : Nat) : Int))] ∧ H2 = H5, fun σ2 H2 ⟨q1, q2⟩ => ⟨m - 1, by omega, q1, by rw [q2]; exact s2.trans s5, by omega, by omega, ?_⟩, ?_⟩
          · obtain ⟨j, rfl⟩ : ∃ j, m = j + 1 := ⟨m - 1, by omega⟩
            have hne : ¬ mk.drop (mk.length - (j + 1)) = ws.take (j + 1) := fun q => by rw [decide_eq_true q] at hb; cases hb
            rw [← hl]
            show longest ws mk j = _
            conv => rhs; unfold longest
            rw [if_neg hne]
          · refine ⟨_, rfl, _, _, rfl, rfl, ?_, rfl⟩
            show [some v, some u, some (V.int ((m : Int) - 1))] = _
            rw [show (m : Int) - 1 = ((m - 1 : Nat) : Int) by omega]
        · have he : mk.drop (mk.length - m) = ws.take m := by
            by_cases q : mk.drop (mk.length - m) = ws.take m
            · exact q
            · rw [decide_eq_false q] at hb; cases hb
          refine s_ret (dm H5) fun z H6 s6 hz => ?_
          cases hz
          have : m = lng ws mk := by
            rw [← hl]
            obtain ⟨j, rfl⟩ : ∃ j, m = j + 1 := ⟨m - 1, by omega⟩
            conv => rhs; unfold longest
            rw [if_pos he]
          show Q (.int (m : Nat)) H6
          rw [this]; exact k H6 ((s2.trans s5).trans s6)
end
end Ag

set_option Elab.async false
set_option linter.all false
set_option maxRecDepth 100000
set_option maxHeartbeats 1000000
namespace Ag
open PySem PySem.Spec PyProof.Rows L2
section
variable {K : PySem.W.Frag} {σ : L2.St} {F : Addr → Prop} {H : Hp}
theorem run_par {i j : Nat} {ta : TA} {D : Ends} {d e : PyData} (h : EA K ta σ F H [d, e]) (k : ∀ v w H1, Same H H1 → Df K (Fr F H) H1 v d → Df K (Fr F H) H1 w e → D.nx ((σ.set i (some v)).set j (some w)) H1) : tPar i j ta D σ H := h H (Same.refl _) _ fun vs H1 s1 hv => by
  obtain _ | ⟨h1, hv⟩ := hv
  obtain _ | ⟨h2, hv⟩ := hv
  cases hv
  exact ⟨_, _, rfl, k _ _ H1 s1 h1 h2⟩
end
/-- a step's answer -/
def outD (r : Nat × Bool) : PyData := .tuple [.int (r.1 : Nat), .bool r.2]
section
variable {P : Program} {w : World} {K : PySem.W.Frag} {mg : Str → Option Value} {base : Heap} (T : Txt w K mg)
def spBeh (K : PySem.W.Frag) : Sp := fun vs H Q _ => ∃ v p c, ∃ s : Nat, vs = [v, .int (s : Nat), .str c] ∧ Dp K H v (plD p) ∧ OkP p ∧ StP p s ∧ As 12 c ∧ ∀ u H', Same H H' → Dp K H' u (outD (stepP p s c)) → Q u H'
theorem ok_behind_plain : FnOk P w K mg base CX0 2 T.a_behind_plain T.d_behind_plain ["duty", "state", "call"] (spBeh K) := by
  have G_names_in := ok_names_in (P := P) (base := base) T
  have G_longest_start := ok_longest (P := P) (base := base) T
  refine T.D_behind_plain.fn.ok sc_behind_plain (fun vs H Q E h => ?_) (fun cdv A outer s H vs Q E hr h => ?_)
  · obtain ⟨v, p, c, s, rfl, _⟩ := h; rfl
  · obtain ⟨v, p, c, n, rfl, hv, ok, st, hc, k⟩ := h
    refine ⟨_, (pss_cons (ps_par (i := 3) (j := 4) (by rfl) sc_behind_plain.nd rfl rfl (by decide) rfl rfl (pa_cons (pe_ix ix_seq (pv 0) pe_int (fun _ _ => rfl)) (pa_cons (pe_call (G_names_in) (hr.mono (by omega)) (by rfl) T.D_names_in.mg T.D_names_in.fn.kp T.D_names_in.bd .nil pass0 (pa_cons (pv 0) pa_nil)) pa_nil)) (by rfl))
      (pss_cons (ps_if (pt_cmpR op_eq (pv 3) pe_str (nomark _)) (pss_one (ps_ret (pe_tup (pa_cons pe_int (pa_cons (pe_cmpR op_eq (pv 2) (pe_ix ix_seq (pv 4) pe_int (fun _ _ => rfl)) (nomark _)) pa_nil))))) pss_nil)
      (pss_cons (ps_if (pt_cmpR op_eq (pv 3) pe_str (nomark _)) (pss_cons (ps_if (pt_cmpR op_ne (pv 2) (pe_ix ix_seq (pv 4) (pv 1) (fun _ _ => rfl)) (nomark _)) (pss_one (ps_ret (pe_tup (pa_cons (pv 1) (pa_cons pe_bl pa_nil))))) pss_nil)
      (pss_one (ps_ret (pe_tup (pa_cons (pe_op op_mod (pe_op op_add (pv 1) pe_int) (pe_callB call_len (by rfl) T.b_len bt_len (pa_cons (pv 4) pa_nil))) (pa_cons (pe_cmpR op_eq (pe_op op_add (pv 1) pe_int) (pe_callB call_len (by rfl) T.b_len bt_len (pa_cons (pv 4) pa_nil)) (nomark _)) pa_nil)))))) pss_nil)
      (pss_cons (ps_if (pt_cmpR op_eq (pv 3) pe_str (nomark _)) (pss_cons (ps_set (i := 5) sc_behind_plain.nd rfl (by first | exact Or.inl rfl | exact Or.inr rfl) (pe_ifExp (pt_cmpR op_eq (pv 1) pe_int (nomark _)) (pe_cmpR op_eq (pv 2) (pe_ix ix_seq (pv 4) pe_int (fun _ _ => rfl)) (nomark _)) (pe_cmpR op_ne (pv 2) (pe_ix ix_seq (pv 4) pe_int (fun _ _ => rfl)) (nomark _))))
      (pss_one (ps_ret (pe_ifExp (pt_val (pv 5)) (pe_tup (pa_cons pe_int (pa_cons pe_bl pa_nil))) (pe_tup (pa_cons pe_int (pa_cons pe_bl pa_nil))))))) pss_nil)
      (pss_cons (ps_if (PW.pt (pw_and (pt_cmpR op_eq (pv 3) pe_str (nomark _)) (pw_and1 (pt_cmpR op_eq (pv 1) (pe_callB call_len (by rfl) T.b_len bt_len (pa_cons (pv 4) pa_nil)) (nomark _))))) (pss_one (ps_ret (pe_tup (pa_cons (pv 1) (pa_cons pe_bl pa_nil))))) pss_nil)
      (pss_cons (ps_set (i := 6) sc_behind_plain.nd rfl (by first | exact Or.inl rfl | exact Or.inr rfl) (pe_op op_catA (pe_slice sl_tupA (pv 4) po_none (po_some (pv 1))) (pe_tup (pa_cons (pv 2) pa_nil))))
      (pss_cons (ps_if (pt_cmpR (op_eqD hr.units) (pv 6) (pv 4) (nomark _)) (pss_one (ps_ret (pe_ifExp (pt_cmpR op_eq (pv 3) pe_str (nomark _)) (pe_tup (pa_cons (pe_op op_add (pv 1) pe_int) (pa_cons pe_bl pa_nil))) (pe_tup (pa_cons (pe_call (G_longest_start) (hr.mono (by omega)) (by rfl) T.D_longest_start.mg T.D_longest_start.fn.kp T.D_longest_start.bd .nil pass0 (pa_cons (pv 4) (pa_cons (pv 6) pa_nil))) (pa_cons pe_bl pa_nil)))))) pss_nil)
      (pss_one (ps_ret (pe_tup (pa_cons (pe_call (G_longest_start) (hr.mono (by omega)) (by rfl) T.D_longest_start.mg T.D_longest_start.fn.kp T.D_longest_start.bd .nil pass0 (pa_cons (pv 4) (pa_cons (pv 6) pa_nil))) (pa_cons (pe_cmpR op_eq (pv 3) pe_str (nomark _)) pa_nil)))))))))))), ?_⟩
    have kd0 : ∃ rest, plD p = .tuple (.str (kindS p) :: rest) := by cases p <;> exact ⟨_, rfl⟩
    obtain ⟨rest, kd0⟩ := kd0
    refine run_par (K := K) (F := nn H) (d := .str (kindS p)) (e := .tuple ((nmP p).map .str)) (ea_cons (ed_ixT (j := 0) (ds := .str (kindS p) :: rest) (ed_var rfl (dp_df (kd0 ▸ hv))) ed_int rfl) (ea_cons (ed_call (ea_cons (ed_var rfl (dp_df hv)) ea_nil) rdc_nm) ea_nil)) fun kv nv H1 s1 hkv hnv => ?_
    cases hkv
    have dn : ∀ H2, Same H1 H2 → Dp K H2 nv (.tuple ((nmP p).map .str)) := fun H2 s2 => dp_mono s2 (df_dp hnv)
    let σ1 : L2.St := [some v, some (.int (n : Nat)), some (.str c), some (.str (kindS p)), some nv, none, none]
    have kt : ∀ (z : Str) H2, ET (tTest (tOp rEq (tVar 3) (tC (.str z)))) σ1 H2 (decide (kindS p = z)) := fun z H2 => et_test (ed_eqS (K := K) (F := nn H2) (ed_var rfl (.str _)) ed_str)
    have vn : ∀ H2, ED K (tVar 1) σ1 (nn H2) H2 (.int (n : Nat)) := fun H2 => ed_var rfl (.int _)
    have vc : ∀ H2, ED K (tVar 2) σ1 (nn H2) H2 (.str c) := fun H2 => ed_var rfl (.str _)
    have vw : ∀ H2, Same H1 H2 → ED K (tVar 4) σ1 (nn H2) H2 (.tuple ((nmP p).map .str)) := fun H2 s2 => ed_var rfl (dp_df (dn H2 s2))
    have ix : ∀ (j : Nat) (x : Str) (te : TE) H2, Same H1 H2 → (nmP p)[j]? = some x → ED K te σ1 (nn H2) H2 (.int (j : Nat)) → ED K (tOp (rIx K) (tVar 4) te) σ1 (nn H2) H2 (.str x) := fun j x te H2 s2 hx ht => ed_ixT (j := j) (vw H2 s2) ht (by rw [List.getElem?_map, hx]; rfl)
    have fin : ∀ {u H2}, Same H1 H2 → Dp K H2 u (outD (stepP p n c)) → Q u H2 := fun s2 hu => k _ _ (s1.trans s2) hu
    have el : lenP (.tuple ((nmP p).map PyData.str)) = (nmP p).length := List.length_map _
    have lenE : ∀ H2, Same H1 H2 → ED K (tCB (fun xs H Q => ∃ x n, xs = [x] ∧ LenV K x H n ∧ Q (.int n) H) (tCons (tVar 4) tNil)) σ1 (nn H2) H2 (.int ((nmP p).length : Nat)) := fun H2 s2 => ed_is (ed_len (vw H2 s2) rfl) (by rw [el])
    cases p with
    | call w0 =>
      refine s_if (b := true) (et_is (kt "call" H1) (by first | exact decide_eq_true rfl | exact decide_eq_false (by dsimp only [kindS, kdS]; decide))) (fun _ H2 s2 => ?_) (fun h => nomatch h)
      exact s_ret (ed_tup (ea_cons (ed_int (i := ((0 : Nat) : Int))) (ea_cons (ed_eqS (vc H2) (ix 0 w0 _ H2 s2 rfl ed_int)) ea_nil)) (by show 2 ≤ 100000; decide)) fun u H3 s3 hu => fin (s2.trans s3) (df_dp hu)
    | answer a b =>
      refine s_if (b := false) (et_is (kt "call" H1) (by first | exact decide_eq_true rfl | exact decide_eq_false (by dsimp only [kindS, kdS]; decide))) (fun h => nomatch h) (fun _ H2 s2 => ?_)
      refine s_if (b := false) (et_is (kt "steps" H2) (by first | exact decide_eq_true rfl | exact decide_eq_false (by dsimp only [kindS, kdS]; decide))) (fun h => nomatch h) (fun _ H3 s3 => ?_)
      refine s_if (b := true) (et_is (kt "answer" H3) (by first | exact decide_eq_true rfl | exact decide_eq_false (by dsimp only [kindS, kdS]; decide))) (fun _ H4 s4 => ?_) (fun h => nomatch h)
      have s14 := (s2.trans s3).trans s4
      refine s_set (K := K) (F := nn H4) (d := .bool (if n = 0 then decide (c = a) else !decide (c = b))) (ed_if (et_test (ed_eqI (vn H4) (ed_int (i := 0)))) (fun hb => ed_is (ed_eqS (vc H4) (ix 0 a _ H4 s14 rfl ed_int)) ?_) (fun hb => ed_is (ed_neS (vc H4) (ix 1 b _ H4 s14 rfl ed_int)) ?_)) fun dv H5 s5 hdv => ?_
      · have : n = 0 := by have := of_decide_eq_true hb; omega
        rw [if_pos this]
      · have : ¬ n = 0 := by have := of_decide_eq_false hb; omega
        rw [if_neg this]
      · cases hdv
        generalize hdue : (if n = 0 then decide (c = a) else !decide (c = b)) = due
        have e : stepP (.answer a b) n c = if due then (1, false) else (0, true) := by
          show fAns a b n c = _
          unfold fAns; rw [hdue]
        rw [e] at fin
        refine s_ret (K := K) (F := nn H5) (d := outD (if due then (1, false) else (0, true))) (ed_if (et_B (K := K) (F := nn H5) (ed_var rfl (.bl due))) (fun hb => ed_is (ed_tup (ea_cons (ed_int (i := ((1 : Nat) : Int))) (ea_cons ed_bl ea_nil)) (by show 2 ≤ 100000; decide)) ?_) (fun hb => ed_is (ed_tup (ea_cons (ed_int (i := ((0 : Nat) : Int))) (ea_cons ed_bl ea_nil)) (by show 2 ≤ 100000; decide)) ?_)) fun u H6 s6 hu => fin ((s14.trans s5).trans s6) (df_dp hu)
        · rw [hb]; rfl
        · rw [hb]; rfl
    | many kd ws =>
      have hl : 1 ≤ ws.length ∧ ws.length ≤ 4 := ok.len
      have n1 : decide (kindS (.many kd ws) = "call") = false := by cases kd <;> (first | exact decide_eq_true rfl | exact decide_eq_false (by dsimp only [kindS, kdS]; decide))
      have n3 : decide (kindS (.many kd ws) = "answer") = false := by cases kd <;> (first | exact decide_eq_true rfl | exact decide_eq_false (by dsimp only [kindS, kdS]; decide))
      refine s_if (b := false) (et_is (kt "call" H1) n1) (fun h => nomatch h) (fun _ H2 s2 => ?_)
      by_cases hsteps : kd = .steps
      · subst hsteps
        have hst : n < ws.length := st
        refine s_if (b := true) (et_is (kt "steps" H2) (by first | exact decide_eq_true rfl | exact decide_eq_false (by dsimp only [kindS, kdS]; decide))) (fun _ H3 s3 => ?_) (fun h => nomatch h)
        have s13 := s2.trans s3
        refine s_if (et_test (ed_neS (vc H3) (ix n (ws[n]'hst) _ H3 s13 (List.getElem?_eq_getElem hst) (vn H3)))) (fun hb H4 s4 => ?_) (fun hb H4 s4 => ?_)
        · have e : stepP (.many .steps ws) n c = (n, false) := by
            show fSteps ws n c = _
            unfold fSteps
            rw [if_neg fun q => by
              rw [List.getElem?_eq_getElem hst] at q
              rw [← Option.some.inj q, decide_eq_true rfl] at hb; cases hb]
          rw [e] at fin
          exact s_ret (ed_tup (ea_cons (vn H4) (ea_cons ed_bl ea_nil)) (by show 2 ≤ 100000; decide)) fun u H5 s5 hu => fin ((s13.trans s4).trans s5) (df_dp hu)
        · have hcw : ws[n]'hst = c := by
            by_cases q : c = ws[n]'hst
            · exact q.symm
            · rw [decide_eq_false q] at hb; cases hb
          have e : stepP (.many .steps ws) n c = ((n + 1) % ws.length, decide (n + 1 = ws.length)) := by
            show fSteps ws n c = _
            unfold fSteps
            rw [if_pos (by rw [List.getElem?_eq_getElem hst, hcw])]
          rw [e] at fin
          have s14 := s13.trans s4
          refine s_ret (K := K) (F := nn H4) (d := outD ((n + 1) % ws.length, decide (n + 1 = ws.length))) (ed_is (ed_tup (ea_cons (ed_op (ed_add (vn H4) (ed_int (i := 1))) (lenE H4 s14) (rd_int (C := fun _ j => 0 < j) (g := fun i j => i % j) (by show (0 : Int) < (ws.length : Int); omega))) (ea_cons (ed_eqI (ed_add (vn H4) (ed_int (i := 1))) (lenE H4 s14)) ea_nil)) (by show 2 ≤ 100000; decide)) ?_) fun u H5 s5 hu => fin (s14.trans s5) (df_dp hu)
          have e1 : ((n : Int) + 1) % (ws.length : Int) = (((n + 1) % ws.length : Nat) : Int) := by rw [Int.natCast_emod]; rfl
          have e2 : decide ((n : Int) + 1 = ((nmP (.many .steps ws)).length : Int)) = decide (n + 1 = ws.length) := by
            have : (nmP (.many .steps ws)).length = ws.length := rfl
            rw [this]
            by_cases q : n + 1 = ws.length
            · rw [decide_eq_true q, decide_eq_true (by omega)]
            · rw [decide_eq_false q, decide_eq_false (by omega)]
          show PyData.tuple [.int (((n : Int) + 1) % (ws.length : Int)), .bool _] = _
          rw [e1, e2]; rfl
      · have n2 : decide (kindS (.many kd ws) = "steps") = false := by
          cases kd with
          | row => first | exact decide_eq_true rfl | exact decide_eq_false (by dsimp only [kindS, kdS]; decide)
          | steps => exact absurd rfl hsteps
          | never => first | exact decide_eq_true rfl | exact decide_eq_false (by dsimp only [kindS, kdS]; decide)
        refine s_if (b := false) (et_is (kt "steps" H2) n2) (fun h => nomatch h) (fun _ H3 s3 => ?_)
        refine s_if (b := false) (et_is (kt "answer" H3) n3) (fun h => nomatch h) (fun _ H4 s4 => ?_)
        have s14 := (s2.trans s3).trans s4
        have made : ∀ H5, Same H1 H5 → ED K (tOp (rCatA K) (tSl (rSlA K) (tVar 4) tNoPart (tPart (tVar 1))) (tTup (tCons (tVar 2) tNil))) σ1 (nn H5) H5 (.tuple ((ws.take n ++ [c]).map .str)) := fun H5 s5 => by
          have hn : n ≤ ws.length := by
            cases kd with
            | row => have : n < ws.length := st; omega
            | steps => exact absurd rfl hsteps
            | never => exact st
          refine ed_is (ed_catT (ed_is (ed_slT (vw H5 s5) eo_none (eo_some (K := K) (F := nn H5) (vn H5))) (show _ = PyData.tuple ((ws.take n).map .str) by
            rw [cutD_map]
            show PyData.tuple ((cutW ws none (some (n : Int))).map .str) = _
            rw [cutW_take hn])) (ed_tup (ea_cons (vc H5) ea_nil) (by show 1 ≤ 100000; decide)) (by rw [List.length_map, List.length_take]; show _ + 1 ≤ _; omega)) ?_
          rw [List.map_append]; rfl
        have am : ∀ x ∈ ws.take n ++ [c], As 12 x := fun x hx => (List.mem_append.mp hx).elim (fun q => ok.as x (List.mem_of_mem_take q)) fun q => by rw [List.mem_singleton.mp q]; exact hc
        have lm : (ws.take n ++ [c]).length ≤ 5 := by rw [List.length_append, List.length_take]; show _ + 1 ≤ 5; omega
        have shm := (strs_sh am (by omega)).2
        have shw := (strs_sh (ws := ws) ok.as (by omega)).2
        cases kd with
        | steps => exact absurd rfl hsteps
        | row =>
          refine s_if (b := false) (et_is (et_and (a := false) (b := false) (et_is (kt "never" H4) (by first | exact decide_eq_true rfl | exact decide_eq_false (by dsimp only [kindS, kdS]; decide))) fun h => nomatch h) rfl) (fun h => nomatch h) (fun _ H5 s5 => ?_)
          refine s_set (made H5 (s14.trans s5)) fun mv H6 s6 hmv => ?_
          have s16 := (s14.trans s5).trans s6
          have vm : ∀ H7, Same H6 H7 → ED K (tVar 6) [some v, some (.int (n : Nat)), some (.str c), some (.str (kindS (.many .row ws))), some nv, none, some mv] (nn H7) H7 (.tuple ((ws.take n ++ [c]).map .str)) := fun H7 s7 => ed_var rfl (dp_df (dp_mono s7 (df_dp hmv)))
          have vw6 : ∀ H7, Same H6 H7 → ED K (tVar 4) [some v, some (.int (n : Nat)), some (.str c), some (.str (kindS (.many .row ws))), some nv, none, some mv] (nn H7) H7 (.tuple (ws.map .str)) := fun H7 s7 => ed_var rfl (dp_df (dn H7 (s16.trans s7)))
          have kt6 : ∀ H7, ET (tTest (tOp rEq (tVar 3) (tC (.str "never")))) [some v, some (.int (n : Nat)), some (.str c), some (.str (kindS (.many .row ws))), some nv, none, some mv] H7 false := fun H7 => et_is (et_test (ed_eqS (K := K) (F := nn H7) (ed_var rfl (.str _)) ed_str)) (by first | exact decide_eq_true rfl | exact decide_eq_false (by dsimp only [kindS, kdS]; decide))
          have e : stepP (.many .row ws) n c = (lng ws (ws.take n ++ [c]), decide (ws.take n ++ [c] = ws)) := rfl
          rw [e] at fin
          refine s_if (et_is (et_test (ed_eqD (vm H6 (Same.refl _)) (vw6 H6 (Same.refl _)) shm shw)) (eqvT _ _)) (fun hb H7 s7 => ?_) (fun hb H7 s7 => ?_)
          · rw [hb] at fin
            exact s_ret (ed_if (kt6 H7) (fun h => nomatch h) (fun _ => ed_tup (ea_cons (ed_call (ea_cons (vw6 H7 s7) (ea_cons (vm H7 s7) ea_nil)) (rdc_lng ok.as am hl.1 (by omega) (by omega))) (ea_cons ed_bl ea_nil)) (by show 2 ≤ 100000; decide))) fun u H8 s8 hu => fin ((s16.trans s7).trans s8) (df_dp hu)
          · rw [hb] at fin
            have kb6 : ED K (tOp rEq (tVar 3) (tC (.str "never"))) [some v, some (.int (n : Nat)), some (.str c), some (.str (kindS (.many .row ws))), some nv, none, some mv] (nn H7) H7 (.bool false) := ed_is (ed_eqS (ed_var rfl (.str _)) ed_str) (congrArg PyData.bool (by first | exact decide_eq_true rfl | exact decide_eq_false (by dsimp only [kindS, kdS]; decide)))
            exact s_ret (ed_tup (ea_cons (ed_call (ea_cons (vw6 H7 s7) (ea_cons (vm H7 s7) ea_nil)) (rdc_lng ok.as am hl.1 (by omega) (by omega))) (ea_cons kb6 ea_nil)) (by show 2 ≤ 100000; decide)) fun u H8 s8 hu => fin ((s16.trans s7).trans s8) (df_dp hu)
        | never =>
          have hst : n ≤ ws.length := st
          refine s_if (et_and (et_is (kt "never" H4) (by first | exact decide_eq_true rfl | exact decide_eq_false (by dsimp only [kindS, kdS]; decide) : _ = true)) fun _ => et_test (ed_eqI (vn H4) (lenE H4 s14))) (fun hb H5 s5 => ?_) (fun hb H5 s5 => ?_)
          · have hn : n = ws.length := by
              have := of_decide_eq_true hb
              have e : (nmP (.many .never ws)).length = ws.length := rfl
              rw [e] at this; omega
            have e : stepP (.many .never ws) n c = (n, false) := by
              show fNever ws n c = _
              unfold fNever; rw [if_pos hn]
            rw [e] at fin
            exact s_ret (ed_tup (ea_cons (vn H5) (ea_cons ed_bl ea_nil)) (by show 2 ≤ 100000; decide)) fun u H6 s6 hu => fin ((s14.trans s5).trans s6) (df_dp hu)
          · have hn : ¬ n = ws.length := by
              have := of_decide_eq_false hb
              have e : (nmP (.many .never ws)).length = ws.length := rfl
              rw [e] at this; omega
            refine s_set (made H5 (s14.trans s5)) fun mv H6 s6 hmv => ?_
            have s16 := (s14.trans s5).trans s6
            have vm : ∀ H7, Same H6 H7 → ED K (tVar 6) [some v, some (.int (n : Nat)), some (.str c), some (.str (kindS (.many .never ws))), some nv, none, some mv] (nn H7) H7 (.tuple ((ws.take n ++ [c]).map .str)) := fun H7 s7 => ed_var rfl (dp_df (dp_mono s7 (df_dp hmv)))
            have vw6 : ∀ H7, Same H6 H7 → ED K (tVar 4) [some v, some (.int (n : Nat)), some (.str c), some (.str (kindS (.many .never ws))), some nv, none, some mv] (nn H7) H7 (.tuple (ws.map .str)) := fun H7 s7 => ed_var rfl (dp_df (dn H7 (s16.trans s7)))
            have vn6 : ∀ H7, ED K (tVar 1) [some v, some (.int (n : Nat)), some (.str c), some (.str (kindS (.many .never ws))), some nv, none, some mv] (nn H7) H7 (.int (n : Nat)) := fun H7 => ed_var rfl (.int _)
            have kt6 : ∀ H7, ET (tTest (tOp rEq (tVar 3) (tC (.str "never")))) [some v, some (.int (n : Nat)), some (.str c), some (.str (kindS (.many .never ws))), some nv, none, some mv] H7 true := fun H7 => et_is (et_test (ed_eqS (K := K) (F := nn H7) (ed_var rfl (.str _)) ed_str)) (by first | exact decide_eq_true rfl | exact decide_eq_false (by dsimp only [kindS, kdS]; decide))
            have e : stepP (.many .never ws) n c = if ws.take n ++ [c] = ws then (n + 1, false) else (lng ws (ws.take n ++ [c]), true) := by
              show fNever ws n c = _
              unfold fNever; rw [if_neg hn]
            rw [e] at fin
            refine s_if (et_is (et_test (ed_eqD (vm H6 (Same.refl _)) (vw6 H6 (Same.refl _)) shm shw)) (eqvT _ _)) (fun hb2 H7 s7 => ?_) (fun hb2 H7 s7 => ?_)
            · rw [if_pos (of_decide_eq_true hb2)] at fin
              exact s_ret (ed_if (kt6 H7) (fun _ => ed_tup (ea_cons (ed_add (vn6 H7) (ed_int (i := 1))) (ea_cons ed_bl ea_nil)) (by show 2 ≤ 100000; decide)) (fun h => nomatch h)) fun u H8 s8 hu => fin ((s16.trans s7).trans s8) (df_dp hu)
            · rw [if_neg (of_decide_eq_false hb2)] at fin
              have kb6 : ED K (tOp rEq (tVar 3) (tC (.str "never"))) [some v, some (.int (n : Nat)), some (.str c), some (.str (kindS (.many .never ws))), some nv, none, some mv] (nn H7) H7 (.bool true) := ed_is (ed_eqS (ed_var rfl (.str _)) ed_str) (congrArg PyData.bool (by first | exact decide_eq_true rfl | exact decide_eq_false (by dsimp only [kindS, kdS]; decide)))
              exact s_ret (ed_tup (ea_cons (ed_call (ea_cons (vw6 H7 s7) (ea_cons (vm H7 s7) ea_nil)) (rdc_lng ok.as am hl.1 (by omega) (by omega))) (ea_cons kb6 ea_nil)) (by show 2 ≤ 100000; decide)) fun u H8 s8 hu => fin ((s16.trans s7).trans s8) (df_dp hu)
end
end Ag

set_option Elab.async false
set_option linter.all false
set_option maxRecDepth 100000
set_option maxHeartbeats 1000000
namespace Ag
open PySem PySem.Spec PyProof.Rows L2
abbrev vN (k : Nat) : V := .int (k : Int)
theorem inV_int (s : Nat) : ∀ (ms : List Nat), inV (.int (s : Int)) (ms.map vN) = decide (s ∈ ms)
  | [] => rfl
  | m :: ms => by
    have i := inV_int s ms
    unfold inV at i ⊢
    rw [List.map_cons, List.any_cons, i]
    show (eqV (.int (m : Int)) (.int (s : Int)) || _) = _
    by_cases h : s = m
    · subst h
      have : eqV (.int (s : Int)) (.int (s : Int)) = true := by simp [eqV]
      rw [this]; simp
    · have : eqV (.int (m : Int)) (.int (s : Int)) = false := by simp [eqV]; omega
      rw [this]; simp [h]
theorem eqV_int (m s : Nat) : eqV (.int (m : Int)) (.int (s : Int)) = decide (m = s) := by
  by_cases h : m = s
  · subst h; simp [eqV]
  · rw [decide_eq_false h]; simp [eqV]; omega
theorem flat_ints : ∀ (ms : List Nat), (ms.map vN).all flatV = true
  | [] => rfl
  | m :: ms => by rw [List.map_cons, List.all_cons, flat_ints ms]; rfl
def bn (k : Nat) (ms : List Nat) : Nat := if k ∈ ms then 0 else 1
theorem bn_le (k s : Nat) (ms : List Nat) : bn k (ms ++ [s]) ≤ bn k ms := by
  unfold bn
  by_cases h : k ∈ ms
  · rw [if_pos h, if_pos (List.mem_append_left _ h)]; exact Nat.le_refl _
  · rw [if_neg h]; split <;> omega
theorem bn_new {s : Nat} {ms : List Nat} (h : s ∉ ms) : bn s (ms ++ [s]) = 0 ∧ bn s ms = 1 := by
  unfold bn
  exact ⟨if_pos (by simp), if_neg h⟩
def cnt (ms : List Nat) : Nat := bn 0 ms + bn 1 ms + bn 2 ms + bn 3 ms + bn 4 ms
theorem cnt_lt {s : Nat} {ms : List Nat} (h : s ∉ ms) (hs : s ≤ 4) : cnt (ms ++ [s]) < cnt ms := by
  obtain ⟨n1, n2⟩ := bn_new h
  have h0 := bn_le 0 s ms
  have h1 := bn_le 1 s ms
  have h2 := bn_le 2 s ms
  have h3 := bn_le 3 s ms
  have h4 := bn_le 4 s ms
  unfold cnt
  have : s = 0 ∨ s = 1 ∨ s = 2 ∨ s = 3 ∨ s = 4 := by omega
  rcases this with rfl | rfl | rfl | rfl | rfl <;> omega
theorem stP_run {p : Pl} (o : OkP p) : ∀ (l : List Str) (s : Nat), StP p s → StP p (runL (stepP p) s l)
  | [], s, h => h
  | c :: l, s, h => stP_run o l _ (stP_step o h)
theorem run_take {α : Type} (f : Nat → α → Nat × Bool) (s : Nat) (l : List α) {i : Nat} {c : α} (h : l[i]? = some c) :
    runL f s (l.take (i + 1)) = (f (runL f s (l.take i)) c).1 ∧ markL f s (l.take (i + 1)) = (markL f s (l.take i) || (f (runL f s (l.take i)) c).2) := by
  rw [List.take_add_one, h]
  refine ⟨?_, ?_⟩
  · rw [runL_app]; rfl
  · rw [markL_app]
    show (markL f s (l.take i) || ((f (runL f s (l.take i)) c).2 || false)) = _
    rw [Bool.or_false]
theorem any_drop (g : Nat → Bool) (i j : Nat) : (((List.range i).map g).drop j).any id = true ↔ ∃ k, j ≤ k ∧ k < i ∧ g k = true := by
  rw [List.any_eq_true]
  constructor
  · rintro ⟨b, hb, hg⟩
    obtain ⟨q, hq, e⟩ := List.getElem_of_mem hb
    rw [List.length_drop, List.length_map, List.length_range] at hq
    rw [List.getElem_drop, List.getElem_map, List.getElem_range] at e
    exact ⟨j + q, by omega, by omega, by rw [e]; exact hg⟩
  · rintro ⟨k, h1, h2, h3⟩
    refine ⟨g k, ?_, h3⟩
    have hk : k - j < (((List.range i).map g).drop j).length := by rw [List.length_drop, List.length_map, List.length_range]; omega
    have e : (((List.range i).map g).drop j)[k - j] = g k := by
      rw [List.getElem_drop, List.getElem_map, List.getElem_range]; congr 1; omega
    rw [← e]; exact List.getElem_mem hk
theorem first_at {g : Nat → Nat} {s : Nat} : ∀ {i : Nat}, s ∈ (List.range i).map g → ∃ j, j < i ∧ g j = s ∧ ∀ m, m < j → g m ≠ s
  | 0, h => by cases h
  | i + 1, h => by
    by_cases q : s ∈ (List.range i).map g
    · obtain ⟨j, h1, h2, h3⟩ := first_at q
      exact ⟨j, by omega, h2, h3⟩
    · rw [List.range_succ, List.map_append] at h
      rcases List.mem_append.mp h with h | h
      · exact absurd h q
      · have e : s = g i := by simpa using h
        exact ⟨i, by omega, e.symm, fun m hm z => q (List.mem_map.mpr ⟨m, List.mem_range.mpr hm, z⟩)⟩
theorem range1 {α : Type} (g : Nat → α) (i : Nat) : (List.range (i + 1)).map g = (List.range i).map g ++ [g i] := by rw [List.range_succ, List.map_append]; rfl
theorem cutV_bl (bs : List Bool) {j : Nat} (h : j ≤ bs.length) : cutV (bs.map V.bl) (some (j : Int)) none = (bs.drop j).map V.bl := by
  unfold cutV
  rw [HT.sIx_nat, HT.sIx_none, List.length_map, Nat.min_eq_left h, ← List.map_drop]
  exact List.take_of_length_le (by rw [List.length_map, List.length_drop]; exact Nat.le_refl _)
section
variable {P : Program} {w : World} {K : PySem.W.Frag} {mg : Str → Option Value} {base : Heap} (T : Txt w K mg)
theorem ed_joints {σ : L2.St} {F : Addr → Prop} {H : Hp} : ED K (tC (.ref T.a_JOINTS)) σ F H (.tuple ((["all", "any"] : List Str).map .str)) := ed_c fun F H => .tup (T.sq_JOINTS H) (.cons (.str _) (.cons (.str _) .nil))
theorem pl_kind (p : Pl) : ∃ rest, plD p = .tuple (.str (kindS p) :: rest) := by cases p <;> exact ⟨_, rfl⟩
theorem kind_joint (p : Pl) : decide (kindS p ∈ (["all", "any"] : List Str)) = false := by
  refine decide_eq_false ?_
  cases p with
  | call c => dsimp only [kindS]; decide
  | answer a b => dsimp only [kindS]; decide
  | many k ws => cases k <;> (dsimp only [kindS, kdS]; decide)
def spBegin (K : PySem.W.Frag) : Sp := fun vs H Q _ => ∃ v p, vs = [v] ∧ Dp K H v (plD p) ∧ ∀ H', Same H H' → Q (.int ((0 : Nat) : Int)) H'
theorem ok_begin : FnOk P w K mg base CX0 2 T.a_begin T.d_begin ["duty"] (spBegin K) := by
  have G_begin := no_ok (P := P) (w := w) (base := base) 0 T.D_begin sc_begin
  refine T.D_begin.fn.ok sc_begin (fun vs H Q E h => ?_) (fun cdv A outer s H vs Q E hr h => ?_)
  · obtain ⟨v, p, rfl, _⟩ := h; rfl
  · obtain ⟨v, p, rfl, hv, k⟩ := h
    refine ⟨_, (pss_cons (ps_if (pt_cmpR op_in_seq (pe_ix ix_seq (pv 0) pe_int (fun _ _ => rfl)) (pe_glob (v := .ref T.a_JOINTS) (by rfl) T.g_JOINTS rfl) (by rfl)) (pss_one (ps_ret (pe_op op_catA (pe_tup (pa_cons pe_int pa_nil)) (pe_callTy call_tuple_of (by rfl) T.b_tuple bt_tuple (pa_cons (pe_lc (own := [("part", 1)]) rfl sc_begin.nd (pi_tup (pe_ix ix_seq (pv 0) pe_int (fun _ _ => rfl))) (blkOk_by (own := [("part", 1)]) (N := ["duty", "part"]) (sc := defScope s_begin) (by decide +kernel)) (fun _ _ _ _ _ => (pg_name (i := 1) sc_begin.nd rfl (by first | exact Or.inl rfl | exact Or.inr rfl))) (fun _ _ _ _ _ => pts_nil) (fun _ _ _ _ _ => (pe_call (G_begin) (hr.mono (by omega)) (by rfl) T.D_begin.mg T.D_begin.fn.kp T.D_begin.bd .nil pass0 (pa_cons (pv 1) pa_nil)))) pa_nil))))) pss_nil)
      (pss_one (ps_ret pe_int))), ?_⟩
    obtain ⟨rest, e⟩ := pl_kind p
    refine s_if (b := false) (et_is (et_test (ed_inSeq (K := K) (F := nn H) (ed_ixT (j := 0) (ds := .str (kindS p) :: rest) (ed_var rfl (dp_df (e ▸ hv))) ed_int rfl) (ed_joints T) (.inl rfl))) (kind_joint p)) (fun h => nomatch h) fun _ H1 s1 => ?_
    exact k H1 s1
end
end Ag

set_option Elab.async false
set_option linter.all false
set_option maxRecDepth 100000
set_option maxHeartbeats 1000000
namespace Ag
open PySem PySem.Spec PyProof.Rows L2
section
variable {P : Program} {w : World} {K : PySem.W.Frag} {mg : Str → Option Value} {base : Heap} (T : Txt w K mg)
def spMarksL (K : PySem.W.Frag) : Sp := fun vs H Q _ => ∃ v p ha ra Hd R, vs = [v, .ref ha, .ref ra] ∧ Dp K H v (plD p) ∧ OkP p ∧ SqL K H ha (Hd.map V.str) ∧ SqT K H ra (R.map V.str) ∧ 1 ≤ R.length ∧ (∀ x ∈ Hd, As 12 x) ∧ (∀ x ∈ R, As 12 x) ∧
  ∀ b H', Same H H' → (b = true ↔ InfE (stepP p) (eHR ("" : Str) Hd R)) → Q (.bl b) H'
theorem ok_marks_byL : FnOk P w K mg base CX0 3 T.a_marks_by T.d_marks_by ["duty", "head", "ring"] (spMarksL K) := by
  have G_begin := ok_begin (P := P) (w := w) (base := base) T
  have G_behind_plain := ok_behind_plain (P := P) (base := base) T
  refine T.D_marks_by.fn.ok sc_marks_by (fun vs H Q E h => ?_) (fun cdv A outer s H vs Q E hr h => ?_)
  · obtain ⟨v, p, ha, ra, Hd, R, rfl, _⟩ := h; rfl
  · obtain ⟨v, p, ha, ra, Hd, R, rfl, hv, ok, hh, hR, hr1, ah, ar, k⟩ := h
    refine ⟨_, (pss_cons (ps_set (i := 3) sc_marks_by.nd rfl (by first | exact Or.inl rfl | exact Or.inr rfl) (pe_call (G_begin) (hr.mono (by omega)) (by rfl) T.D_begin.mg T.D_begin.fn.kp T.D_begin.bd .nil pass0 (pa_cons (pv 0) pa_nil)))
      (pss_cons (ps_for PassesOwn.never rfl (pi_list (pv 1)) (pg_name (i := 4) sc_marks_by.nd rfl (by first | exact Or.inl rfl | exact Or.inr rfl)) (pss_one (ps_set (i := 3) sc_marks_by.nd rfl (by first | exact Or.inl rfl | exact Or.inr rfl) (pe_ix ix_seq (pe_call (G_behind_plain) (hr.mono (by omega)) (by rfl) T.D_behind_plain.mg T.D_behind_plain.fn.kp T.D_behind_plain.bd .nil pass0 (pa_cons (pv 0) (pa_cons (pv 3) (pa_cons (pv 4) pa_nil)))) pe_int (fun _ _ => rfl)))))
      (pss_cons (ps_par (i := 5) (j := 6) (by rfl) sc_marks_by.nd rfl rfl (by decide) rfl rfl (pa_cons (pe_lst pa_nil) (pa_cons (pe_lst pa_nil) pa_nil)) (by rfl))
      (pss_cons (ps_while PassesOwn.never (pt_cmpR op_notIn_seq (pv 3) (pv 5) (by rfl)) (pss_cons (ps_expr (pe_bm PySem.F.plainAttrs_list PySem.F.slot_list_append PySem.F.type_list_append mt_append (pv 5) (pa_cons (pv 3) pa_nil)))
      (pss_cons (ps_set (i := 7) sc_marks_by.nd rfl (by first | exact Or.inl rfl | exact Or.inr rfl) pe_bl)
      (pss_cons (ps_for PassesOwn.never rfl (pi_tup (pv 2)) (pg_name (i := 4) sc_marks_by.nd rfl (by first | exact Or.inl rfl | exact Or.inr rfl)) (pss_cons (ps_asg (pe_call (G_behind_plain) (hr.mono (by omega)) (by rfl) T.D_behind_plain.mg T.D_behind_plain.fn.kp T.D_behind_plain.bd .nil pass0 (pa_cons (pv 0) (pa_cons (pv 3) (pa_cons (pv 4) pa_nil)))) (pg_tup rfl (pgs_cons (pg_name (i := 3) sc_marks_by.nd rfl (by first | exact Or.inl rfl | exact Or.inr rfl)) (pgs_cons (pg_name (i := 8) sc_marks_by.nd rfl (by first | exact Or.inl rfl | exact Or.inr rfl)) pgs_nil))))
      (pss_one (ps_set (i := 7) sc_marks_by.nd rfl (by first | exact Or.inl rfl | exact Or.inr rfl) (pe_or (pv 7) (pe_one (pv 8)))))))
      (pss_one (ps_expr (pe_bm PySem.F.plainAttrs_list PySem.F.slot_list_append PySem.F.type_list_append mt_append (pv 6) (pa_cons (pv 7) pa_nil))))))))
      (pss_one (ps_ret (pe_callB (cr_any rfl) (by rfl) T.b_any bt_any (pa_cons (pe_slice sl_list (pv 6) (po_some (pe_bm PySem.F.plainAttrs_list PySem.F.slot_list_index PySem.F.type_list_index mt_index (pv 5) (pa_cons (pv 3) pa_nil))) po_none) pa_nil)))))))), ?_⟩
    refine ⟨_, rfl, v, p, rfl, hv, fun H1 s1 => ?_⟩
    refine ⟨_, rfl, ha, rfl, ⟨_, s1.slA hh⟩, for_list (K := K) (a := ha) (xs := Hd.map V.str) (fun i σ' H' => ∃ o4, σ' = [some v, some (.ref ha), some (.ref ra), some (.int ((runL (stepP p) 0 (Hd.take i) : Nat) : Int)), o4, none, none, none, none] ∧ Same H1 H') ⟨none, rfl, Same.refl _⟩ ?_ ?_ ?_⟩
    · rintro i σ' H' _ ⟨o4, rfl, s2⟩; exact (s1.trans s2).slA hh
    · rintro i x σ' H' hi ⟨o4, rfl, s2⟩
      obtain ⟨c, hc, rfl⟩ : ∃ c, Hd[i]? = some c ∧ x = .str c := by
        rw [List.getElem?_map] at hi
        cases q : Hd[i]? with
        | none => rw [q] at hi; cases hi
        | some y => rw [q] at hi; cases hi; exact ⟨y, rfl, rfl⟩
      refine ⟨_, rfl, _, rfl, _, rfl, v, p, c, _, rfl, dp_mono (s1.trans s2) hv, ok, stP_run ok _ _ (stP_zero ok), ah c (List.mem_of_getElem? hc), fun u H3 s3 hu => ?_⟩
      obtain ⟨e1, _⟩ := run_take (stepP p) 0 Hd hc
      cases hu with
      | tup ht r =>
        obtain _ | ⟨h1, r⟩ := r
        obtain _ | ⟨h2, r⟩ := r
        cases r; cases h1; cases h2
        refine .inr (.inl ⟨_, _, _, _, rfl, rfl, ht, rfl, ?_⟩)
        rw [← e1]
        exact ⟨some (.str c), rfl, s2.trans s3⟩
    · rintro σ' H' ⟨o4, rfl, s2'⟩
      rw [List.length_map, List.take_length]
      have st0 := stP_run ok Hd 0 (stP_zero ok)
      have ai := again_inf (d := ("" : Str)) (H := Hd) (R := R) (stepP p) hr1
      generalize runL (stepP p) 0 Hd = s0 at st0 ai
      refine ⟨(by show 0 ≤ sizeLine; decide), fun fm hfm => ⟨(by show 0 ≤ sizeLine; decide), fun ff hff => ⟨_, _, rfl, ?_⟩⟩⟩
      have nff : ff ≠ fm := fun q => by rw [q, upd_same] at hff; cases hff
      have hff0 : H' ff = none := by rw [upd_ne nff] at hff; exact hff
      let sI : Nat → Nat := fun i => itF (fun s => runL (stepP p) s R) i s0
      have stI : ∀ i, StP p (sI i) := fun i => by
        induction i with
        | zero => exact st0
        | succ i ih => exact stP_run ok R _ ih
      -- the place of the loop: i passes made
      let In : Nat → Hp → Prop := fun i H4 => Same H' H4 ∧ H4 fm = some (.lst (((List.range i).map sI).map vN)) ∧ H4 ff = some (.lst (((List.range i).map fun j => markL (stepP p) (sI j) R).map V.bl)) ∧ i + cnt ((List.range i).map sI) ≤ 5
      refine run_while (W := fun m σ4 H4 => ∃ i o4 o7 o8, σ4 = [some v, some (.ref ha), some (.ref ra), some (.int ((sI i : Nat) : Int)), o4, some (.ref fm), some (.ref ff), o7, o8] ∧ In i H4 ∧ m = cnt ((List.range i).map sI)) (m0 := cnt []) ⟨0, o4, none, none, rfl, ⟨fun b o e => ?_, ?_, upd_same, (show 0 + cnt [] ≤ 5 by decide)⟩, rfl⟩ ?_
      · rw [upd_ne (ne_of_none e hff0), upd_ne (ne_of_none e hfm)]; exact e
      · rw [upd_ne (Ne.symm nff)]; exact upd_same
      · rintro m σ4 H4 ⟨i, o4, o7, o8, rfl, ⟨s4, hm, hf, hi5⟩, rfl⟩
        refine ⟨!decide (sI i ∈ (List.range i).map sI), fun H5 s5 Q2 q2 => ⟨_, rfl, _, rfl, fm, _, rfl, .inl (SqL.of (s5 _ _ hm)), rfl, flat_ints _, _, rfl, ?_⟩, fun hb H5 s5 => ?_, fun hb H5 s5 => ?_⟩
        · rw [if_pos rfl, inV_int]; exact q2 H5 (Same.refl _)
        · have hb' : sI i ∉ (List.range i).map sI := fun q => by rw [decide_eq_true q] at hb; cases hb
          have hc := cnt_lt hb' (stP_le ok (stI i))
          have e1 : (List.range (i + 1)).map sI = (List.range i).map sI ++ [sI i] := range1 sI i
          have s45 := s4.trans s5
          have hm5 := s5 _ _ hm
          have hf5 := s5 _ _ hf
          refine ⟨fun σ6 H6 => ∃ o4 o7 o8, σ6 = [some v, some (.ref ha), some (.ref ra), some (.int ((sI (i + 1) : Nat) : Int)), o4, some (.ref fm), some (.ref ff), o7, o8] ∧ In (i + 1) H6, fun σ6 H6 ⟨q4, q7, q8, e6, n6⟩ => ⟨_, by rw [← e1] at hc; exact hc, i + 1, q4, q7, q8, e6, n6, rfl⟩, ?_⟩
          refine ⟨_, rfl, .inl ⟨rfl, _, .inl (.inl hm5)⟩, _, rfl, fm, _, _, rfl, rfl, hm5, lt5 (by rw [List.length_map, List.length_map, List.length_range]; omega), ?_⟩
          have s6 : Same H' (upd H5 fm (.lst (((List.range i).map sI).map vN ++ [V.int ((sI i : Nat) : Int)]))) := fun b o e => by
            rw [upd_ne (ne_of_none e hfm)]; exact s45 _ _ e
          have hm6 : upd H5 fm (.lst (((List.range i).map sI).map vN ++ [V.int ((sI i : Nat) : Int)])) fm = some (.lst (((List.range (i + 1)).map sI).map vN)) := by
            rw [upd_same, e1, List.map_append]; rfl
          have hf6 : upd H5 fm (.lst (((List.range i).map sI).map vN ++ [V.int ((sI i : Nat) : Int)])) ff = some (.lst (((List.range i).map fun j => markL (stepP p) (sI j) R).map V.bl)) := by
            rw [upd_ne nff]; exact hf5
          generalize upd H5 fm (HO.lst (((List.range i).map sI).map vN ++ [V.int ((sI i : Nat) : Int)])) = H6 at s6 hm6 hf6
          refine ⟨_, rfl, ra, rfl, ⟨_, ((s1.trans s2').trans s6).stA hR⟩, for_tup (K := K) (a := ra) (xs := R.map V.str) (fun q σ7 H7 => ∃ o4 o8, σ7 = [some v, some (.ref ha), some (.ref ra), some (.int ((runL (stepP p) (sI i) (R.take q) : Nat) : Int)), o4, some (.ref fm), some (.ref ff), some (.bl (markL (stepP p) (sI i) (R.take q))), o8] ∧ Same H6 H7) ⟨o4, o8, rfl, Same.refl _⟩ ?_ ?_ ?_⟩
          · rintro q σ7 H7 _ ⟨q4, q8, rfl, s7⟩; exact (((s1.trans s2').trans s6).trans s7).stA hR
          · rintro q x σ7 H7 hq ⟨q4, q8, rfl, s7⟩
            obtain ⟨c, hc, rfl⟩ : ∃ c, R[q]? = some c ∧ x = .str c := by
              rw [List.getElem?_map] at hq
              cases z : R[q]? with
              | none => rw [z] at hq; cases hq
              | some y => rw [z] at hq; cases hq; exact ⟨y, rfl, rfl⟩
            refine ⟨_, rfl, _, rfl, _, rfl, v, p, c, _, rfl, dp_mono (((s1.trans s2').trans s6).trans s7) hv, ok, stP_run ok _ _ (stI i), ar c (List.mem_of_getElem? hc), fun u H8 s8 hu => ?_⟩
            obtain ⟨r1, r2⟩ := run_take (stepP p) (sI i) R hc
            cases hu with
            | tup ht r =>
              obtain _ | ⟨h1, r⟩ := r
              obtain _ | ⟨h2, r⟩ := r
              cases r; cases h1; cases h2
              refine ⟨_, _, rfl, ht, rfl, _, _, rfl, _, _, rfl, rfl, ?_⟩
              refine s_set (K := K) (F := nn H8) (ed_orV (ed_var rfl (.bl _)) fun _ => ed_var rfl (.bl _)) fun fv H9 s9 hfv => ?_
              cases hfv
              refine ⟨some (.str c), some (.bl (stepP p (runL (stepP p) (sI i) (R.take q)) c).2), ?_, (s7.trans s8).trans s9⟩
              rw [r1, r2]; rfl
          · rintro σ7 H7 ⟨q4, q8, rfl, s7⟩
            rw [List.length_map, List.take_length]
            have hf7 := s7 _ _ hf6
            have hm7 := s7 _ _ hm6
            refine ⟨_, rfl, .inl ⟨rfl, _, .inl (.inl hf7)⟩, _, rfl, ff, _, _, rfl, rfl, hf7, lt5 (by rw [List.length_map, List.length_map, List.length_range]; omega), ?_⟩
            refine ⟨q4, _, q8, rfl, fun b o e => ?_, ?_, ?_, ?_⟩
            · rw [upd_ne (ne_of_none e hff0)]; exact s7 _ _ (s6 _ _ e)
            · rw [upd_ne (Ne.symm nff)]; exact hm7
            · rw [upd_same, range1, List.map_append]; rfl
            · rw [e1]; omega
        · have hb' : sI i ∈ (List.range i).map sI := by
            by_cases q : sI i ∈ (List.range i).map sI
            · exact q
            · rw [decide_eq_false q] at hb; cases hb
          obtain ⟨j, hj, ej, nj⟩ := first_at hb'
          have hm5 := s5 _ _ hm
          have hf5 := s5 _ _ hf
          have gm : ∀ q, q < i → (((List.range i).map sI).map vN)[q]? = some (vN (sI q)) := fun q hq => by
            rw [List.getElem?_map, List.getElem?_map, List.getElem?_range hq]; rfl
          refine ⟨_, rfl, _, rfl, .inl ⟨rfl, _, .inl (.inl hm5)⟩, _, rfl, fm, _, _, j, vN (sI j), rfl, rfl, SqL.of hm5, rfl, flat_ints _, gm j hj, ?_, fun q z hq hz => ?_, ?_⟩
          · rw [eqV_int]; exact decide_eq_true ej
          · rw [gm q (by omega)] at hz
            cases hz
            rw [eqV_int]; exact decide_eq_false (nj q hq)
          · refine ⟨_, rfl, ff, _, rfl, SqL.of hf5, fun l hl => ⟨l, ((List.range i).map fun j => markL (stepP p) (sI j) R).drop j, rfl, .inl (.inl ?_), ?_⟩⟩
            · rw [upd_same, cutV_bl _ (by rw [List.length_map, List.length_range]; omega)]
            · refine k _ _ ?_ ?_
              · exact ((s1.trans s2').trans (s4.trans s5)).trans (Same.newA hl)
              · rw [any_drop, ← ai, again_iff hj ej.symm]
end
end Ag

set_option Elab.async false
set_option linter.all false
set_option maxRecDepth 100000
set_option maxHeartbeats 1000000
namespace Ag
open PySem PySem.Spec PyProof.Rows L2
section
variable {P : Program} {w : World} {K : PySem.W.Frag} {mg : Str → Option Value} {base : Heap} (T : Txt w K mg)
def spMarksT (K : PySem.W.Frag) : Sp := fun vs H Q _ => ∃ v p ha ra Hd R, vs = [v, .ref ha, .ref ra] ∧ Dp K H v (plD p) ∧ OkP p ∧ SqT K H ha (Hd.map V.str) ∧ SqT K H ra (R.map V.str) ∧ 1 ≤ R.length ∧ (∀ x ∈ Hd, As 12 x) ∧ (∀ x ∈ R, As 12 x) ∧
  ∀ b H', Same H H' → (b = true ↔ InfE (stepP p) (eHR ("" : Str) Hd R)) → Q (.bl b) H'
theorem ok_marks_byT : FnOk P w K mg base CX0 3 T.a_marks_by T.d_marks_by ["duty", "head", "ring"] (spMarksT K) := by
  have G_begin := ok_begin (P := P) (w := w) (base := base) T
  have G_behind_plain := ok_behind_plain (P := P) (base := base) T
  refine T.D_marks_by.fn.ok sc_marks_by (fun vs H Q E h => ?_) (fun cdv A outer s H vs Q E hr h => ?_)
  · obtain ⟨v, p, ha, ra, Hd, R, rfl, _⟩ := h; rfl
  · obtain ⟨v, p, ha, ra, Hd, R, rfl, hv, ok, hh, hR, hr1, ah, ar, k⟩ := h
    refine ⟨_, (pss_cons (ps_set (i := 3) sc_marks_by.nd rfl (by first | exact Or.inl rfl | exact Or.inr rfl) (pe_call (G_begin) (hr.mono (by omega)) (by rfl) T.D_begin.mg T.D_begin.fn.kp T.D_begin.bd .nil pass0 (pa_cons (pv 0) pa_nil)))
      (pss_cons (ps_for PassesOwn.never rfl (pi_tup (pv 1)) (pg_name (i := 4) sc_marks_by.nd rfl (by first | exact Or.inl rfl | exact Or.inr rfl)) (pss_one (ps_set (i := 3) sc_marks_by.nd rfl (by first | exact Or.inl rfl | exact Or.inr rfl) (pe_ix ix_seq (pe_call (G_behind_plain) (hr.mono (by omega)) (by rfl) T.D_behind_plain.mg T.D_behind_plain.fn.kp T.D_behind_plain.bd .nil pass0 (pa_cons (pv 0) (pa_cons (pv 3) (pa_cons (pv 4) pa_nil)))) pe_int (fun _ _ => rfl)))))
      (pss_cons (ps_par (i := 5) (j := 6) (by rfl) sc_marks_by.nd rfl rfl (by decide) rfl rfl (pa_cons (pe_lst pa_nil) (pa_cons (pe_lst pa_nil) pa_nil)) (by rfl))
      (pss_cons (ps_while PassesOwn.never (pt_cmpR op_notIn_seq (pv 3) (pv 5) (by rfl)) (pss_cons (ps_expr (pe_bm PySem.F.plainAttrs_list PySem.F.slot_list_append PySem.F.type_list_append mt_append (pv 5) (pa_cons (pv 3) pa_nil)))
      (pss_cons (ps_set (i := 7) sc_marks_by.nd rfl (by first | exact Or.inl rfl | exact Or.inr rfl) pe_bl)
      (pss_cons (ps_for PassesOwn.never rfl (pi_tup (pv 2)) (pg_name (i := 4) sc_marks_by.nd rfl (by first | exact Or.inl rfl | exact Or.inr rfl)) (pss_cons (ps_asg (pe_call (G_behind_plain) (hr.mono (by omega)) (by rfl) T.D_behind_plain.mg T.D_behind_plain.fn.kp T.D_behind_plain.bd .nil pass0 (pa_cons (pv 0) (pa_cons (pv 3) (pa_cons (pv 4) pa_nil)))) (pg_tup rfl (pgs_cons (pg_name (i := 3) sc_marks_by.nd rfl (by first | exact Or.inl rfl | exact Or.inr rfl)) (pgs_cons (pg_name (i := 8) sc_marks_by.nd rfl (by first | exact Or.inl rfl | exact Or.inr rfl)) pgs_nil))))
      (pss_one (ps_set (i := 7) sc_marks_by.nd rfl (by first | exact Or.inl rfl | exact Or.inr rfl) (pe_or (pv 7) (pe_one (pv 8)))))))
      (pss_one (ps_expr (pe_bm PySem.F.plainAttrs_list PySem.F.slot_list_append PySem.F.type_list_append mt_append (pv 6) (pa_cons (pv 7) pa_nil))))))))
      (pss_one (ps_ret (pe_callB (cr_any rfl) (by rfl) T.b_any bt_any (pa_cons (pe_slice sl_list (pv 6) (po_some (pe_bm PySem.F.plainAttrs_list PySem.F.slot_list_index PySem.F.type_list_index mt_index (pv 5) (pa_cons (pv 3) pa_nil))) po_none) pa_nil)))))))), ?_⟩
    refine ⟨_, rfl, v, p, rfl, hv, fun H1 s1 => ?_⟩
    refine ⟨_, rfl, ha, rfl, ⟨_, s1.stA hh⟩, for_tup (K := K) (a := ha) (xs := Hd.map V.str) (fun i σ' H' => ∃ o4, σ' = [some v, some (.ref ha), some (.ref ra), some (.int ((runL (stepP p) 0 (Hd.take i) : Nat) : Int)), o4, none, none, none, none] ∧ Same H1 H') ⟨none, rfl, Same.refl _⟩ ?_ ?_ ?_⟩
    · rintro i σ' H' _ ⟨o4, rfl, s2⟩; exact (s1.trans s2).stA hh
    · rintro i x σ' H' hi ⟨o4, rfl, s2⟩
      obtain ⟨c, hc, rfl⟩ : ∃ c, Hd[i]? = some c ∧ x = .str c := by
        rw [List.getElem?_map] at hi
        cases q : Hd[i]? with
        | none => rw [q] at hi; cases hi
        | some y => rw [q] at hi; cases hi; exact ⟨y, rfl, rfl⟩
      refine ⟨_, rfl, _, rfl, _, rfl, v, p, c, _, rfl, dp_mono (s1.trans s2) hv, ok, stP_run ok _ _ (stP_zero ok), ah c (List.mem_of_getElem? hc), fun u H3 s3 hu => ?_⟩
      obtain ⟨e1, _⟩ := run_take (stepP p) 0 Hd hc
      cases hu with
      | tup ht r =>
        obtain _ | ⟨h1, r⟩ := r
        obtain _ | ⟨h2, r⟩ := r
        cases r; cases h1; cases h2
        refine .inr (.inl ⟨_, _, _, _, rfl, rfl, ht, rfl, ?_⟩)
        rw [← e1]
        exact ⟨some (.str c), rfl, s2.trans s3⟩
    · rintro σ' H' ⟨o4, rfl, s2'⟩
      rw [List.length_map, List.take_length]
      have st0 := stP_run ok Hd 0 (stP_zero ok)
      have ai := again_inf (d := ("" : Str)) (H := Hd) (R := R) (stepP p) hr1
      generalize runL (stepP p) 0 Hd = s0 at st0 ai
      refine ⟨(by show 0 ≤ sizeLine; decide), fun fm hfm => ⟨(by show 0 ≤ sizeLine; decide), fun ff hff => ⟨_, _, rfl, ?_⟩⟩⟩
      have nff : ff ≠ fm := fun q => by rw [q, upd_same] at hff; cases hff
      have hff0 : H' ff = none := by rw [upd_ne nff] at hff; exact hff
      let sI : Nat → Nat := fun i => itF (fun s => runL (stepP p) s R) i s0
      have stI : ∀ i, StP p (sI i) := fun i => by
        induction i with
        | zero => exact st0
        | succ i ih => exact stP_run ok R _ ih
      -- the place of the loop: i passes made
      let In : Nat → Hp → Prop := fun i H4 => Same H' H4 ∧ H4 fm = some (.lst (((List.range i).map sI).map vN)) ∧ H4 ff = some (.lst (((List.range i).map fun j => markL (stepP p) (sI j) R).map V.bl)) ∧ i + cnt ((List.range i).map sI) ≤ 5
      refine run_while (W := fun m σ4 H4 => ∃ i o4 o7 o8, σ4 = [some v, some (.ref ha), some (.ref ra), some (.int ((sI i : Nat) : Int)), o4, some (.ref fm), some (.ref ff), o7, o8] ∧ In i H4 ∧ m = cnt ((List.range i).map sI)) (m0 := cnt []) ⟨0, o4, none, none, rfl, ⟨fun b o e => ?_, ?_, upd_same, (show 0 + cnt [] ≤ 5 by decide)⟩, rfl⟩ ?_
      · rw [upd_ne (ne_of_none e hff0), upd_ne (ne_of_none e hfm)]; exact e
      · rw [upd_ne (Ne.symm nff)]; exact upd_same
      · rintro m σ4 H4 ⟨i, o4, o7, o8, rfl, ⟨s4, hm, hf, hi5⟩, rfl⟩
        refine ⟨!decide (sI i ∈ (List.range i).map sI), fun H5 s5 Q2 q2 => ⟨_, rfl, _, rfl, fm, _, rfl, .inl (SqL.of (s5 _ _ hm)), rfl, flat_ints _, _, rfl, ?_⟩, fun hb H5 s5 => ?_, fun hb H5 s5 => ?_⟩
        · rw [if_pos rfl, inV_int]; exact q2 H5 (Same.refl _)
        · have hb' : sI i ∉ (List.range i).map sI := fun q => by rw [decide_eq_true q] at hb; cases hb
          have hc := cnt_lt hb' (stP_le ok (stI i))
          have e1 : (List.range (i + 1)).map sI = (List.range i).map sI ++ [sI i] := range1 sI i
          have s45 := s4.trans s5
          have hm5 := s5 _ _ hm
          have hf5 := s5 _ _ hf
          refine ⟨fun σ6 H6 => ∃ o4 o7 o8, σ6 = [some v, some (.ref ha), some (.ref ra), some (.int ((sI (i + 1) : Nat) : Int)), o4, some (.ref fm), some (.ref ff), o7, o8] ∧ In (i + 1) H6, fun σ6 H6 ⟨q4, q7, q8, e6, n6⟩ => ⟨_, by rw [← e1] at hc; exact hc, i + 1, q4, q7, q8, e6, n6, rfl⟩, ?_⟩
          refine ⟨_, rfl, .inl ⟨rfl, _, .inl (.inl hm5)⟩, _, rfl, fm, _, _, rfl, rfl, hm5, lt5 (by rw [List.length_map, List.length_map, List.length_range]; omega), ?_⟩
          have s6 : Same H' (upd H5 fm (.lst (((List.range i).map sI).map vN ++ [V.int ((sI i : Nat) : Int)]))) := fun b o e => by
            rw [upd_ne (ne_of_none e hfm)]; exact s45 _ _ e
          have hm6 : upd H5 fm (.lst (((List.range i).map sI).map vN ++ [V.int ((sI i : Nat) : Int)])) fm = some (.lst (((List.range (i + 1)).map sI).map vN)) := by
            rw [upd_same, e1, List.map_append]; rfl
          have hf6 : upd H5 fm (.lst (((List.range i).map sI).map vN ++ [V.int ((sI i : Nat) : Int)])) ff = some (.lst (((List.range i).map fun j => markL (stepP p) (sI j) R).map V.bl)) := by
            rw [upd_ne nff]; exact hf5
          generalize upd H5 fm (HO.lst (((List.range i).map sI).map vN ++ [V.int ((sI i : Nat) : Int)])) = H6 at s6 hm6 hf6
          refine ⟨_, rfl, ra, rfl, ⟨_, ((s1.trans s2').trans s6).stA hR⟩, for_tup (K := K) (a := ra) (xs := R.map V.str) (fun q σ7 H7 => ∃ o4 o8, σ7 = [some v, some (.ref ha), some (.ref ra), some (.int ((runL (stepP p) (sI i) (R.take q) : Nat) : Int)), o4, some (.ref fm), some (.ref ff), some (.bl (markL (stepP p) (sI i) (R.take q))), o8] ∧ Same H6 H7) ⟨o4, o8, rfl, Same.refl _⟩ ?_ ?_ ?_⟩
          · rintro q σ7 H7 _ ⟨q4, q8, rfl, s7⟩; exact (((s1.trans s2').trans s6).trans s7).stA hR
          · rintro q x σ7 H7 hq ⟨q4, q8, rfl, s7⟩
            obtain ⟨c, hc, rfl⟩ : ∃ c, R[q]? = some c ∧ x = .str c := by
              rw [List.getElem?_map] at hq
              cases z : R[q]? with
              | none => rw [z] at hq; cases hq
              | some y => rw [z] at hq; cases hq; exact ⟨y, rfl, rfl⟩
            refine ⟨_, rfl, _, rfl, _, rfl, v, p, c, _, rfl, dp_mono (((s1.trans s2').trans s6).trans s7) hv, ok, stP_run ok _ _ (stI i), ar c (List.mem_of_getElem? hc), fun u H8 s8 hu => ?_⟩
            obtain ⟨r1, r2⟩ := run_take (stepP p) (sI i) R hc
            cases hu with
            | tup ht r =>
              obtain _ | ⟨h1, r⟩ := r
              obtain _ | ⟨h2, r⟩ := r
              cases r; cases h1; cases h2
              refine ⟨_, _, rfl, ht, rfl, _, _, rfl, _, _, rfl, rfl, ?_⟩
              refine s_set (K := K) (F := nn H8) (ed_orV (ed_var rfl (.bl _)) fun _ => ed_var rfl (.bl _)) fun fv H9 s9 hfv => ?_
              cases hfv
              refine ⟨some (.str c), some (.bl (stepP p (runL (stepP p) (sI i) (R.take q)) c).2), ?_, (s7.trans s8).trans s9⟩
              rw [r1, r2]; rfl
          · rintro σ7 H7 ⟨q4, q8, rfl, s7⟩
            rw [List.length_map, List.take_length]
            have hf7 := s7 _ _ hf6
            have hm7 := s7 _ _ hm6
            refine ⟨_, rfl, .inl ⟨rfl, _, .inl (.inl hf7)⟩, _, rfl, ff, _, _, rfl, rfl, hf7, lt5 (by rw [List.length_map, List.length_map, List.length_range]; omega), ?_⟩
            refine ⟨q4, _, q8, rfl, fun b o e => ?_, ?_, ?_, ?_⟩
            · rw [upd_ne (ne_of_none e hff0)]; exact s7 _ _ (s6 _ _ e)
            · rw [upd_ne (Ne.symm nff)]; exact hm7
            · rw [upd_same, range1, List.map_append]; rfl
            · rw [e1]; omega
        · have hb' : sI i ∈ (List.range i).map sI := by
            by_cases q : sI i ∈ (List.range i).map sI
            · exact q
            · rw [decide_eq_false q] at hb; cases hb
          obtain ⟨j, hj, ej, nj⟩ := first_at hb'
          have hm5 := s5 _ _ hm
          have hf5 := s5 _ _ hf
          have gm : ∀ q, q < i → (((List.range i).map sI).map vN)[q]? = some (vN (sI q)) := fun q hq => by
            rw [List.getElem?_map, List.getElem?_map, List.getElem?_range hq]; rfl
          refine ⟨_, rfl, _, rfl, .inl ⟨rfl, _, .inl (.inl hm5)⟩, _, rfl, fm, _, _, j, vN (sI j), rfl, rfl, SqL.of hm5, rfl, flat_ints _, gm j hj, ?_, fun q z hq hz => ?_, ?_⟩
          · rw [eqV_int]; exact decide_eq_true ej
          · rw [gm q (by omega)] at hz
            cases hz
            rw [eqV_int]; exact decide_eq_false (nj q hq)
          · refine ⟨_, rfl, ff, _, rfl, SqL.of hf5, fun l hl => ⟨l, ((List.range i).map fun j => markL (stepP p) (sI j) R).drop j, rfl, .inl (.inl ?_), ?_⟩⟩
            · rw [upd_same, cutV_bl _ (by rw [List.length_map, List.length_range]; omega)]
            · refine k _ _ ?_ ?_
              · exact ((s1.trans s2').trans (s4.trans s5)).trans (Same.newA hl)
              · rw [any_drop, ← ai, again_iff hj ej.symm]
end
end Ag

set_option Elab.async false
set_option linter.all false
set_option maxRecDepth 100000
set_option maxHeartbeats 1000000
namespace Ag
open PySem PySem.Spec PyProof.Rows L2
/-- an error's __init__ of two fields -/
def spEx2 (C : Addr) (f g : Str) : Sp := fun vs H Q _ => ∃ (a : Addr) (x y : V), vs = [.ref a, x, y] ∧ H a = some (exo a C none) ∧ ∀ (d : Addr) H', H d = none → d ≠ a → (∀ b o, b ≠ a → H b = some o → H' b = some o) → H' a = some (exo a C (some d)) → H' d = some (exd d [(g, y), (f, x)]) → Q .non H'
section
variable {P : Program} {w : World} {K : PySem.W.Frag} {mg : Str → Option Value} {base : Heap} (T : Txt w K mg)
theorem ok_BadRow_init : FnOk P w K mg base CX0 1 T.a_BadRow___init__ T.d_BadRow___init__ ["self", "what", "row"] (spEx2 T.C_BadRow "what" "row") := by
  refine T.D_BadRow___init__.fn.ok sc_BadRow___init__ (fun vs H Q E h => ?_) (fun cdv A outer s H vs Q E hr h => ?_)
  · obtain ⟨a, x, y, rfl, _⟩ := h; rfl
  · obtain ⟨a, x, y, rfl, ha, k⟩ := h
    refine ⟨_, (pss_cons (ps_ost (pv 0) (pv 1))
      (pss_one (ps_ost (pv 0) (pv 2)))), ?_⟩
    refine ⟨_, rfl, _, rfl, a, T.C_BadRow, rfl, T.ox_BadRow, T.na_BadRow_what, .inl ⟨ha, fun d hd nda => ?_⟩⟩
    refine ⟨_, rfl, _, rfl, a, T.C_BadRow, rfl, T.ox_BadRow, T.na_BadRow_row, .inr ⟨d, [("what", x)], upd_same, by rw [upd_ne nda]; exact upd_same, Nat.le_of_ble_eq_true rfl, ?_⟩⟩
    refine k d _ hd nda (fun b o nb e => ?_) (by rw [upd_ne (Ne.symm nda)]; exact upd_same) upd_same
    have nbd : b ≠ d := ne_of_none e hd
    rw [upd_ne nbd, upd_ne nb, upd_ne nbd]; exact e
end
end Ag

set_option Elab.async false
set_option linter.all false
set_option maxRecDepth 100000
set_option maxHeartbeats 1000000
namespace Ag
open PySem PySem.Spec PyProof.Rows L2
/-- duties: plain ones, and two joined -/
inductive Dt
  | pl (p : Pl)
  | jn (al : Bool) (a b : Dt)
def jnS (al : Bool) : Str := if al then "all" else "any"
def dtD : Dt → PyData
  | .pl p => plD p
  | .jn al a b => .tuple [.str (jnS al), .tuple [dtD a, dtD b]]
def OkD : Dt → Prop
  | .pl p => OkP p
  | .jn _ a b => OkD a ∧ OkD b
def dep : Dt → Nat
  | .pl _ => 0
  | .jn _ a b => max (dep a) (dep b) + 1
/-- an endless row fulfils a duty -/
def Ful (e : Nat → Str) : Dt → Prop
  | .pl p => InfE (stepP p) e
  | .jn al a b => if al then Ful e a ∧ Ful e b else Ful e a ∨ Ful e b
noncomputable def fulB (e : Nat → Str) (d : Dt) : Bool := @decide (Ful e d) (Classical.propDecidable _)
theorem fulB_iff {e : Nat → Str} {d : Dt} : fulB e d = true ↔ Ful e d := by
  unfold fulB; exact @decide_eq_true_iff _ (Classical.propDecidable _)
theorem fulB_of {e : Nat → Str} {d : Dt} {b : Bool} (h : b = true ↔ Ful e d) : b = fulB e d := by
  have := fulB_iff (e := e) (d := d)
  cases b
  · cases q : fulB e d with
    | false => rfl
    | true => exact absurd (h.mpr (this.mp q)) (by decide)
  · exact (this.mpr (h.mp rfl)).symm
theorem fulB_jn {e : Nat → Str} {al : Bool} {a b : Dt} : fulB e (.jn al a b) = if al then (fulB e a && fulB e b) else (fulB e a || fulB e b) := by
  refine (fulB_of ?_).symm
  cases al
  · show (fulB e a || fulB e b) = true ↔ (if false = true then _ else _)
    rw [if_neg (by decide), Bool.or_eq_true, fulB_iff, fulB_iff]
  · show (fulB e a && fulB e b) = true ↔ (if true = true then _ else _)
    rw [if_pos rfl, Bool.and_eq_true, fulB_iff, fulB_iff]
def wordD (xs : List Str) : PyData → Prop := fun d => isSeq d = true ∧ seqOf d = xs.map .str
theorem wordD.t (xs : List Str) : wordD xs (.tuple (xs.map .str)) := ⟨rfl, rfl⟩
theorem wordD.l (xs : List Str) : wordD xs (.list (xs.map .str)) := ⟨rfl, rfl⟩
section
variable {K : PySem.W.Frag} {σ : L2.St} {F : Addr → Prop} {H : Hp} {ta : TE}
theorem ed_any {bs : List Bool} (ha : ED K ta σ F H (.list (bs.map .bool))) : ED K (tCB (rAny K) (tCons ta tNil)) σ F H (.bool (bs.any id)) := ed_cb (ea_cons ha ea_nil) fun F vs H1 hv Q q => by
  cases hv with
  | cons a r =>
    cases r
    cases a with
    | lst hs r =>
      have e := bls_dps (dfs_dps r)
      subst e
      exact ⟨_, bs, rfl, hs.imp (fun z => z.1) id, q _ _ (Same.refl _) (.bl _)⟩
theorem wordT {d : PyData} {xs : List Str} (h : wordD xs d) : d = .list (xs.map .str) ∨ d = .tuple (xs.map .str) := by
  obtain ⟨h1, h2⟩ := h
  cases d with
  | list ds => exact .inl (congrArg PyData.list h2)
  | tuple ds => exact .inr (congrArg PyData.tuple h2)
  | _ => cases h1
end
section
variable {P : Program} {w : World} {K : PySem.W.Frag} {mg : Str → Option Value} {base : Heap} (T : Txt w K mg)
theorem ok_marks_by : FnOk P w K mg base CX0 3 T.a_marks_by T.d_marks_by ["duty", "head", "ring"] (spOr (spMarksL K) (spMarksT K)) := fn_or (ok_marks_byL T) (ok_marks_byT T)
/-- a head and a ring, as they are handed on -/
structure HR (K : PySem.W.Frag) (H : Hp) (h r : V) (Hd R : List Str) : Prop where
  head : ∃ hd, Dp K H h hd ∧ wordD Hd hd
  ring : Dp K H r (.tuple (R.map .str))
  len : 1 ≤ R.length
  ah : ∀ x ∈ Hd, As 12 x
  ar : ∀ x ∈ R, As 12 x
theorem HR.mono {H H' : Hp} {h r : V} {Hd R : List Str} (s : Same H H') (x : HR K H h r Hd R) : HR K H' h r Hd R :=
  ⟨let ⟨hd, a, b⟩ := x.head; ⟨hd, dp_mono s a, b⟩, dp_mono s x.ring, x.len, x.ah, x.ar⟩
def spDone (K : PySem.W.Frag) (n : Nat) : Sp := fun vs H Q _ => ∃ v d h r Hd R, vs = [v, h, r] ∧ Dp K H v (dtD d) ∧ OkD d ∧ dep d ≤ n ∧ HR K H h r Hd R ∧ ∀ H', Same H H' → Q (.bl (fulB (eHR ("" : Str) Hd R) d)) H'
theorem step_done (m n : Nat) {spR : Sp} (G_is_done : FnOk P w K mg base CX0 (m + 3) T.a_is_done T.d_is_done ["duty", "head", "ring"] spR) (hR : ∀ vs H Q E, n ≠ 0 → spDone K (n - 1) vs H Q E → spR vs H Q E) :
    FnOk P w K mg base CX0 (m + 4) T.a_is_done T.d_is_done ["duty", "head", "ring"] (spDone K n) := by
  have G_marks_by := ok_marks_by (P := P) (w := w) (base := base) T
  refine T.D_is_done.fn.ok sc_is_done (fun vs H Q E h => ?_) (fun cdv A outer s H vs Q E hr h => ?_)
  · obtain ⟨v, d, h, r, Hd, R, rfl, _⟩ := h; rfl
  · obtain ⟨v, d, h, r, Hd, R, rfl, hv, ok, hn, hx, k⟩ := h
    refine ⟨_, (pss_cons (ps_if (pt_cmpR op_notIn_seq (pe_ix ix_seq (pv 0) pe_int (fun _ _ => rfl)) (pe_glob (v := .ref T.a_JOINTS) (by rfl) T.g_JOINTS rfl) (by rfl)) (pss_one (ps_ret (pe_call (G_marks_by) (hr.mono (by omega)) (by rfl) T.D_marks_by.mg T.D_marks_by.fn.kp T.D_marks_by.bd .nil pass0 (pa_cons (pv 0) (pa_cons (pv 1) (pa_cons (pv 2) pa_nil)))))) pss_nil)
      (pss_cons (ps_setLc (i := 3) (own := [("part", 4)]) rfl sc_is_done.nd rfl rfl (sw_true rfl rfl rfl (by decide +kernel)) (pi_tup (pe_ix ix_seq (pv 0) pe_int (fun _ _ => rfl))) (blkOk_by (own := [("part", 4)]) (N := ["duty", "head", "ring", "truths", "part"]) (sc := defScope s_is_done) (by decide +kernel)) (fun _ _ _ _ _ => (pg_name (i := 4) sc_is_done.nd rfl (by first | exact Or.inl rfl | exact Or.inr rfl))) (fun _ _ _ _ _ => pts_nil) (fun _ _ _ _ _ => (pe_call (G_is_done) (hr.mono (by omega)) (by rfl) T.D_is_done.mg T.D_is_done.fn.kp T.D_is_done.bd .nil pass0 (pa_cons (pv 4) (pa_cons (pv 1) (pa_cons (pv 2) pa_nil))))))
      (pss_one (ps_ret (pe_ifExp (pt_cmpR op_eq (pe_ix ix_seq (pv 0) pe_int (fun _ _ => rfl)) pe_str (nomark _)) (pe_callB (cr_all rfl) (by rfl) T.b_all bt_all (pa_cons (pv 3) pa_nil)) (pe_callB (cr_any rfl) (by rfl) T.b_any bt_any (pa_cons (pv 3) pa_nil))))))), ?_⟩
    cases d with
    | pl p =>
      obtain ⟨rest, e⟩ := pl_kind p
      have hv : Dp K H v (plD p) := hv
      refine s_if (b := true) (et_is (et_test (ed_notInSeq (K := K) (F := nn H) (ed_ixT (j := 0) (ds := .str (kindS p) :: rest) (ed_var rfl (dp_df (e ▸ hv))) ed_int rfl) (ed_joints T) (.inl rfl))) (by rw [kind_joint]; rfl)) (fun _ H1 s1 => ?_) (fun h => nomatch h)
      have fin : ∀ b H', Same H1 H' → (b = true ↔ InfE (stepP p) (eHR ("" : Str) Hd R)) → Q (.bl b) H' := fun b H' s' hb => by
        have := fulB_of (d := .pl p) hb
        rw [this]; exact k H' (s1.trans s')
      obtain ⟨⟨hd, hh, hw⟩, hrg, l1, ah, ar⟩ := hx.mono s1
      obtain ⟨ra, rfl, hrs⟩ : ∃ ra, r = .ref ra ∧ SqT K H1 ra (R.map V.str) := by
        cases hrg with
        | tup hs r => exact ⟨_, rfl, by have e := strs_dps r; rw [← e]; exact hs⟩
      refine ⟨_, rfl, _, rfl, _, rfl, ?_⟩
      rcases wordT hw with rfl | rfl
      · obtain ⟨ha, rfl, hhs⟩ : ∃ ha, h = .ref ha ∧ SqL K H1 ha (Hd.map V.str) := by
          cases hh with
          | lst hs r => exact ⟨_, rfl, by have e := strs_dps r; rw [← e]; exact hs⟩
        exact .inl ⟨v, p, ha, ra, Hd, R, rfl, dp_mono s1 hv, ok, hhs, hrs, l1, ah, ar, fin⟩
      · obtain ⟨ha, rfl, hhs⟩ : ∃ ha, h = .ref ha ∧ SqT K H1 ha (Hd.map V.str) := by
          cases hh with
          | tup hs r => exact ⟨_, rfl, by have e := strs_dps r; rw [← e]; exact hs⟩
        exact .inr ⟨v, p, ha, ra, Hd, R, rfl, dp_mono s1 hv, ok, hhs, hrs, l1, ah, ar, fin⟩
    | jn al a b =>
      have hn : max (dep a) (dep b) + 1 ≤ n := hn
      have hj : decide (jnS al ∈ (["all", "any"] : List Str)) = true := by cases al <;> decide
      have hv : Dp K H v (.tuple [.str (jnS al), .tuple [dtD a, dtD b]]) := hv
      have var : ∀ H1, Same H H1 → ED K (tVar 0) (start ["duty", "head", "ring", "truths", "part"] [v, h, r]) (nn H1) H1 (.tuple [.str (jnS al), .tuple [dtD a, dtD b]]) := fun H1 s1 => ed_var rfl (dp_df (dp_mono s1 hv))
      refine s_if (b := false) (et_is (et_test (ed_notInSeq (ed_ixT (j := 0) (d := .str (jnS al)) (var H (Same.refl _)) ed_int rfl) (ed_joints T) (.inl rfl))) (by rw [hj]; rfl)) (fun h => nomatch h) (fun _ H1 s1 => ?_)
      obtain ⟨av, pa, va, vb, rfl, hs1, hs2, ha, hb⟩ : ∃ av pa va vb, v = .ref av ∧ SqT K H av [.str (jnS al), .ref pa] ∧ SqT K H pa [va, vb] ∧ Dp K H va (dtD a) ∧ Dp K H vb (dtD b) := by
        cases hv with
        | tup hs r =>
          obtain _ | ⟨h1, r⟩ := r
          obtain _ | ⟨h2, r⟩ := r
          cases r; cases h1
          cases h2 with
          | tup hs2 r2 =>
            obtain _ | ⟨g1, r2⟩ := r2
            obtain _ | ⟨g2, r2⟩ := r2
            cases r2
            exact ⟨_, _, _, _, rfl, hs, hs2, g1, g2⟩
      refine ⟨_, rfl, .inr (.inl ⟨_, _, _, _, rfl, rfl, s1.stA hs1, rfl, ?_⟩)⟩
      refine ⟨pa, rfl, ⟨_, s1.stA hs2⟩, fun D hD => lc_tup (K := K) (a := pa) (xs := [va, vb]) (fun i H' => H' D = some (.lst ((([fulB (eHR ("" : Str) Hd R) a, fulB (eHR ("" : Str) Hd R) b] : List Bool).take i).map V.bl)) ∧ Same H1 H') ⟨upd_same, Same.newA hD⟩ (fun i H' _ p => (s1.trans p.2).stA hs2) ?_ ?_⟩
      · rintro i x H' hi ⟨eD, s2⟩
        have s12 := s1.trans s2
        have key : ∀ (c : Dt) (j : Nat) (x : V), dep c ≤ n - 1 → OkD c → Dp K H' x (dtD c) → ([fulB (eHR ("" : Str) Hd R) a, fulB (eHR ("" : Str) Hd R) b] : List Bool)[j]? = some (fulB (eHR ("" : Str) Hd R) c) → H' D = some (.lst ((([fulB (eHR ("" : Str) Hd R) a, fulB (eHR ("" : Str) Hd R) b] : List Bool).take j).map V.bl)) → j < 2 →
            spR [x, h, r] H' (fun y H4 => ∃ acc, H4 D = some (.lst acc) ∧ acc.length < sizeLine ∧ (upd H4 D (.lst (acc ++ [y]))) D = some (.lst ((([fulB (eHR ("" : Str) Hd R) a, fulB (eHR ("" : Str) Hd R) b] : List Bool).take (j + 1)).map V.bl)) ∧ Same H1 (upd H4 D (.lst (acc ++ [y])))) E0 := by
          intro c j x hd okc hx2 hj2 eD2 j2
          refine hR _ _ _ _ (by omega) ⟨x, c, h, r, Hd, R, rfl, hx2, okc, hd, hx.mono s12, fun H4 s4 => ⟨_, s4 _ _ eD2, lt5 (by rw [List.length_map, List.length_take]; omega), ?_, fun b' o e' => ?_⟩⟩
          · rw [upd_same, List.take_add_one, hj2, List.map_append]; rfl
          · rw [upd_ne (ne_of_none e' hD)]; exact s4 _ _ (s2 _ _ e')
        refine ⟨rfl, _, rfl, _, rfl, _, rfl, ?_⟩
        match i, hi with
        | 0, hi => cases hi; exact key a 0 va (by omega) ok.1 (dp_mono s12 ha) rfl eD (by decide)
        | 1, hi => cases hi; exact key b 1 vb (by omega) ok.2 (dp_mono s12 hb) rfl eD (by decide)
      · rintro H' ⟨eD, s2⟩
        have s12 := s1.trans s2
        have tv : ED K (tVar 3) [some (.ref av), some h, some r, some (.ref D), none] (nn H') H' (.list (([fulB (eHR ("" : Str) Hd R) a, fulB (eHR ("" : Str) Hd R) b] : List Bool).map .bool)) := ed_var rfl (dp_df (.lst (.inl (.inl eD)) (.cons (.bl _) (.cons (.bl _) .nil))))
        have kq : ET (tTest (tOp rEq (tOp (rIx K) (tVar 0) (tC (.int 0))) (tC (.str "all")))) [some (.ref av), some h, some r, some (.ref D), none] H' (decide (jnS al = "all")) := et_test (ed_eqS (ed_ixT (j := 0) (d := .str (jnS al)) (ed_var rfl (dp_df (dp_mono s12 hv))) ed_int rfl) ed_str)
        refine s_ret (K := K) (F := nn H') (d := .bool (fulB (eHR ("" : Str) Hd R) (.jn al a b))) (ed_if kq (fun hb => ed_is (ed_all tv) ?_) (fun hb => ed_is (ed_any tv) ?_)) fun u H5 s5 hu => ?_
        · have : al = true := by
            cases al with
            | true => rfl
            | false => exact absurd (of_decide_eq_true hb) (by decide)
          subst this
          rw [fulB_jn]; simp
        · have : al = false := by
            cases al with
            | false => rfl
            | true => exact absurd (show jnS true = "all" from rfl) (of_decide_eq_false hb)
          subst this
          rw [fulB_jn]; simp
        · cases hu; exact k H5 (s12.trans s5)
theorem ok_is_done : ∀ n : Nat, FnOk P w K mg base CX0 (n + 4) T.a_is_done T.d_is_done ["duty", "head", "ring"] (spDone K n)
  | 0 => step_done T 0 0 ((no_ok (P := P) (w := w) (base := base) 0 T.D_is_done sc_is_done).mono (by omega)) fun vs H Q E h => absurd rfl h
  | n + 1 => step_done T (n + 1) (n + 1) (ok_is_done n) fun vs H Q E _ h => h
end
end Ag

set_option Elab.async false
set_option linter.all false
set_option maxRecDepth 100000
set_option maxHeartbeats 1000000
namespace Ag
open PySem PySem.Spec PyProof.Rows L2
/-- what a BadRow that is let out leaves -/
def RowAt (C : Addr) (y : V) (H : Hp) (E : XK) : Prop := ∀ d H', Same H H' → H d = none → H' d = some (.xd [("row", y), ("what", .str "ring")]) → E (.ref C) (some d) H'
/-- what is no ring -/
def badRing : PyData → Bool
  | .list ds => !(ds.all isName) || ds.isEmpty
  | .tuple ds => !(ds.all isName) || ds.isEmpty
  | _ => true
section
variable {P : Program} {w : World} {K : PySem.W.Frag} {mg : Str → Option Value} {base : Heap} (T : Txt w K mg)
/-- the empty dict is no word -/
def spDictF : Sp := fun vs H Q _ => ∃ a, vs = [.ref a] ∧ H a = some (.dK []) ∧ ∀ H', Same H H' → Q (.bl false) H'
theorem ok_is_word_d : FnOk P w K mg base CX0 2 T.a_is_word T.d_is_word ["value"] spDictF := by
  have G_is_name := ok_is_name (P := P) (base := base) T
  refine T.D_is_word.fn.ok sc_is_word (fun vs H Q E h => ?_) (fun cdv A outer s H vs Q E hr h => ?_)
  · obtain ⟨a, rfl, _⟩ := h; rfl
  · obtain ⟨a, rfl, ha, k⟩ := h
    refine ⟨_, (pss_one (ps_ret (pe_and (pe_callB call_isi (by rfl) T.b_isinstance bt_isinstance (pa_cons (pv 0) (pa_cons (pe_bltn (v := .ty "tuple") (by rfl) T.b_tuple bt_tuple rfl) pa_nil))) (pe_one (pe_callB (cr_all rfl) (by rfl) T.b_all bt_all (pa_cons (pe_lc (own := [("call", 1)]) rfl sc_is_word.nd (pi_tup (pv 0)) (blkOk_by (own := [("call", 1)]) (N := ["value", "call"]) (sc := defScope s_is_word) (by decide +kernel)) (fun _ _ _ _ _ => (pg_name (i := 1) sc_is_word.nd rfl (by first | exact Or.inl rfl | exact Or.inr rfl))) (fun _ _ _ _ _ => pts_nil) (fun _ _ _ _ _ => (pe_call (G_is_name) (hr.mono (by omega)) (by rfl) T.D_is_name.mg T.D_is_name.fn.kp T.D_is_name.bd .nil pass0 (pa_cons (pv 1) pa_nil)))) pa_nil)))))), ?_⟩
    exact s_retB (K := K) (F := nn H) (b := false) (ed_andV (a := false) (b := true) (ed_isiE rfl ha (.inr (.inl rfl))) fun h => nomatch h) rfl k
theorem ok_is_word_x : FnOk P w K mg base CX0 2 T.a_is_word T.d_is_word ["value"] (spOr (spB K (fun d => gd d = true) isWord) spDictF) := fn_or (ok_is_word T) (ok_is_word_d T)
theorem rdc_orB {E : XK} {sp' : Sp} {f : PyData → Bool} {d : PyData} (hp : gd d = true) : RDC K (fun vs H Q => spOr (spB K (fun d => gd d = true) f) sp' vs H Q E) [d] (.bool (f d)) := fun F vs H1 hv Q q => .inl (rdc_spB (E := E) (pre := fun d => gd d = true) (f := f) hp F vs H1 hv Q q)
/-- a right ring -/
def spFul (K : PySem.W.Frag) (n : Nat) : Sp := fun vs H Q _ => ∃ v d h r Hd R rd, vs = [v, h, r] ∧ Dp K H v (dtD d) ∧ OkD d ∧ dep d ≤ n ∧ (∃ hd, Dp K H h hd ∧ wordD Hd hd) ∧ Dp K H r rd ∧ wordD R rd ∧ 1 ≤ R.length ∧ R.length ≤ 1000 ∧ (∀ x ∈ Hd, As 12 x) ∧ (∀ x ∈ R, As 12 x ∧ nameB x = true) ∧
  ∀ H', Same H H' → Q (.bl (fulB (eHR ("" : Str) Hd R) d)) H'
/-- a wrong one -/
def spFulBad (K : PySem.W.Frag) (B : Addr) : Sp := fun vs H _ E => ∃ v h r d, vs = [v, h, r] ∧ Dx K H r d ∧ (gd d = true ∨ d = .dict []) ∧ badRing d = true ∧ RowAt B r H E
theorem ed_dictF {σ : L2.St} {F : Addr → Prop} {H : Hp} {E : XK} {sp : Sp} {i : Nat} {a : Addr} (h : σ[i]? = some (some (.ref a))) (ha : H a = some (.dK [])) : ED K (tCall (spOr sp spDictF) [] E (tCons (tVar i) tNil)) σ F H (.bool false) := fun H1 s Q q =>
  ⟨_, h, .inr ⟨a, rfl, s _ _ ha, fun H' s' => q _ H' s' (.bl _)⟩⟩
theorem run_asg_ifF {σ : L2.St} {H : Hp} {t : TT} {ta tb : TE} {g : TG} {D : Ends} (h : ET t σ H false) (k : ∀ H1, Same H H1 → tb σ H1 fun x H2 => g x σ H2 D.nx) : tAsg (tIf t ta tb) g D σ H := h H (Same.refl _) _ fun H1 s1 => k H1 s1
theorem isword_strs (R : List Str) (h : ∀ x ∈ R, nameB x = true) : isWord (.tuple (R.map .str)) = true := by
  show (R.map PyData.str).all isName = true
  rw [List.all_map, List.all_eq_true]
  exact fun x hx => h x hx
theorem ok_fulfils (n : Nat) : FnOk P w K mg base (L2.CX P w) (n + 5) T.a_fulfils T.d_fulfils ["duty", "head", "ring"] (spOr (spFul K n) (spFulBad K T.C_BadRow)) := by
  have G_is_word := ok_is_word_x (P := P) (w := w) (base := base) T
  have G_is_done := ok_is_done (P := P) (w := w) (base := base) T n
  have G_BadRow___init__ := ok_BadRow_init (P := P) (base := base) T
  refine T.D_fulfils.fn.okX sc_fulfils (fun vs H Q E h => ?_) (fun cdv A outer s H vs Q E hr h => ?_)
  · rcases h with ⟨v, d, h, r, Hd, R, rd, rfl, _⟩ | ⟨v, h, r, d, rfl, _⟩ <;> rfl
  · rcases h with ⟨v, d, h, r, Hd, R, rd, rfl, hv, ok, hn, hh, hr2, hrw, l1, l2, ah, ar, k⟩ | ⟨v, h, r, d, rfl, hr2, hg, hb, kE⟩
    · refine ⟨_, (pss_cons (ps_set (i := 3) sc_fulfils.nd rfl (by first | exact Or.inl rfl | exact Or.inr rfl) (pe_ifExp (pt_val (pe_callB call_isi (by rfl) T.b_isinstance bt_isinstance (pa_cons (pv 2) (pa_cons (pe_bltn (v := .ty "list") (by rfl) T.b_list bt_list rfl) pa_nil)))) (pe_callTy call_tuple_of (by rfl) T.b_tuple bt_tuple (pa_cons (pv 2) pa_nil)) (pv 2)))
      (pss_cons (ps_if (PW.pt (pw_or (pt_not (pt_val (pe_call (G_is_word) (hr.mono (by omega)) (by rfl) T.D_is_word.mg T.D_is_word.fn.kp T.D_is_word.bd .nil pass0 (pa_cons (pv 3) pa_nil)))) (pw_or1 (pt_cmpR (op_eqD hr.units) (pv 3) (pe_tup pa_nil) (nomark _))))) (pss_one (ps_raise rfl (takes_of rfl rfl rfl rfl) (pmk_oex T.ox_BadRow T.ic_BadRow T.ti_BadRow (G_BadRow___init__) (hr.mono (by omega)) T.D_BadRow___init__.bd .nil pass0 (by rfl) T.g_BadRow (pa_cons pe_str (pa_cons (pv 2) pa_nil))))) pss_nil)
      (pss_one (ps_ret (pe_call (G_is_done) (hr.mono (by omega)) (by rfl) T.D_is_done.mg T.D_is_done.fn.kp T.D_is_done.bd .nil pass0 (pa_cons (pv 0) (pa_cons (pv 1) (pa_cons (pv 3) pa_nil)))))))), ?_⟩
      have aR : ∀ x ∈ R, As 12 x := fun x hx => (ar x hx).1
      obtain ⟨g1, g2⟩ := strs_sh aR l2
      refine s_set (K := K) (F := nn H) (d := .tuple (R.map .str)) (ed_if (et_B (ed_isi (T := "list") (ed_var rfl (dp_df hr2)) (.inr (.inr (.inl rfl))))) (fun hb => ed_is (ed_tupleOf (ed_var rfl (dp_df hr2)) hrw.1) (by rw [hrw.2])) (fun hb => ed_is (ed_var rfl (dp_df hr2)) ?_)) fun tv H1 s1 htv => ?_
      · rcases wordT hrw with rfl | rfl
        · cases hb
        · rfl
      · have dt : ∀ H2, Same H1 H2 → Dp K H2 tv (.tuple (R.map .str)) := fun H2 s2 => dp_mono s2 (df_dp htv)
        have vt : ED K (tVar 3) [some v, some h, some r, some tv] (nn H1) H1 (.tuple (R.map .str)) := ed_var rfl (dp_df (dt H1 (Same.refl _)))
        have tst : ET (tOr (tNot (tB (tCall (spOr (spB K (fun d => gd d = true) isWord) spDictF) [] E0 (tCons (tVar 3) tNil)))) (tTest (tOp (rEqD K) (tVar 3) (tTup tNil)))) [some v, some h, some r, some tv] H1 false := by
          refine et_is (et_or (et_not (et_B (ed_call (ea_cons vt ea_nil) (rdc_orB g1)))) fun _ => et_test (ed_eqD vt (ed_tup ea_nil (by decide)) g2 (by decide))) ?_
          rw [isword_strs R fun x hx => (ar x hx).2]
          have : PyData.eqv (.tuple (R.map .str)) (.tuple []) = decide (R = []) := eqvT R []
          rw [this, decide_eq_false fun q => by rw [q] at l1; exact absurd l1 (by decide)]; rfl
        dsimp only
        refine s_if (b := false) tst (fun h => nomatch h) fun _ H2 s2 => ?_
        · have s12 := s1.trans s2
          exact ⟨_, rfl, _, rfl, _, rfl, v, d, h, tv, Hd, R, rfl, dp_mono s12 hv, ok, hn, ⟨let ⟨hd, a, b⟩ := hh; ⟨hd, dp_mono s12 a, b⟩, dt H2 s2, l1, ah, aR⟩, fun H' s' => k H' (s12.trans s')⟩
    · refine ⟨_, (pss_cons (ps_set (i := 3) sc_fulfils.nd rfl (by first | exact Or.inl rfl | exact Or.inr rfl) (pe_ifExp (pt_val (pe_callB call_isi (by rfl) T.b_isinstance bt_isinstance (pa_cons (pv 2) (pa_cons (pe_bltn (v := .ty "list") (by rfl) T.b_list bt_list rfl) pa_nil)))) (pe_callTy call_tuple_of (by rfl) T.b_tuple bt_tuple (pa_cons (pv 2) pa_nil)) (pv 2)))
      (pss_cons (ps_if (PW.pt (pw_or (pt_not (pt_val (pe_call (G_is_word) (hr.mono (by omega)) (by rfl) T.D_is_word.mg T.D_is_word.fn.kp T.D_is_word.bd .nil pass0 (pa_cons (pv 3) pa_nil)))) (pw_or1 (pt_cmpR (op_eqD hr.units) (pv 3) (pe_tup pa_nil) (nomark _))))) (pss_one (ps_raise rfl (takes_of rfl rfl rfl rfl) (pmk_oex T.ox_BadRow T.ic_BadRow T.ti_BadRow (G_BadRow___init__) (hr.mono (by omega)) T.D_BadRow___init__.bd .nil pass0 (by rfl) T.g_BadRow (pa_cons pe_str (pa_cons (pv 2) pa_nil))))) pss_nil)
      (pss_one (ps_ret (pe_call (G_is_done) (hr.mono (by omega)) (by rfl) T.D_is_done.mg T.D_is_done.fn.kp T.D_is_done.bd .nil pass0 (pa_cons (pv 0) (pa_cons (pv 1) (pa_cons (pv 3) pa_nil)))))))), ?_⟩
      rcases hr2 with hr2 | ⟨rfl, ad, rfl, had⟩
      · have gdd : gd d = true := hg.elim id fun q => by subst q; cases hr2
        have dr : ∀ H1, Same H H1 → Dp K H1 r d := fun H1 s1 => dp_mono s1 hr2
        obtain ⟨td, gtd, htd, btd⟩ : ∃ td, gd td = true ∧ (isiB "list" d = true → isSeq d = true ∧ td = .tuple (seqOf d)) ∧ ((isiB "list" d = false → td = d) ∧ (isWord td = true → td = .tuple [])) := by
          cases d with
          | list ds =>
            refine ⟨.tuple ds, by simpa [gd] using gdd, fun _ => ⟨rfl, rfl⟩, (fun h => nomatch h), fun hw => ?_⟩
            have hw : ds.all isName = true := hw
            have hb : (!(ds.all isName) || ds.isEmpty) = true := hb
            rw [hw] at hb
            have he : ds = [] := List.isEmpty_iff.mp (by simpa using hb)
            rw [he]
          | tuple ds =>
            refine ⟨.tuple ds, gdd, (fun h => nomatch h), fun _ => rfl, fun hw => ?_⟩
            have hw : ds.all isName = true := hw
            have hb : (!(ds.all isName) || ds.isEmpty) = true := hb
            rw [hw] at hb
            have he : ds = [] := List.isEmpty_iff.mp (by simpa using hb)
            rw [he]
          | none => exact ⟨_, gdd, (fun h => nomatch h), fun _ => rfl, fun h => nomatch h⟩
          | bool b => exact ⟨_, gdd, (fun h => absurd h (show ¬ (("list" == "bool" || "list" == "int") = true) by decide)), fun _ => rfl, fun h => nomatch h⟩
          | int i => exact ⟨_, gdd, (fun h => nomatch h), fun _ => rfl, fun h => nomatch h⟩
          | str x => exact ⟨_, gdd, (fun h => nomatch h), fun _ => rfl, fun h => nomatch h⟩
          | dict kv => cases gdd
        refine s_set (K := K) (F := nn H) (d := td) (ed_if (et_B (ed_isi (T := "list") (ed_var rfl (dp_df hr2)) (.inr (.inr (.inl rfl))))) (fun hb => ed_is (ed_tupleOf (ed_var rfl (dp_df hr2)) (htd hb).1) (htd hb).2.symm) (fun hb => ed_is (ed_var rfl (dp_df hr2)) (btd.1 hb).symm)) fun tv H1 s1 htv => ?_
        have vt : ED K (tVar 3) [some v, some h, some r, some tv] (nn H1) H1 td := ed_var rfl (dp_df (df_dp htv))
        have tst : ET (tOr (tNot (tB (tCall (spOr (spB K (fun d => gd d = true) isWord) spDictF) [] E0 (tCons (tVar 3) tNil)))) (tTest (tOp (rEqD K) (tVar 3) (tTup tNil)))) [some v, some h, some r, some tv] H1 true := by
          refine et_is (b := true) (et_or (a := !isWord td) (b := true) (et_not (et_B (ed_call (ea_cons vt ea_nil) (rdc_orB gtd)))) fun hw => ?_) ?_
          · have e := btd.2 (by cases q : isWord td <;> simp_all)
            subst e
            exact et_is (et_test (ed_eqD vt (ed_tup ea_nil (by decide)) (by decide) (by decide))) (by simp [PyData.eqv, PyData.eqvAll])
          · cases isWord td <;> rfl
        dsimp only [gName]
        refine s_if (b := true) tst (fun _ H2 s2 => ?_) (fun h => nomatch h)
        · have s12 := s1.trans s2
          refine ⟨_, rfl, (by decide : 2 ≤ 1000), fun a ha => ?_⟩
          refine ⟨a, .str "ring", r, rfl, upd_same, fun d H' hd nda keep ea ed => ⟨rfl, d, _, ea, ed, ?_, kE d _ (fun b o e => ?_) ?_ upd_same⟩⟩
          · rw [upd_ne nda] at hd; exact hd
          · have e1 := s12 _ _ e
            have nba : b ≠ a := ne_of_none e1 ha
            rw [upd_ne nda] at hd
            rw [upd_ne (ne_of_none e1 hd), del_ne nba]
            exact keep b o nba (by rw [upd_ne nba]; exact e1)
          · rw [upd_ne nda] at hd; exact s12.freshA hd
      · refine run_asg_ifF (et_B (ed_isiE (T := "list") (K := K) (F := nn H) rfl had (.inr (.inr (.inl rfl))))) fun H1 s1 => ⟨_, rfl, ?_⟩
        have tst : ET (tOr (tNot (tB (tCall (spOr (spB K (fun d => gd d = true) isWord) spDictF) [] E0 (tCons (tVar 3) tNil)))) (tTest (tOp (rEqD K) (tVar 3) (tTup tNil)))) [some v, some h, some (.ref ad), some (.ref ad)] H1 true := by
          refine et_is (b := true) (et_or (a := true) (b := true) (et_is (et_not (et_B (ed_dictF (K := K) (F := nn H1) (i := 3) rfl (s1 _ _ had)))) rfl) fun h => nomatch h) rfl
        dsimp only [gName]
        refine s_if (b := true) tst (fun _ H2 s2 => ?_) (fun h => nomatch h)
        have s12 := s1.trans s2
        refine ⟨_, rfl, (by decide : 2 ≤ 1000), fun a ha => ?_⟩
        refine ⟨a, .str "ring", .ref ad, rfl, upd_same, fun d H' hd nda keep ea ed => ⟨rfl, d, _, ea, ed, ?_, kE d _ (fun b o e => ?_) ?_ upd_same⟩⟩
        · rw [upd_ne nda] at hd; exact hd
        · have e1 := s12 _ _ e
          have nba : b ≠ a := ne_of_none e1 ha
          rw [upd_ne nda] at hd
          rw [upd_ne (ne_of_none e1 hd), del_ne nba]
          exact keep b o nba (by rw [upd_ne nba]; exact e1)
        · rw [upd_ne nda] at hd; exact s12.freshA hd
end
end Ag

set_option Elab.async false
set_option linter.all false
set_option maxRecDepth 100000
set_option maxHeartbeats 1000000
namespace Ag
open PySem PySem.Spec PyProof.Rows L2
theorem nm_as {i : Nat} {s : Str} (hi : i < 32) (h : Nm i s) : As 12 s := by
  obtain ⟨a, b, rfl, h1, h2, h3⟩ := h
  obtain ⟨d1, d2, d3⟩ := digs_ok i hi
  have hl : (S (a ++ Digs i ++ b)).length = a.length + (Digs i).length + b.length := by rw [SX.S_len, List.length_append, List.length_append]
  refine ⟨fun c hc => ?_, by omega⟩
  have hc : c ∈ a ++ Digs i ++ b := hc
  rcases List.mem_append.mp hc with hc | hc
  · rcases List.mem_append.mp hc with hc | hc
    · have := h3 c (List.mem_append_left _ hc); omega
    · have := d3 c hc; omega
  · have := h3 c (List.mem_append_right _ hc); omega
/-- calls: names, plain, some of them -/
def GoodNames (ns : List Str) : Prop := ns.Nodup ∧ ns.length ≤ 4 ∧ 1 ≤ ns.length ∧ ∀ s ∈ ns, nameB s = true ∧ As 12 s
theorem good_names {m : Nat} {ns : List Str} (h : Nms m ns) (h1 : 1 ≤ m) (h4 : m ≤ 4) : GoodNames ns := by
  refine ⟨nms_nodup (by omega) h, by rw [nms_len h]; exact h4, by rw [nms_len h]; exact h1, fun s hs => ?_⟩
  obtain ⟨j, hj, hn⟩ := nms_mem h hs
  exact ⟨nm_name (by omega) hn, nm_as (by omega) hn⟩
theorem cut2 (ys : List V) : cutV ys none (some 2) = ys.take 2 := by
  unfold cutV
  rw [HT.sIx_none]
  have e : HT.sIx ys.length ys.length (some (2 : Int)) = min 2 ys.length := HT.sIx_nat ..
  rw [e, List.drop_zero, Nat.sub_zero]
  by_cases h : 2 ≤ ys.length
  · rw [Nat.min_eq_left h]
  · rw [Nat.min_eq_right (by omega), List.take_length, List.take_of_length_le (by omega)]
section
variable {K : PySem.W.Frag} {σ : L2.St} {H : Hp}
theorem run_ifcA {t : TT} {b : Bool} {v1 v2 : V} {Q : List V → Hp → Prop} (h : ET t σ H b) (k : ∀ H1, Same H H1 → Q [if b then v1 else v2] H1) : tCons (tIf t (tC v1) (tC v2)) tNil σ H Q := h H (Same.refl _) _ fun H1 s1 => by
  cases b with
  | true => exact k H1 s1
  | false => exact k H1 s1
end
theorem pick_str {xs : List Str} {i : Nat} {v : V} (h : (xs.map V.str)[i]? = some v) : ∃ s ∈ xs, v = .str s := by
  obtain ⟨s, hs, e⟩ := List.mem_map.mp (List.mem_of_getElem? h)
  exact ⟨s, hs, e.symm⟩
def spSP (K : PySem.W.Frag) : Sp := fun vs H Q _ => ∃ (p c cs : Addr) (ns : List Str) (n : Nat), vs = [.ref p, .ref cs] ∧ Pen p c n H ∧ SqT K H cs (ns.map V.str) ∧ GoodNames ns ∧ n + 1000000 < 1000000000000 ∧
  ∀ v q H', Dp K H' v (plD q) → OkP q → (∀ x ∈ nmP q, x ∈ ns) → But p H H' → Pen p c (n + 100) H' → Q v H'
section
variable {P : Program} {w : World} {K : PySem.W.Frag} {mg : Str → Option Value} {base : Heap} (T : Txt w K mg)
theorem ok_law_some_plain : FnOk P w K mg base CX0 3 T.a_law_some_plain T.d_law_some_plain ["pen", "calls"] (spSP K) := by
  have G_law_pick := ok_pick (P := P) (base := base) T
  have G_law_shuffled := ok_shuf (P := P) (base := base) T
  have G_law_draw := ok_draw (P := P) (base := base) T
  refine T.D_law_some_plain.fn.ok sc_law_some_plain (fun vs H Q E h => ?_) (fun cdv A outer s H vs Q E hr h => ?_)
  · obtain ⟨p, c, cs, ns, n, rfl, _⟩ := h; rfl
  · obtain ⟨p, c, cs, ns, n, rfl, hP, hs, ⟨nd, n4, n1, hN⟩, nb, k⟩ := h
    refine ⟨_, (pss_cons (ps_set (i := 2) sc_law_some_plain.nd rfl (by first | exact Or.inl rfl | exact Or.inr rfl) (pe_call (G_law_pick) (hr.mono (by omega)) (by rfl) T.D_law_pick.mg T.D_law_pick.fn.kp T.D_law_pick.bd .nil pass0 (pa_cons (pv 0) (pa_cons (pe_lst (pa_cons pe_str (pa_cons pe_str (pa_cons pe_str (pa_cons pe_str (pa_cons pe_str (pa_cons pe_str pa_nil))))))) pa_nil))))
      (pss_cons (ps_if (pt_cmpR op_eq (pv 2) pe_str (nomark _)) (pss_one (ps_ret (pe_tup (pa_cons (pv 2) (pa_cons (pe_call (G_law_pick) (hr.mono (by omega)) (by rfl) T.D_law_pick.mg T.D_law_pick.fn.kp T.D_law_pick.bd .nil pass0 (pa_cons (pv 0) (pa_cons (pv 1) pa_nil))) pa_nil))))) pss_nil)
      (pss_cons (ps_if (PW.pt (pw_and (pt_cmpR op_eq (pv 2) pe_str (nomark _)) (pw_and1 (pt_cmpR op_gt (pe_callB call_len (by rfl) T.b_len bt_len (pa_cons (pv 1) pa_nil)) pe_int (nomark _))))) (pss_one (ps_ret (pe_op op_catA (pe_tup (pa_cons (pv 2) pa_nil)) (pe_callTy call_tuple_of (by rfl) T.b_tuple bt_tuple (pa_cons (pe_slice sl_list (pe_call (G_law_shuffled) (hr.mono (by omega)) (by rfl) T.D_law_shuffled.mg T.D_law_shuffled.fn.kp T.D_law_shuffled.bd .nil pass0 (pa_cons (pv 0) (pa_cons (pv 1) pa_nil))) po_none (po_some pe_int)) pa_nil))))) pss_nil)
      (pss_cons (ps_set (i := 2) sc_law_some_plain.nd rfl (by first | exact Or.inl rfl | exact Or.inr rfl) (pe_ifExp (pt_cmpR op_eq (pv 2) pe_str (nomark _)) pe_str (pv 2)))
      (pss_one (ps_ret (pe_tup (pa_cons (pv 2) (pa_cons (pe_callTy call_tuple_of (by rfl) T.b_tuple bt_tuple (pa_cons (pe_lc (own := [("spot", 3)]) rfl sc_law_some_plain.nd (pi_range1 (by rfl) T.b_range (pa_cons (pe_op op_add pe_int (pe_call (G_law_draw) (hr.mono (by omega)) (by rfl) T.D_law_draw.mg T.D_law_draw.fn.kp T.D_law_draw.bd .nil pass0 (pa_cons (pv 0) (pa_cons (pe_ifExp (pt_cmpR op_eq (pv 2) pe_str (nomark _)) pe_int pe_int) pa_nil)))) pa_nil)) (blkOk_by (own := [("spot", 3)]) (N := ["pen", "calls", "kind", "spot"]) (sc := defScope s_law_some_plain) (by decide +kernel)) (fun _ _ _ _ _ => (pg_name (i := 3) sc_law_some_plain.nd rfl (by first | exact Or.inl rfl | exact Or.inr rfl))) (fun _ _ _ _ _ => pts_nil) (fun _ _ _ _ _ => (pe_call (G_law_pick) (hr.mono (by omega)) (by rfl) T.D_law_pick.mg T.D_law_pick.fn.kp T.D_law_pick.bd .nil pass0 (pa_cons (pv 0) (pa_cons (pv 1) pa_nil))))) pa_nil)) pa_nil))))))))), ?_⟩
    refine ⟨_, rfl, (by show 6 ≤ sizeLine; decide), fun l hl => ⟨p, c, l, (["call", "call", "row", "steps", "answer", "never"] : List Str).map V.str, n, rfl, hP.upd (hP.ne_p hl) (hP.ne_c hl), .inl (SqL.of upd_same), by decide, by decide, by omega, fun i kv H1 hk b1 P1 => ?_⟩⟩
    obtain ⟨kd, hkd, rfl⟩ := pick_str hk
    replace b1 : But p H H1 := (But.of (Same.newA hl)).trans b1
    have hs1 := hP.st b1 hs
    clear hk
    have hkv : ∀ H2, ED K (tVar 2) [some (.ref p), some (.ref cs), some (.str kd), none] (fun _ => True) H2 (.str kd) := fun H2 => ed_var rfl (.str _)
    refine s_if (et_test (ed_eqS (hkv H1) (ed_str (x := "call")))) (fun hb H2 s2 => ?_) (fun hb H2 s2 => ?_)
    · have hb := of_decide_eq_true hb
      refine ⟨_, rfl, _, rfl, _, rfl, p, c, cs, ns.map V.str, n + 1, rfl, P1.same s2, .inr (s2.stA hs1), by rw [List.length_map]; omega, by rw [List.length_map]; omega, by omega, fun i nv H3 hn b3 P3 => ⟨(by show 2 ≤ sizeLine; decide), fun t ht => ?_⟩⟩
      obtain ⟨nm, hm, rfl⟩ := pick_str hn
      subst hb
      refine k _ (.call nm) _ (.tup (.of upd_same) (.cons (.str _) (.cons (.str _) .nil))) ⟨fun x hx => by rw [List.mem_singleton.mp hx]; exact (hN nm hm).2, ⟨Nat.le_refl 1, (by show 1 ≤ 4; decide)⟩, fun a b e => nomatch e⟩ (fun x hx => by rw [List.mem_singleton.mp hx]; exact hm) ((b1.trans (.of s2)).trans (b3.trans (.of (Same.newA ht)))) (((P3.more (by omega)).upd (P3.ne_p ht) (P3.ne_c ht)))
    · have nc := of_decide_eq_false hb
      have P2 := P1.same s2
      have hs2 := s2.stA hs1
      have b2 := b1.trans (.of s2)
      have hcalls : ED K (tVar 1) [some (.ref p), some (.ref cs), some (.str kd), none] (fun _ => True) H2 (.tuple (ns.map .str)) := ed_var rfl (.tup hs2 (dfs_strs ns))
      refine s_if (et_and (et_test (ed_eqS (hkv H2) (ed_str (x := "answer")))) fun _ => et_test (ed_gt (ed_len hcalls rfl) (ed_int (i := 1)))) (fun hb H3 s3 => ?_) (fun hb H3 s3 => ?_)
      · obtain ⟨h1, h2⟩ := Bool.and_eq_true_iff.mp hb
        have h1 := of_decide_eq_true h1
        have h2 := of_decide_eq_true h2
        subst h1
        have P3 := P2.same s3
        refine ⟨_, rfl, (by show 1 ≤ sizeLine; decide), fun t ht => ⟨_, rfl, _, rfl, p, c, cs, ns.map V.str, n + 1, rfl, P3.upd (P3.ne_p ht) (P3.ne_c ht), .inr ((Same.newA ht).stA (s3.stA hs2)), by rw [List.length_map]; omega, by omega, fun m ys H4 pm hm e4 b4 P4 => ?_⟩⟩
        obtain ⟨zs, pz, rfl⟩ := vstr_perm pm
        have lz : 2 ≤ zs.length := by
          rw [pz.length_eq]
          have : (lenP (.tuple (ns.map PyData.str)) : Int) = ns.length := by simp [lenP]
          omega
        match zs, pz, lz, e4 with
        | a :: b :: zr, pz, lz, e4 =>
          have ha := hN a (pz.mem_iff.mp (by simp))
          have hb' := hN b (pz.mem_iff.mp (by simp))
          have nab : a ≠ b := by
            have := pz.nodup_iff.mpr nd
            simp at this
            exact this.1.1
          refine ⟨2, rfl, m, _, rfl, SqL.of e4, fun q hq => ⟨_, _, rfl, .inl ⟨SqL.of upd_same, fun r hr2 => ?_⟩⟩⟩
          have hq4 : H4 q = none := hq
          have nqr : q ≠ r := fun z => by rw [z, upd_same] at hr2; cases hr2
          have hr4 : H4 r = none := by rw [upd_ne (Ne.symm nqr)] at hr2; exact hr2
          have ntp : t ≠ p := P3.ne_p ht
          have et4 : H4 t = some (.tup [.str "answer"]) := b4 t _ ntp upd_same
          have ntq : t ≠ q := ne_of_none et4 hq4
          have ntr : t ≠ r := ne_of_none et4 hr4
          have ec : cutV ((a :: b :: zr).map V.str) none (some 2) = [.str a, .str b] := by rw [cut2]; rfl
          refine ⟨t, r, [.str "answer"], [.str a, .str b], rfl, rfl, .of (by rw [upd_ne ntr, upd_ne ntq]; exact et4), .of (by rw [← ec]; exact upd_same), (by show 3 ≤ sizeLine; decide), (fun z => nomatch z), (fun _ z => nomatch z), fun _ _ f hf => ?_⟩
          have s46 : Same H4 (upd (upd (upd H4 q (.lst (cutV ((a :: b :: zr).map V.str) none (some 2)))) r (.tup (cutV ((a :: b :: zr).map V.str) none (some 2)))) f (.tup ([.str "answer"] ++ [.str a, .str b]))) := ((Same.newA hq).trans (Same.newA hr2)).trans (Same.newA hf)
          have pa := pz.mem_iff.mp (show a ∈ a :: b :: zr by simp)
          have pb := pz.mem_iff.mp (show b ∈ a :: b :: zr by simp)
          refine k _ (.answer a b) _ (.tup (.of upd_same) (.cons (.str _) (.cons (.str _) (.cons (.str _) .nil)))) ⟨fun x hx => ?_, ⟨(by show 1 ≤ 2; decide), (by show 2 ≤ 4; decide)⟩, fun a' b' e => by cases e; exact nab⟩ (fun x hx => ?_) (b2.trans ((But.of (s3.trans (Same.newA ht))).trans (b4.trans (.of s46)))) ((P4.more (by rw [List.length_map]; omega)).same s46)
          · rcases List.mem_cons.mp hx with rfl | hx
            · exact ha.2
            · rw [List.mem_singleton.mp hx]; exact hb'.2
          · rcases List.mem_cons.mp hx with rfl | hx
            · exact pa
            · rw [List.mem_singleton.mp hx]; exact pb
      · have P3 := P2.same s3
        have hs3 := s3.stA hs2
        have b3 := b2.trans (.of s3)
        have hk2 : (if kd = "answer" then ("row" : Str) else kd : Str) ∈ (["row", "steps", "never"] : List Str) := by
          by_cases q : kd = "answer"
          · rw [if_pos q]; decide +kernel
          · rw [if_neg q]
            simp only [List.mem_cons, List.not_mem_nil, or_false] at hkd ⊢
            rcases hkd with h | h | h | h | h | h
            · exact absurd h nc
            · exact absurd h nc
            · exact .inl h
            · exact .inr (.inl h)
            · exact absurd h q
            · exact .inr (.inr h)
        refine s_set (F := fun _ => True) (d := .str (if kd = "answer" then ("row" : Str) else kd)) (ed_if (et_test (ed_eqS (hkv H3) (ed_str (x := "answer")))) (fun q => ed_is (ed_str (x := "row")) ?_) fun q => ed_is (hkv H3) ?_) fun v4 H4 s4 hv4 => ?_
        · rw [if_pos (of_decide_eq_true q)]
        · rw [if_neg (of_decide_eq_false q)]
        cases hv4
        generalize (if kd = "answer" then ("row" : Str) else kd) = k2 at hk2
        have P4 := P3.same s4
        have hs4 := s4.stA hs3
        have b4 := b3.trans (.of s4)
        have hkv2 : ∀ H2, ED K (tVar 2) [some (.ref p), some (.ref cs), some (.str k2), none] (fun _ => True) H2 (.str k2) := fun H2 => ed_var rfl (.str _)
        clear hkv hb nc hkd hs2 hs3 P2 P3 b2 b3 hs1 P1 b1
        refine ⟨_, rfl, _, rfl, run_ifcA (et_test (ed_eqS (hkv2 H4) (ed_str (x := "steps")))) fun H5 s5 => ?_⟩
        refine ⟨p, c, if decide (k2 = "steps") then 3 else 2, n + 1, ?_, P4.same s5, ?_, ?_, by omega, fun d H6 d0 d1 b6 P6 => ?_⟩
        · cases decide (k2 = "steps") <;> rfl
        · cases decide (k2 = "steps") <;> decide
        · cases decide (k2 = "steps") <;> decide
        have d3 : d < 3 := by
          refine Int.lt_of_lt_of_le d1 ?_
          cases decide (k2 = "steps") <;> decide
        have b56 := (b4.trans (.of s5)).trans b6
        have hs6 := (P4.same s5).st b6 (s5.stA hs4)
        clear b4 b6 hs4 P4
        refine ⟨_, _, rfl, rfl, _, rfl, by omega, by omega, fun D hD => lc_range (lo := 0) (n := (2 + d).toNat) (fun i H' => ∃ ms : List Str, H' D = some (.lst (ms.map V.str)) ∧ ms.length = i ∧ (∀ s ∈ ms, s ∈ ns) ∧ But p H6 H' ∧ Pen p c (n + 2 + i) H')
          ⟨[], upd_same, rfl, (fun s e => by cases e), .of (Same.newA hD), P6.upd (P6.ne_p hD) (P6.ne_c hD)⟩ ?_ ?_⟩
        · rintro i H' hi ⟨ms, e1, ml, hm, b7, P7⟩
          refine ⟨rfl, ?_⟩
          refine ⟨_, rfl, _, rfl, p, c, cs, ns.map V.str, n + 2 + i, rfl, P7, .inr (P6.st b7 hs6), by rw [List.length_map]; omega, by rw [List.length_map]; omega, by omega, fun j nv H8 hn b8 P8 => ?_⟩
          obtain ⟨nm, hnm, rfl⟩ := pick_str hn
          have e2 : H8 D = some (.lst (ms.map V.str)) := b8 _ _ (P6.ne_p hD) e1
          refine ⟨_, e2, lt5 (by rw [List.length_map]; omega), ms ++ [nm], ?_, by rw [List.length_append, ml]; rfl, fun s e => ?_, ?_, ?_⟩
          · rw [List.map_append]; exact upd_same
          · rcases List.mem_append.mp e with e | e
            · exact hm s e
            · rw [List.mem_singleton] at e; subst e; exact hnm
          · intro b u nb e
            rw [upd_ne (ne_of_none e hD)]
            exact b8 _ _ nb (b7 _ _ nb e)
          · exact (P8.more (by omega)).upd (P6.ne_p hD) (P6.ne_c hD)
        · rintro H' ⟨ms, e1, ml, hm, b7, P7⟩
          refine ⟨_, _, rfl, .inl ⟨SqL.of e1, fun r hr2 => ⟨(by show 2 ≤ sizeLine; decide), fun f hf => ?_⟩⟩⟩
          have nrf : r ≠ f := ne_of_none upd_same hf
          have s8 : Same H' (upd (upd H' r (.tup (ms.map V.str))) f (.tup [.str k2, .ref r])) := (Same.newA hr2).trans (Same.newA hf)
          have lm : 2 ≤ ms.length ∧ ms.length ≤ 4 := by omega
          obtain ⟨kd, rfl⟩ : ∃ kd, k2 = kdS kd := by
            simp only [List.mem_cons, List.not_mem_nil, or_false] at hk2
            rcases hk2 with rfl | rfl | rfl
            · exact ⟨.row, rfl⟩
            · exact ⟨.steps, rfl⟩
            · exact ⟨.never, rfl⟩
          refine k _ (.many kd ms) _ (.tup (.of upd_same) (.cons (.str _) (.cons (.tup (.of (by rw [upd_ne nrf]; exact upd_same)) (dps_strs ms)) .nil))) ⟨fun x hx => (hN x (hm x hx)).2, ⟨by show 1 ≤ ms.length; omega, by show ms.length ≤ 4; omega⟩, fun a b e => nomatch e⟩ (fun x hx => hm x hx) ((b56.trans b7).trans (.of s8)) ((P7.more (by omega)).same s8)
def Cst (k : Nat) : Nat := 100 * 3 ^ k
theorem Cst_pos (k : Nat) : 100 ≤ Cst k := by
  unfold Cst
  have : 0 < 3 ^ k := Nat.pow_pos (by decide)
  omega
theorem Cst_succ (k : Nat) : Cst (k + 1) = 3 * Cst k := by unfold Cst; rw [Nat.pow_succ]; omega
def nmD : Dt → List Str
  | .pl p => nmP p
  | .jn _ a b => nmD a ++ nmD b
def spSD (K : PySem.W.Frag) (k : Nat) : Sp := fun vs H Q _ => ∃ (p c cs : Addr) (ns : List Str) (n many : Nat), vs = [.ref p, .ref cs, .int (many : Int), .int (k : Int)] ∧ Pen p c n H ∧ SqT K H cs (ns.map V.str) ∧ GoodNames ns ∧ 1 ≤ many ∧ many ≤ 4 ∧ n + Cst k + 1000000 < 1000000000000 ∧
  ∀ v d H', Dp K H' v (dtD d) → OkD d → dep d ≤ k → (∀ x ∈ nmD d, x ∈ ns) → But p H H' → Pen p c (n + Cst k) H' → Q v H'
theorem step_sd (k m : Nat) {spR : Sp} (hm0 : 3 ≤ m) (G_law_some_duty : FnOk P w K mg base CX0 m T.a_law_some_duty T.d_law_some_duty ["pen", "calls", "many", "deep"] spR) (hG : ∀ j, k = j + 1 → spR = spSD K j) :
    FnOk P w K mg base CX0 (m + 1) T.a_law_some_duty T.d_law_some_duty ["pen", "calls", "many", "deep"] (spSD K k) := by
  have G_law_pick := ok_pick (P := P) (base := base) T
  have G_law_some_plain := ok_law_some_plain (P := P) (base := base) T
  have G_law_draw := ok_draw (P := P) (base := base) T
  refine T.D_law_some_duty.fn.ok sc_law_some_duty (fun vs H Q E h => ?_) (fun cdv A outer s H vs Q E hr h => ?_)
  · obtain ⟨p, c, cs, ns, n, many, rfl, _⟩ := h; rfl
  · obtain ⟨p, c, cs, ns, n, many, rfl, hP, hs, hN, m1, m4, nb, kk⟩ := h
    refine ⟨_, (pss_cons (ps_if (PW.pt (pw_or (pt_cmpR op_lt (pv 2) pe_int (nomark _)) (pw_or1 (pt_cmpR op_eq (pv 3) pe_int (nomark _))))) (pss_one (ps_ret (pe_call (G_law_some_plain) (hr.mono (by omega)) (by rfl) T.D_law_some_plain.mg T.D_law_some_plain.fn.kp T.D_law_some_plain.bd .nil pass0 (pa_cons (pv 0) (pa_cons (pv 1) pa_nil))))) pss_nil)
      (pss_cons (ps_set (i := 4) sc_law_some_duty.nd rfl (by first | exact Or.inl rfl | exact Or.inr rfl) (pe_op op_add pe_int (pe_call (G_law_draw) (hr.mono (by omega)) (by rfl) T.D_law_draw.mg T.D_law_draw.fn.kp T.D_law_draw.bd .nil pass0 (pa_cons (pv 0) (pa_cons (pe_op op_sub (pv 2) pe_int) pa_nil)))))
      (pss_cons (ps_set (i := 5) sc_law_some_duty.nd rfl (by first | exact Or.inl rfl | exact Or.inr rfl) (pe_lst (pa_cons (pe_call (G_law_some_duty) (hr.mono (by omega)) (by rfl) T.D_law_some_duty.mg T.D_law_some_duty.fn.kp T.D_law_some_duty.bd .nil pass0 (pa_cons (pv 0) (pa_cons (pv 1) (pa_cons (pv 4) (pa_cons (pe_op op_sub (pv 3) pe_int) pa_nil))))) (pa_cons (pe_call (G_law_some_duty) (hr.mono (by omega)) (by rfl) T.D_law_some_duty.mg T.D_law_some_duty.fn.kp T.D_law_some_duty.bd .nil pass0 (pa_cons (pv 0) (pa_cons (pv 1) (pa_cons (pe_op op_sub (pv 2) (pv 4)) (pa_cons (pe_op op_sub (pv 3) pe_int) pa_nil))))) pa_nil))))
      (pss_one (ps_ret (pe_tup (pa_cons (pe_call (G_law_pick) (hr.mono (by omega)) (by rfl) T.D_law_pick.mg T.D_law_pick.fn.kp T.D_law_pick.bd .nil pass0 (pa_cons (pv 0) (pa_cons (pe_lst (pa_cons pe_str (pa_cons pe_str pa_nil))) pa_nil))) (pa_cons (pe_callTy call_tuple_of (by rfl) T.b_tuple bt_tuple (pa_cons (pv 5) pa_nil)) pa_nil)))))))), ?_⟩
    have c100 := Cst_pos k
    refine s_if (et_or (et_test (ed_lt (K := K) (F := fun _ => True) (ed_var (i := 2) rfl (.int _)) (ed_int (i := 2)))) fun _ => et_test (ed_eqI (K := K) (F := fun _ => True) (ed_var (i := 3) rfl (.int _)) (ed_int (i := 0)))) (fun hb H1 s1 => ?_) (fun hb H1 s1 => ?_)
    · refine ⟨_, rfl, _, rfl, p, c, cs, ns, n, rfl, hP.same s1, s1.stA hs, hN, by omega, fun v q H2 hd hp hq b2 P2 => ?_⟩
      exact kk v (.pl q) H2 hd hp (Nat.zero_le _) hq ((But.of s1).trans b2) (P2.more (by omega))
    · obtain ⟨h1, h2⟩ := Bool.or_eq_false_iff.mp hb
      have h1 := of_decide_eq_false h1
      have h2 := of_decide_eq_false h2
      obtain ⟨j, rfl⟩ : ∃ j, k = j + 1 := ⟨k - 1, by omega⟩
      obtain rfl := hG j rfl
      rw [Cst_succ] at kk nb
      have cj := Cst_pos j
      have P1 := hP.same s1
      refine ⟨_, rfl, _, rfl, _, _, rfl, rfl, p, c, (many : Int) - 1, n, rfl, P1, by omega, by omega, by omega, fun d H2 d0 d1 b2 P2 => ?_⟩
      refine ⟨_, _, rfl, rfl, ?_⟩
      obtain ⟨e, rfl⟩ : ∃ e : Nat, d = e := ⟨d.toNat, by omega⟩
      have hs2 := P1.st b2 (s1.stA hs)
      refine ⟨_, rfl, _, rfl, _, rfl, _, rfl, _, _, rfl, rfl, p, c, cs, ns, n + 1, e + 1, ?_, P2, hs2, hN, by omega, by omega, by omega, fun v1 d1 H3 hd1 g1 p1 a1 b3 P3 => ?_⟩
      · show [V.ref p, V.ref cs, V.int (1 + (e : Int)), V.int (((j + 1 : Nat) : Int) - 1)] ++ [] = _
        rw [show (1 : Int) + (e : Int) = ((e + 1 : Nat) : Int) by omega, show (((j + 1 : Nat) : Int) - 1) = (j : Int) by omega]; rfl
      have hs3 := P2.st b3 hs2
      refine ⟨_, rfl, _, rfl, _, rfl, _, rfl, _, _, rfl, rfl, _, rfl, _, _, rfl, rfl, p, c, cs, ns, n + 1 + Cst j, many - (e + 1), ?_, P3, hs3, hN, by omega, by omega, by omega, fun v2 d2 H4 hd2 g2 p2 a2 b4 P4 => ?_⟩
      · show [V.ref p, V.ref cs, V.int ((many : Int) - (1 + (e : Int))), V.int (((j + 1 : Nat) : Int) - 1)] ++ [] = _
        rw [show (many : Int) - (1 + (e : Int)) = ((many - (e + 1) : Nat) : Int) by omega, show (((j + 1 : Nat) : Int) - 1) = (j : Int) by omega]; rfl
      have hd1' := P3.dp b4 hd1
      refine ⟨(by show 2 ≤ sizeLine; decide), fun l hl => ?_⟩
      have P5 := P4.upd (o := .lst [v1, v2]) (P4.ne_p hl) (P4.ne_c hl)
      refine ⟨_, rfl, (by show 2 ≤ sizeLine; decide), fun q hq => ⟨p, c, q, (["all", "any"] : List Str).map V.str, n + 1 + Cst j + Cst j, rfl, P5.upd (P5.ne_p hq) (P5.ne_c hq), .inl (SqL.of upd_same), by decide, by decide, by omega, fun i kv H6 hk b6 P6 => ?_⟩⟩
      obtain ⟨kd, hkd, rfl⟩ := pick_str hk
      obtain ⟨al, rfl⟩ : ∃ al, kd = jnS al := by
        simp only [List.mem_cons, List.not_mem_nil, or_false] at hkd
        rcases hkd with rfl | rfl
        · exact ⟨true, rfl⟩
        · exact ⟨false, rfl⟩
      have nlq : l ≠ q := ne_of_none upd_same hq
      have el : H6 l = some (.lst [v1, v2]) := b6 _ _ (P4.ne_p hl) (by rw [upd_ne nlq]; exact upd_same)
      have bAll : But p H4 H6 := (But.of ((Same.newA hl).trans (Same.newA hq))).trans b6
      refine ⟨_, rfl, _, _, rfl, .inl ⟨SqL.of el, fun t ht => ⟨(by show 2 ≤ sizeLine; decide), fun f hf => ?_⟩⟩⟩
      have ntf : t ≠ f := ne_of_none upd_same hf
      have s7 : Same H6 (upd (upd H6 t (.tup [v1, v2])) f (.tup [.str (jnS al), .ref t])) := (Same.newA ht).trans (Same.newA hf)
      have e1 := dp_mono s7 (P4.dp bAll hd1')
      have e2 := dp_mono s7 (P4.dp bAll hd2)
      refine kk _ (.jn al d1 d2) _ (.tup (.of upd_same) (.cons (.str _) (.cons (.tup (.of (by rw [upd_ne ntf]; exact upd_same)) (.cons e1 (.cons e2 .nil))) .nil))) ⟨g1, g2⟩ ?_ (fun x hx => ?_) (((((But.of s1).trans b2).trans b3).trans b4).trans (bAll.trans (.of s7))) ((P6.more (by omega)).same s7)
      · show max (dep d1) (dep d2) + 1 ≤ j + 1; omega
      · exact (List.mem_append.mp hx).elim (a1 x) (a2 x)
theorem ok_law_some_duty : ∀ k, FnOk P w K mg base CX0 (k + 4) T.a_law_some_duty T.d_law_some_duty ["pen", "calls", "many", "deep"] (spSD K k)
  | 0 => step_sd T 0 3 (Nat.le_refl 3) (no_ok 2 T.D_law_some_duty sc_law_some_duty) fun j e => by cases e
  | k + 1 => step_sd T (k + 1) (k + 4) (by omega) (ok_law_some_duty k) fun j e => by cases e; rfl
end
end Ag

set_option Elab.async false
set_option linter.all false
set_option maxRecDepth 100000
set_option maxHeartbeats 1000000
namespace Ag
open PySem PySem.Spec PyProof.Rows L2
section
variable {K : PySem.W.Frag} {σ : L2.St} {F : Addr → Prop} {H : Hp} {te ta tb : TE} {xs : List Str}
theorem el_listOf (h : ED K te σ F H (.tuple (xs.map .str))) : EL (tCB (fun xs H Q => ∃ p ys, xs = [.ref p] ∧ (SqL K H p ys ∨ SqT K H p ys) ∧ ∀ l, H l = none → Q (.ref l) (upd H l (.lst ys))) (tCons te tNil)) σ H xs := fun H1 s Q q =>
  h H1 s _ fun v H2 s2 hv => by
    cases hv with
    | tup ht r =>
      have e := strs_dps (dfs_dps r)
      subst e
      exact ⟨_, _, rfl, .inr ht, fun l hn => q l _ (s2.trans (Same.newA hn)) upd_same⟩
theorem el_listOfL (h : ED K te σ F H (.list (xs.map .str))) : EL (tCB (fun xs H Q => ∃ p ys, xs = [.ref p] ∧ (SqL K H p ys ∨ SqT K H p ys) ∧ ∀ l, H l = none → Q (.ref l) (upd H l (.lst ys))) (tCons te tNil)) σ H xs := fun H1 s Q q =>
  h H1 s _ fun v H2 s2 hv => by
    cases hv with
    | lst ht r =>
      have e := strs_dps (dfs_dps r)
      subst e
      exact ⟨_, _, rfl, .inl (ht.imp (fun z => z.1) id), fun l hn => q l _ (s2.trans (Same.newA hn)) upd_same⟩
theorem el_ifT {t : TT} (h : ET t σ H true) (h1 : EL ta σ H xs) : EL (tIf t ta tb) σ H xs := fun H1 s Q q => h H1 s _ fun H2 s2 => h1 H2 (s.trans s2) _ fun p H3 s3 hp => q p H3 (s2.trans s3) hp
theorem el_ifF {t : TT} (h : ET t σ H false) (h1 : EL tb σ H xs) : EL (tIf t ta tb) σ H xs := fun H1 s Q q => h H1 s _ fun H2 s2 => h1 H2 (s.trans s2) _ fun p H3 s3 hp => q p H3 (s2.trans s3) hp
theorem el_rep {n : Nat} (ha : EL ta σ H xs) (hb : ED K tb σ F H (.int (n : Nat))) (hn : n ≤ 1000) (hl : xs.length ≤ 50) : EL (tOp rRep ta tb) σ H (List.replicate n xs).flatten := fun H1 s Q q =>
  ha H1 s _ fun p H2 s2 hp => hb H2 (s.trans s2) _ fun b H3 s3 hb3 => by
    cases hb3
    have hm : xs.length * n ≤ 50 * 1000 := Nat.mul_le_mul hl hn
    refine ⟨p, (n : Int), _, rfl, rfl, s3 _ _ hp, by omega, by omega, ?_, fun l hn => q l _ ((s2.trans s3).trans (Same.newA hn)) ?_⟩
    · rw [List.length_map, Int.toNat_natCast]; exact small5 (by omega)
    · rw [upd_same, Int.toNat_natCast]
      show some (HO.lst (List.replicate n (xs.map V.str)).flatten) = some (HO.lst ((List.replicate n xs).flatten.map V.str))
      rw [List.map_flatten, List.map_replicate]
theorem run_el_ret {D : Ends} (h : EL te σ H xs) (k : ∀ p H1, Same H H1 → H1 p = some (.lst (xs.map V.str)) → D.rt (.ref p) H1) : tRet te D σ H := h H (Same.refl _) _ k
theorem run_el_set {i : Nat} {D : Ends} (h : EL te σ H xs) (k : ∀ p H1, Same H H1 → H1 p = some (.lst (xs.map V.str)) → D.nx (σ.set i (some (.ref p))) H1) : tAsg te (gName i) D σ H := h H (Same.refl _) _ k
theorem run_lcr {n i : Nat} {g : TG} {tt : TT} {te2 : TE} {vs : List Nat} {D : Ends} (h : ED K te σ F H (.int (n : Nat))) (hn : n ≤ 100000) (k : ∀ H2, Same H H2 → tAsg (tLc (fun _ H R => R (Itr 0 n) H) g tt te2 vs) (gName i) D σ H2) : tAsg (tLc (iRng1 (tCons te tNil)) g tt te2 vs) (gName i) D σ H := h H (Same.refl _) _ fun v H2 s2 hv => by
  cases hv
  refine ⟨_, rfl, by omega, by omega, ?_⟩
  rw [Int.toNat_natCast]
  exact k H2 s2
end
section
variable {P : Program} {w : World} {K : PySem.W.Frag} {mg : Str → Option Value} {base : Heap} (T : Txt w K mg)
def spPN (K : PySem.W.Frag) : Sp := fun vs H Q _ => ∃ v p, vs = [v] ∧ Dp K H v (plD p) ∧ OkP p ∧ ∀ l H', Same H H' → H' l = some (.lst ((nmP p).map V.str)) → Q (.ref l) H'
theorem ok_plain_names : FnOk P w K mg base CX0 1 T.a_law_plain_names T.d_law_plain_names ["duty"] (spPN K) := by
  refine T.D_law_plain_names.fn.ok sc_law_plain_names (fun vs H Q E h => ?_) (fun cdv A outer s H vs Q E hr h => ?_)
  · obtain ⟨v, p, rfl, _⟩ := h; rfl
  · obtain ⟨v, p, rfl, hv, ok, k⟩ := h
    refine ⟨_, (pss_one (ps_ret (pe_ifExp (pt_cmpR op_eq (pe_ix ix_seq (pv 0) pe_int (fun _ _ => rfl)) pe_str (nomark _)) (pe_lst (pa_cons (pe_ix ix_seq (pv 0) pe_int (fun _ _ => rfl)) pa_nil)) (pe_ifExp (pt_cmpR op_eq (pe_ix ix_seq (pv 0) pe_int (fun _ _ => rfl)) pe_str (nomark _)) (pe_callTy call_list_of (by rfl) T.b_list bt_list (pa_cons (pe_slice sl_tupA (pv 0) (po_some pe_int) po_none) pa_nil)) (pe_callTy call_list_of (by rfl) T.b_list bt_list (pa_cons (pe_ix ix_seq (pv 0) pe_int (fun _ _ => rfl)) pa_nil)))))), ?_⟩
    have var : ED K (tVar 0) (start ["duty"] [v]) (nn H) H (plD p) := ed_var rfl (dp_df hv)
    have l4 := ok.len
    cases p with
    | call c =>
      exact run_el_ret (el_ifT (et_is (et_test (ed_eqS (ed_ixT (j := 0) (d := .str "call") var ed_int rfl) (ed_str (x := "call")))) (by decide)) (el_lst (xs := [c]) (K := K) (F := nn H) (ea_cons (ed_ixT (j := 1) (d := .str c) var ed_int rfl) ea_nil) (by show 1 ≤ 100000; decide))) k
    | answer a b =>
      refine run_el_ret (el_ifF (et_is (et_test (ed_eqS (ed_ixT (j := 0) (d := .str "answer") var ed_int rfl) (ed_str (x := "call")))) (by decide)) (el_ifT (et_is (et_test (ed_eqS (ed_ixT (j := 0) (d := .str "answer") var ed_int rfl) (ed_str (x := "answer")))) (by decide)) (el_listOf (xs := [a, b]) (K := K) (F := nn H) (ed_is (ed_slT var (eo_some (K := K) (F := nn H) (ed_int (i := 1))) eo_none) ?_)))) k
      rfl
    | many kd ws =>
      have n1 : decide (kdS kd = "call") = false := by cases kd <;> decide
      have n2 : decide (kdS kd = "answer") = false := by cases kd <;> decide
      exact run_el_ret (el_ifF (et_is (et_test (ed_eqS (ed_ixT (j := 0) (d := .str (kdS kd)) var ed_int rfl) (ed_str (x := "call")))) n1) (el_ifF (et_is (et_test (ed_eqS (ed_ixT (j := 0) (d := .str (kdS kd)) var ed_int rfl) (ed_str (x := "answer")))) n2) (el_listOf (xs := ws) (K := K) (F := nn H) (ed_ixT (j := 1) (d := .tuple (ws.map .str)) var ed_int rfl)))) k
/-- the plain ones of a duty, from the left -/
def plains : Dt → List Pl
  | .pl p => [p]
  | .jn _ a b => plains a ++ plains b
def spPO (K : PySem.W.Frag) (n : Nat) : Sp := fun vs H Q _ => ∃ v d, vs = [v] ∧ Dp K H v (dtD d) ∧ dep d ≤ n ∧ (plains d).length ≤ 1000 ∧ ∀ l us H', Same H H' → H' l = some (.lst us) → DpAll K H' us ((plains d).map plD) → Q (.ref l) H'
theorem step_po (m n : Nat) {spR : Sp} (G_law_plain_ones : FnOk P w K mg base CX0 m T.a_law_plain_ones T.d_law_plain_ones ["duty"] spR) (hR : ∀ vs H Q E, n ≠ 0 → spPO K (n - 1) vs H Q E → spR vs H Q E) :
    FnOk P w K mg base CX0 (m + 1) T.a_law_plain_ones T.d_law_plain_ones ["duty"] (spPO K n) := by
  refine T.D_law_plain_ones.fn.ok sc_law_plain_ones (fun vs H Q E h => ?_) (fun cdv A outer s H vs Q E hr h => ?_)
  · obtain ⟨v, d, rfl, _⟩ := h; rfl
  · obtain ⟨v, d, rfl, hv, hn, hlen, k⟩ := h
    refine ⟨_, (pss_cons (ps_if (pt_cmpR op_notIn_seq (pe_ix ix_seq (pv 0) pe_int (fun _ _ => rfl)) (pe_lst (pa_cons pe_str (pa_cons pe_str pa_nil))) (by rfl)) (pss_one (ps_ret (pe_lst (pa_cons (pv 0) pa_nil)))) pss_nil)
      (pss_cons (ps_set (i := 1) sc_law_plain_ones.nd rfl (by first | exact Or.inl rfl | exact Or.inr rfl) (pe_lst pa_nil))
      (pss_cons (ps_for PassesOwn.never rfl (pi_tup (pe_ix ix_seq (pv 0) pe_int (fun _ _ => rfl))) (pg_name (i := 2) sc_law_plain_ones.nd rfl (by first | exact Or.inl rfl | exact Or.inr rfl)) (pss_one (ps_set (i := 1) sc_law_plain_ones.nd rfl (by first | exact Or.inl rfl | exact Or.inr rfl) (pe_op op_cat (pv 1) (pe_call (G_law_plain_ones) (hr.mono (by omega)) (by rfl) T.D_law_plain_ones.mg T.D_law_plain_ones.fn.kp T.D_law_plain_ones.bd .nil pass0 (pa_cons (pv 2) pa_nil))))))
      (pss_one (ps_ret (pv 1)))))), ?_⟩
    have jl : ∀ H1, ED K (tLst (tCons (tC (.str "all")) (tCons (tC (.str "any")) tNil))) (start ["duty", "found", "part"] [v]) (nn H) H1 (.list ((["all", "any"] : List Str).map .str)) := fun H1 => ed_lst (ea_cons ed_str (ea_cons ed_str ea_nil)) (by show 2 ≤ 100000; decide)
    cases d with
    | pl p =>
      obtain ⟨rest, e⟩ := pl_kind p
      have hv : Dp K H v (plD p) := hv
      refine s_if (b := true) (et_is (et_test (ed_notInSeq (K := K) (F := nn H) (ed_ixT (j := 0) (ds := .str (kindS p) :: rest) (ed_var rfl (dp_df (e ▸ hv))) ed_int rfl) (jl H) (.inr rfl))) (by rw [kind_joint]; rfl)) (fun _ H1 s1 => ?_) (fun h => nomatch h)
      exact ⟨_, rfl, (by show 1 ≤ sizeLine; decide), fun l hl => k l [v] _ (s1.trans (Same.newA hl)) upd_same (.cons (dp_mono (s1.trans (Same.newA hl)) hv) .nil)⟩
    | jn al a b =>
      have hn : max (dep a) (dep b) + 1 ≤ n := hn
      have hl2 : (plains a).length + (plains b).length ≤ 1000 := by have e : plains (.jn al a b) = plains a ++ plains b := rfl; rw [e, List.length_append] at hlen; exact hlen
      have hj : decide (jnS al ∈ (["all", "any"] : List Str)) = true := by cases al <;> decide
      have hv : Dp K H v (.tuple [.str (jnS al), .tuple [dtD a, dtD b]]) := hv
      refine s_if (b := false) (et_is (et_test (ed_notInSeq (K := K) (F := nn H) (ed_ixT (j := 0) (d := .str (jnS al)) (ed_var rfl (dp_df hv)) ed_int rfl) (jl H) (.inr rfl))) (by rw [hj]; rfl)) (fun h => nomatch h) (fun _ H1 s1 => ?_)
      obtain ⟨av, pa, va, vb, rfl, hs1, hs2, ha, hb⟩ : ∃ av pa va vb, v = .ref av ∧ SqT K H av [.str (jnS al), .ref pa] ∧ SqT K H pa [va, vb] ∧ Dp K H va (dtD a) ∧ Dp K H vb (dtD b) := by
        cases hv with
        | tup hs r =>
          obtain _ | ⟨h1, r⟩ := r
          obtain _ | ⟨h2, r⟩ := r
          cases r; cases h1
          cases h2 with
          | tup hs2 r2 =>
            obtain _ | ⟨g1, r2⟩ := r2
            obtain _ | ⟨g2, r2⟩ := r2
            cases r2
            exact ⟨_, _, _, _, rfl, hs, hs2, g1, g2⟩
      refine ⟨(by show 0 ≤ sizeLine; decide), fun l0 hl0 => ?_⟩
      have s2 : Same H (upd H1 l0 (.lst [])) := s1.trans (Same.newA hl0)
      refine ⟨_, rfl, .inr (.inl ⟨_, _, _, _, rfl, rfl, s2.stA hs1, rfl, pa, rfl, ⟨_, s2.stA hs2⟩, for_tup (K := K) (a := pa) (xs := [va, vb]) (fun i σ' H' => ∃ o2 l us, σ' = [some (.ref av), some (.ref l), o2] ∧ Same H H' ∧ H' l = some (.lst us) ∧ DpAll K H' us ((([a, b].take i).flatMap plains).map plD)) ⟨none, l0, [], rfl, s2, upd_same, .nil⟩ (fun i σ' H' _ p => by obtain ⟨_, _, _, _, z, _⟩ := p; exact z.stA hs2) ?_ ?_⟩)⟩
      · rintro i x σ' H' hi ⟨o2, l, us, rfl, s3, el, du⟩
        have key : ∀ (c : Dt), dep c ≤ n - 1 → (plains c).length ≤ 1000 → us.length ≤ 1000 → Dp K H x (dtD c) → (([a, b].take (i + 1)).flatMap plains) = (([a, b].take i).flatMap plains) ++ plains c →
            spR [x] H' (fun y H4 => rCat (.ref l) y H4 fun z H5 => ∃ o2 l us, [some (V.ref av), some z, some x] = [some (.ref av), some (.ref l), o2] ∧ Same H H5 ∧ H5 l = some (.lst us) ∧ DpAll K H5 us ((([a, b].take (i + 1)).flatMap plains).map plD)) E0 := by
          intro c hd hcl hul hx2 hap
          refine hR _ _ _ _ (by omega) ⟨x, c, rfl, dp_mono s3 hx2, hd, hcl, fun l2 us2 H4 s4 el2 du2 => ?_⟩
          have lu2 := dps_len du2
          rw [List.length_map] at lu2
          refine ⟨l, l2, us, us2, rfl, rfl, s4 _ _ el, el2, small5 (by omega), fun l3 hl3 => ⟨_, l3, _, rfl, (s3.trans s4).trans (Same.newA hl3), upd_same, ?_⟩⟩
          rw [hap, List.map_append]
          exact dps_app (dps_mono (s4.trans (Same.newA hl3)) du) (dps_mono (Same.newA hl3) du2)
        have lus := dps_len du
        rw [List.length_map] at lus
        refine ⟨_, rfl, _, rfl, ?_⟩
        match i, hi with
        | 0, hi => cases hi; exact key a (by omega) (by omega) (by rw [lus]; show 0 ≤ 1000; decide) ha (by simp)
        | 1, hi => cases hi; exact key b (by omega) (by omega) (by rw [lus]; simp; omega) hb (by simp)
      · rintro σ' H' ⟨o2, l, us, rfl, s3, el, du⟩
        refine ⟨_, rfl, k l us H' s3 el ?_⟩
        have e : (([a, b].take [va, vb].length).flatMap plains) = plains (.jn al a b) := by
          show [a, b].flatMap plains = plains a ++ plains b
          simp
        rw [e] at du; exact du
theorem ok_plain_ones : ∀ n : Nat, FnOk P w K mg base CX0 (n + 2) T.a_law_plain_ones T.d_law_plain_ones ["duty"] (spPO K n)
  | 0 => step_po T 1 0 (no_ok (P := P) (w := w) (base := base) 0 T.D_law_plain_ones sc_law_plain_ones) fun vs H Q E h => absurd rfl h
  | n + 1 => step_po T (n + 2) (n + 1) (ok_plain_ones n) fun vs H Q E _ h => h
end
end Ag

set_option Elab.async false
set_option linter.all false
set_option maxRecDepth 100000
set_option maxHeartbeats 1000000
namespace Ag
open PySem PySem.Spec PyProof.Rows L2
def inB (L : List Str) : PyData → Bool | .str x => decide (x ∈ L) | _ => false
theorem filt_in (R L : List Str) : (((R.map PyData.str).filter (inB L)).map fun s => s) = (R.filter fun c => decide (c ∈ L)).map .str := by
  rw [List.map_id']
  induction R with
  | nil => rfl
  | cons x R ih =>
    rw [List.map_cons, List.filter_cons, List.filter_cons, ih]
    show (if decide (x ∈ L) = true then _ else _) = _
    cases decide (x ∈ L) <;> rfl
theorem filt_nin (R L : List Str) : (((R.map PyData.str).filter fun d => !inB L d).map fun s => s) = (R.filter fun c => !decide (c ∈ L)).map .str := by
  rw [List.map_id']
  induction R with
  | nil => rfl
  | cons x R ih =>
    rw [List.map_cons, List.filter_cons, List.filter_cons, ih]
    show (if (!decide (x ∈ L)) = true then _ else _) = _
    cases decide (x ∈ L) <;> rfl
theorem strs_shL {ws : List Str} (h : ∀ x ∈ ws, As 12 x) (hl : ws.length ≤ 1000) : gd (.list (ws.map .str)) = true ∧ SeqAt.shaped (.list (ws.map .str)) = true := by
  have g : gd (.list (ws.map .str)) = true := by
    simp only [gd, Bool.and_eq_true, decide_eq_true_eq]
    refine ⟨gds_of fun y hy => ?_, by rw [List.length_map]; exact hl⟩
    obtain ⟨x, hx, rfl⟩ := List.mem_map.mp hy
    exact as_gd (h x hx) (by decide)
  refine ⟨g, ?_⟩
  have d := strs_depth ws
  have e : (PyData.list (ws.map .str)).depth = 1 + PyData.depthAll (ws.map .str) := by rw [PyData.depth]; first | rfl | omega
  unfold SeqAt.shaped
  rw [gd_lay g, Bool.true_and, e]
  exact decide_eq_true (by omega)
theorem eqvL (xs ys : List Str) : PyData.eqv (.list (xs.map .str)) (.list (ys.map .str)) = decide (xs = ys) := by
  rw [PyData.eqv]; exact eqvTs xs ys
theorem last_iff {L : List Str} {a : Str} : L.drop (L.length - 1) = [a] ↔ L.getLast? = some a := by
  rcases List.eq_nil_or_concat L with q | ⟨M, c, q⟩
  · subst q; simp
  · rw [q]; simp
theorem cutW_last (xs : List Str) : cutW xs (some (-1)) none = xs.drop (xs.length - 1) := by
  have e : HT.sIx xs.length 0 (some (-1)) = xs.length - 1 := by
    show (if (-1 : Int) < 0 then ((-1 : Int) + (xs.length : Int)).toNat else min (-1 : Int).toNat xs.length) = _
    rw [if_pos (by decide)]; omega
  unfold cutW
  rw [e, HT.sIx_none]
  exact List.take_of_length_le (by rw [List.length_drop]; exact Nat.le_refl _)
theorem cutW_mid {xs : List Str} {i n : Nat} (h : i + n ≤ xs.length) : cutW xs (some (i : Int)) (some ((i : Int) + (n : Int))) = (xs.drop i).take n := by
  unfold cutW
  rw [show ((i : Int) + (n : Int)) = ((i + n : Nat) : Int) by omega, HT.sIx_nat, HT.sIx_nat]
  have e1 : min i xs.length = i := Nat.min_eq_left (by omega)
  have e2 : min (i + n) xs.length = i + n := Nat.min_eq_left h
  rw [e1, e2]
  congr 1; omega
theorem flat_len (n : Nat) (R : List Str) : (List.replicate n R).flatten.length = n * R.length := by
  induction n with
  | zero => simp
  | succ n ih => rw [List.replicate_succ, List.flatten_cons, List.length_append, ih, Nat.succ_mul]; omega
theorem mem_flat {n : Nat} {R : List Str} {x : Str} (h : x ∈ (List.replicate n R).flatten) : x ∈ R := by
  obtain ⟨l, hl, hx⟩ := List.mem_flatten.mp h
  rw [List.eq_of_mem_replicate hl] at hx; exact hx
theorem dps_ints {K : PySem.W.Frag} {H : Hp} : ∀ (ms : List Nat), DpAll K H (ms.map vN) (ms.map fun i => .int (i : Nat))
  | [] => .nil
  | m :: ms => .cons (.int _) (dps_ints ms)
theorem lay_ints : ∀ (ms : List Nat), PyData.canLayAll0 (ms.map fun i => .int (i : Nat)) = true
  | [] => by simp [PyData.canLayAll0]
  | m :: ms => by rw [List.map_cons, PyData.canLayAll0, lay_ints ms, PyData.canLay0]; rfl
def geB (n : Nat) : PyData → Bool | .int i => decide ((n : Int) ≤ i) | _ => false
theorem filt_ge (n : Nat) : ∀ (ms : List Nat), PyData.list (((ms.map fun i => PyData.int (i : Nat)).filter (geB n)).map fun s => s) = .list ((ms.filter fun i => decide (n ≤ i)).map fun i => .int (i : Nat)) := by
  intro ms
  rw [List.map_id']
  congr 1
  induction ms with
  | nil => rfl
  | cons m ms ih =>
    rw [List.map_cons, List.filter_cons, List.filter_cons, ih]
    have : geB n (.int (m : Nat)) = decide (n ≤ m) := by
      show decide ((n : Int) ≤ (m : Int)) = _
      by_cases h : n ≤ m
      · rw [decide_eq_true h, decide_eq_true (by omega)]
      · rw [decide_eq_false h, decide_eq_false (by omega)]
    rw [this]
    cases decide (n ≤ m) <;> rfl
section
variable {P : Program} {w : World} {K : PySem.W.Frag} {mg : Str → Option Value} {base : Heap} (T : Txt w K mg)
def spPD (K : PySem.W.Frag) : Sp := fun vs H Q _ => ∃ v p h r Hd R, vs = [v, h, r] ∧ Dp K H v (plD p) ∧ OkP p ∧ Dp K H h (.list (Hd.map .str)) ∧ Dp K H r (.list (R.map .str)) ∧ 1 ≤ R.length ∧ R.length ≤ 50 ∧ Hd.length ≤ 50 ∧ (∀ x ∈ Hd, As 12 x) ∧ (∀ x ∈ R, As 12 x) ∧
  ∀ H', Same H H' → Q (.bl (fulB (eHR ("" : Str) Hd R) (.pl p))) H'
theorem ok_plain_done : FnOk P w K mg base CX0 2 T.a_law_plain_done T.d_law_plain_done ["duty", "head", "ring"] (spPD K) := by
  have G_law_plain_names := ok_plain_names (P := P) (base := base) T
  refine T.D_law_plain_done.fn.ok sc_law_plain_done (fun vs H Q E h => ?_) (fun cdv A outer s H vs Q E hr h => ?_)
  · obtain ⟨v, p, h, r, Hd, R, rfl, _⟩ := h; rfl
  · obtain ⟨v, p, h, r, Hd, R, rfl, hv, ok, hh, hrr, l1, l2, l3, ah, ar, k⟩ := h
    refine ⟨_, (pss_cons (ps_asg (pe_tup (pa_cons (pe_ix ix_seq (pv 0) pe_int (fun _ _ => rfl)) (pa_cons (pe_call (G_law_plain_names) (hr.mono (by omega)) (by rfl) T.D_law_plain_names.mg T.D_law_plain_names.fn.kp T.D_law_plain_names.bd .nil pass0 (pa_cons (pv 0) pa_nil)) pa_nil))) (pg_tup rfl (pgs_cons (pg_name (i := 3) sc_law_plain_done.nd rfl (by first | exact Or.inl rfl | exact Or.inr rfl)) (pgs_cons (pg_name (i := 4) sc_law_plain_done.nd rfl (by first | exact Or.inl rfl | exact Or.inr rfl)) pgs_nil))))
      (pss_cons (ps_if (pt_cmpR op_eq (pv 3) pe_str (nomark _)) (pss_one (ps_ret (pe_cmpR op_in_seq (pe_ix ix_seq (pv 4) pe_int (fun _ _ => rfl)) (pv 2) (by rfl)))) pss_nil)
      (pss_cons (ps_if (pt_cmpR op_eq (pv 3) pe_str (nomark _)) (pss_cons (ps_setLc (i := 5) (own := [("call", 6)]) rfl sc_law_plain_done.nd rfl rfl (sw_true rfl rfl rfl (by decide +kernel)) (pi_list (pv 2)) (blkOk_by (own := [("call", 6)]) (N := ["duty", "head", "ring", "kind", "names", "last", "call", "row", "name", "hits", "at"]) (sc := defScope s_law_plain_done) (by decide +kernel)) (fun _ _ _ _ _ => (pg_name (i := 6) sc_law_plain_done.nd rfl (by first | exact Or.inl rfl | exact Or.inr rfl))) (fun _ _ _ _ _ => (pts_one (pt_cmpR (r := rIn K false) op_in_seq (pv 6) (pv 4) (by rfl)))) (fun _ _ _ _ _ => (pv 6)))
      (pss_one (ps_ret (pe_or (pe_cmpR op_in_seq (pe_ix ix_seq (pv 4) pe_int (fun _ _ => rfl)) (pv 2) (by rfl)) (pe_one (pe_and (pe_cmpR op_notIn_seq (pe_ix ix_seq (pv 4) pe_int (fun _ _ => rfl)) (pv 2) (by rfl)) (pe_and (pe_cmpR (op_neD hr.units) (pe_slice sl_list (pe_lc (own := [("call", 6)]) rfl sc_law_plain_done.nd (pi_list (pv 1)) (blkOk_by (own := [("call", 6)]) (N := ["duty", "head", "ring", "kind", "names", "last", "call", "row", "name", "hits", "at"]) (sc := defScope s_law_plain_done) (by decide +kernel)) (fun _ _ _ _ _ => (pg_name (i := 6) sc_law_plain_done.nd rfl (by first | exact Or.inl rfl | exact Or.inr rfl))) (fun _ _ _ _ _ => (pts_one (pt_cmpR (r := rIn K false) op_in_seq (pv 6) (pv 4) (by rfl)))) (fun _ _ _ _ _ => (pv 6))) (po_some (pe_un un_neg pe_int)) po_none) (pe_lst (pa_cons (pe_ix ix_seq (pv 4) pe_int (fun _ _ => rfl)) pa_nil)) (nomark _)) (pe_one (pe_cmpR (op_eqE hr.units) (pv 5) (pe_lst pa_nil) (nomark _)))))))))) pss_nil)
      (pss_cons (ps_set (i := 7) sc_law_plain_done.nd rfl (by first | exact Or.inl rfl | exact Or.inr rfl) (pe_op op_cat (pe_callTy call_list_of (by rfl) T.b_list bt_list (pa_cons (pv 1) pa_nil)) (pe_op op_rep (pe_callTy call_list_of (by rfl) T.b_list bt_list (pa_cons (pv 2) pa_nil)) (pe_op op_add (pe_callB (r := fun xs H Q => ∃ x n, xs = [x] ∧ LenV K x H n ∧ Q (.int n) H) call_len (by rfl) T.b_len bt_len (pa_cons (pv 4) pa_nil)) pe_int))))
      (pss_cons (ps_if (pt_cmpR op_eq (pv 3) pe_str (nomark _)) (pss_one (ps_ret (pe_cmpR (op_eqE hr.units) (pe_lc (own := [("name", 8)]) rfl sc_law_plain_done.nd (pi_list (pv 4)) (blkOk_by (own := [("name", 8)]) (N := ["duty", "head", "ring", "kind", "names", "last", "call", "row", "name", "hits", "at"]) (sc := defScope s_law_plain_done) (by decide +kernel)) (fun _ _ _ _ _ => (pg_name (i := 8) sc_law_plain_done.nd rfl (by first | exact Or.inl rfl | exact Or.inr rfl))) (fun _ _ _ _ _ => (pts_one (pt_cmpR (r := rIn K true) op_notIn_seq (pv 8) (pv 2) (by rfl)))) (fun _ _ _ _ _ => (pv 8))) (pe_lst pa_nil) (nomark _)))) pss_nil)
      (pss_cons (ps_setLc (i := 9) (own := [("at", 10)]) rfl sc_law_plain_done.nd rfl rfl (sw_true rfl rfl rfl (by decide +kernel)) (pi_range1 (by rfl) T.b_range (pa_cons (pe_op op_add (pe_op op_sub (pe_callB call_len (by rfl) T.b_len bt_len (pa_cons (pv 7) pa_nil)) (pe_callB (r := fun xs H Q => ∃ x n, xs = [x] ∧ LenV K x H n ∧ Q (.int n) H) call_len (by rfl) T.b_len bt_len (pa_cons (pv 4) pa_nil))) pe_int) pa_nil)) (blkOk_by (own := [("at", 10)]) (N := ["duty", "head", "ring", "kind", "names", "last", "call", "row", "name", "hits", "at"]) (sc := defScope s_law_plain_done) (by decide +kernel)) (fun _ _ _ _ _ => (pg_name (i := 10) sc_law_plain_done.nd rfl (by first | exact Or.inl rfl | exact Or.inr rfl))) (fun _ _ _ _ _ => (pts_one (pt_cmpR (r := rEqD K) (op_eqD hr.units) (pe_slice (r := rSlL K) sl_list (pv 7) (po_some (pv 10)) (po_some (pe_op op_add (pv 10) (pe_callB (r := fun xs H Q => ∃ x n, xs = [x] ∧ LenV K x H n ∧ Q (.int n) H) call_len (by rfl) T.b_len bt_len (pa_cons (pv 4) pa_nil))))) (pv 4) (nomark _)))) (fun _ _ _ _ _ => (pv 10)))
      (pss_cons (ps_if (pt_cmpR op_eq (pv 3) pe_str (nomark _)) (pss_one (ps_ret (pe_cmpR (op_eqE hr.units) (pv 9) (pe_lst pa_nil) (nomark _)))) pss_nil)
      (pss_one (ps_ret (pe_cmpR (op_neE hr.units) (pe_lc (own := [("at", 10)]) rfl sc_law_plain_done.nd (pi_list (pv 9)) (blkOk_by (own := [("at", 10)]) (N := ["duty", "head", "ring", "kind", "names", "last", "call", "row", "name", "hits", "at"]) (sc := defScope s_law_plain_done) (by decide +kernel)) (fun _ _ _ _ _ => (pg_name (i := 10) sc_law_plain_done.nd rfl (by first | exact Or.inl rfl | exact Or.inr rfl))) (fun _ _ _ _ _ => (pts_one (pt_cmpR op_ge (pv 10) (pe_callB (r := fun xs H Q => ∃ x n, xs = [x] ∧ LenV K x H n ∧ Q (.int n) H) call_len (by rfl) T.b_len bt_len (pa_cons (pv 1) pa_nil)) (nomark _)))) (fun _ _ _ _ _ => (pv 10))) (pe_lst pa_nil) (nomark _))))))))))), ?_⟩
    obtain ⟨rest, e⟩ := pl_kind p
    obtain ⟨va, us, rfl, hst, hd0⟩ : ∃ va us, v = .ref va ∧ SqT K H va us ∧ us[0]? = some (.str (kindS p)) := by
      rw [e] at hv
      cases hv with
      | tup hs r =>
        obtain _ | ⟨h1, r⟩ := r
        cases h1
        exact ⟨_, _, rfl, hs, rfl⟩
    have l4 := ok.len
    refine ⟨_, rfl, .inr (.inl ⟨_, _, _, _, rfl, rfl, hst, atI_nat hd0, _, rfl, .ref va, p, rfl, hv, ok, fun nl H0 s0 hnl0 => ⟨(by show 2 ≤ sizeLine; decide), fun tq htq => ⟨tq, _, rfl, .of upd_same, rfl, _, _, rfl, _, _, rfl, rfl, ?_⟩⟩⟩)⟩
    have s1 : Same H (upd H0 tq (.tup [.str (kindS p), .ref nl])) := s0.trans (Same.newA htq)
    have hnl := Same.newA (o := .tup [.str (kindS p), .ref nl]) htq _ _ hnl0
    generalize upd H0 tq (HO.tup [.str (kindS p), .ref nl]) = H1 at s1 hnl
    have fin : ∀ b H', Same H1 H' → (b = true ↔ InfE (stepP p) (eHR ("" : Str) Hd R)) → Q (.bl b) H' := fun b H' s' hb => by
      rw [fulB_of (d := .pl p) hb]; exact k H' (s1.trans s')
    clear k
    let σ1 : L2.St := [some (.ref va), some h, some r, some (.str (kindS p)), some (.ref nl), none, none, none, none, none, none]
    have kt : ∀ (z : Str) H2, ET (tTest (tOp rEq (tVar 3) (tC (.str z)))) σ1 H2 (decide (kindS p = z)) := fun z H2 => et_test (ed_eqS (K := K) (F := nn H2) (ed_var rfl (.str _)) ed_str)
    have dh : ∀ H2, Same H1 H2 → Dp K H2 h (.list (Hd.map .str)) := fun H2 s2 => dp_mono (s1.trans s2) hh
    have dr : ∀ H2, Same H1 H2 → Dp K H2 r (.list (R.map .str)) := fun H2 s2 => dp_mono (s1.trans s2) hrr
    have dn : ∀ H2, Same H1 H2 → Dp K H2 (.ref nl) (.list ((nmP p).map .str)) := fun H2 s2 => .lst (.inl (.inl (s2 _ _ hnl))) (dps_strs _)
    have ix : ∀ {σ : L2.St} (hσ : σ[4]? = some (some (.ref nl))) (j : Nat) (x : Str) H2, Same H1 H2 → (nmP p)[j]? = some x → ED K (tOp (rIx K) (tVar 4) (tC (.int (j : Nat)))) σ (nn H2) H2 (.str x) := fun hσ j x H2 s2 hx => ed_ixL (j := j) (ed_var hσ (dp_df (dn H2 s2))) ed_int (by rw [List.getElem?_map, hx]; rfl)
    cases p with
    | call c =>
      refine s_if (b := true) (et_is (kt "call" H1) (by first | exact decide_eq_true rfl)) (fun _ H2 s2 => ?_) (fun h => nomatch h)
      refine s_retB (ed_inSeq (ix rfl 0 c H2 s2 rfl) (ed_var rfl (dp_df (dr H2 s2))) (.inr rfl)) rfl fun H3 s3 => fin _ H3 (s2.trans s3) ?_
      rw [decide_eq_true_iff]; exact (look_call l1).symm
    | answer a b =>
      refine s_if (b := false) (et_is (kt "call" H1) (by first | exact decide_eq_false (by dsimp only [kindS]; decide))) (fun h => nomatch h) (fun _ H2 s2 => ?_)
      refine s_if (b := true) (et_is (kt "answer" H2) (by first | exact decide_eq_true rfl)) (fun _ H3 s3 => ?_) (fun h => nomatch h)
      have s13 := s2.trans s3
      have aab : ∀ x ∈ ([a, b] : List Str), As 12 x := ok.as
      have nab : a ≠ b := ok.ans a b rfl
      have inT : ∀ (σ : L2.St) (i6 : V) (F2 : Addr → Prop) (H4 H5 : Hp) (d2 : PyData), Same H1 H4 → Ext (nn H4) H4 F2 H5 → σ[4]? = some (some (.ref nl)) → σ[6]? = some (some i6) → Df K F2 H5 i6 d2 → (∃ x, d2 = .str x) → ET (tTest (tOp (rIn K false) (tVar 6) (tVar 4))) σ H5 (inB [a, b] d2) := fun σ i6 F2 H4 H5 d2 s4 e2 h4 h6 hd2 hx => by
        obtain ⟨x, rfl⟩ := hx
        exact et_test (ed_inSeq (ed_var h6 hd2) (ed_var h4 (df_ext e2 (dp_df (dn H4 s4)))) (.inr rfl))
      have dsx : ∀ (L : List Str) (d2 : PyData), d2 ∈ L.map PyData.str → ∃ x, d2 = .str x := fun L d2 hm => by
        obtain ⟨x, _, rfl⟩ := List.mem_map.mp hm; exact ⟨x, rfl⟩
      refine s_set (K := K) (F := nn H3) (d := .list ((R.filter fun c => decide (c ∈ [a, b])).map .str)) (ed_is (ed_lc (f := inB [a, b]) (m := fun s => s) (ei_list (ed_var rfl (dp_df (dr H3 s13)))) (by rw [List.length_map]; omega) fun F2 H5 e2 v2 d2 hm hd2 => ⟨_, fun Q q => q, rfl, inT _ v2 F2 H3 H5 d2 s13 e2 rfl rfl hd2 (dsx R d2 hm), fun _ => ed_var rfl hd2⟩) (by rw [filt_in])) fun lv H4 s4 hlv => ?_
      have s14 := s13.trans s4
      have dl : Dp K H4 lv (.list ((R.filter fun c => decide (c ∈ [a, b])).map .str)) := df_dp hlv
      have layR : PyData.canLayAll0 ((R.filter fun c => decide (c ∈ [a, b])).map .str) = true := by
        have := gd_lay (strs_shL (ws := R.filter fun c => decide (c ∈ [a, b])) (fun x hx => ar x (List.mem_filter.mp hx).1) (Nat.le_trans (List.length_filter_le _ _) (by omega))).1
        rw [PyData.canLay0] at this; exact this
      have shd := (strs_shL (ws := (Hd.filter fun c => decide (c ∈ [a, b])).drop ((Hd.filter fun c => decide (c ∈ [a, b])).length - 1)) (fun x hx => ah x (List.mem_filter.mp (List.mem_of_mem_drop hx)).1) (by rw [List.length_drop]; have := List.length_filter_le (fun c => decide (c ∈ [a, b])) Hd; omega)).2
      have sha := (strs_shL (ws := [a]) (fun x hx => by rw [List.mem_singleton.mp hx]; exact aab a (by simp)) (by show 1 ≤ 1000; decide)).2
      have hdl : ED K (tSl (rSlL K) (tLc (iList K (tVar 1)) (gName 6) (tTest (tOp (rIn K false) (tVar 6) (tVar 4))) (tVar 6) [6]) (tPart (tUn (rU fun i => .int (-i)) (tC (.int 1)))) tNoPart) [some (.ref va), some h, some r, some (.str (kindS (.answer a b))), some (.ref nl), some lv, none, none, none, none, none] (nn H4) H4 (.list (((Hd.filter fun c => decide (c ∈ [a, b])).drop ((Hd.filter fun c => decide (c ∈ [a, b])).length - 1)).map .str)) := by
        refine ed_is (ed_slL (ed_is (ed_lc (f := inB [a, b]) (m := fun s => s) (ei_list (ed_var rfl (dp_df (dh H4 s14)))) (by rw [List.length_map]; omega) fun F2 H5 e2 v2 d2 hm hd2 => ⟨_, fun Q q => q, rfl, inT _ v2 F2 H4 H5 d2 s14 e2 rfl rfl hd2 (dsx Hd d2 hm), fun _ => ed_var rfl hd2⟩) (show _ = PyData.list ((Hd.filter fun c => decide (c ∈ [a, b])).map .str) by rw [filt_in])) (eo_some (K := K) (F := nn H4) (i := -1) (fun H5 s5 Q q => ⟨1, rfl, q _ _ (Same.refl _) (.int _)⟩)) eo_none) ?_
        rw [cutD_map, cutW_last]
      refine s_retB (K := K) (F := nn H4) (ed_orV (ed_inSeq (ix rfl 1 b H4 s14 rfl) (ed_var rfl (dp_df (dr H4 s14))) (.inr rfl)) fun _ => ed_andV (ed_notInSeq (ix rfl 0 a H4 s14 rfl) (ed_var rfl (dp_df (dr H4 s14))) (.inr rfl)) fun _ => ed_andV (ed_neD hdl (ed_lst (ea_cons (ix rfl 0 a H4 s14 rfl) ea_nil) (by show 1 ≤ 100000; decide)) shd sha) fun _ => ed_eqE (ed_var rfl (dp_df dl)) ed_emp layR) rfl fun H5 s5 => fin _ H5 (s14.trans s5) ?_
      have e1 : PyData.eqv (.list (((Hd.filter fun c => decide (c ∈ [a, b])).drop ((Hd.filter fun c => decide (c ∈ [a, b])).length - 1)).map .str)) (.list [.str a]) = decide ((Hd.filter fun c => decide (c ∈ [a, b])).drop ((Hd.filter fun c => decide (c ∈ [a, b])).length - 1) = [a]) := eqvL _ [a]
      have e2 := last_iff (L := Hd.filter fun c => decide (c ∈ [a, b])) (a := a)
      rw [e1]
      refine Iff.trans ?_ (look_ans l1 nab).symm
      by_cases hb : b ∈ R
      · rw [decide_eq_true hb]; exact ⟨fun _ => .inl hb, fun _ => rfl⟩
      · by_cases haR : a ∈ R
        · rw [decide_eq_false hb, decide_eq_true haR]
          exact ⟨(fun q => by simp at q), fun q => (q.elim (fun z => absurd z hb) fun z => absurd haR z.1)⟩
        · have e3 : (R.filter fun c => decide (c ∈ [a, b])) = [] := List.filter_eq_nil_iff.mpr fun x hx q => by
            have q := of_decide_eq_true q
            rcases List.mem_cons.mp q with rfl | q
            · exact haR hx
            · rw [List.mem_singleton.mp q] at hx; exact hb hx
          rw [e3, decide_eq_false hb, decide_eq_false haR]
          constructor
          · intro q
            refine .inr ⟨haR, fun z => ?_⟩
            rw [decide_eq_true (e2.mpr z)] at q; cases q
          · rintro (z | ⟨_, z⟩)
            · exact absurd z hb
            · rw [decide_eq_false fun w => z (e2.mp w)]; rfl
    | many kd ws =>
      have hw : 1 ≤ ws.length ∧ ws.length ≤ 4 := l4
      have n1 : decide (kindS (.many kd ws) = "call") = false := by cases kd <;> exact decide_eq_false (by dsimp only [kindS, kdS]; decide)
      have n2 : decide (kindS (.many kd ws) = "answer") = false := by cases kd <;> exact decide_eq_false (by dsimp only [kindS, kdS]; decide)
      refine s_if (b := false) (et_is (kt "call" H1) n1) (fun h => nomatch h) (fun _ H2 s2 => ?_)
      refine s_if (b := false) (et_is (kt "answer" H2) n2) (fun h => nomatch h) (fun _ H3 s3 => ?_)
      have s13 := s2.trans s3
      have lenN : ∀ {σ : L2.St} (hσ : σ[4]? = some (some (.ref nl))) (H4 : Hp), Same H1 H4 → ED K (tCB (fun xs H Q => ∃ x n, xs = [x] ∧ LenV K x H n ∧ Q (.int n) H) (tCons (tVar 4) tNil)) σ (nn H4) H4 (.int (ws.length : Nat)) := fun hσ H4 s4 => ed_is (ed_len (ed_var hσ (dp_df (dn H4 s4))) rfl) (by show PyData.int ((ws.map PyData.str).length : Nat) = _; rw [List.length_map])
      refine run_el_set (xs := rowI Hd R (ws.length + 2)) (el_cat (el_listOfL (K := K) (F := nn H3) (ed_var rfl (dp_df (dh H3 s13)))) (el_rep (K := K) (F := nn H3) (n := ws.length + 2) (el_listOfL (K := K) (F := nn H3) (ed_var rfl (dp_df (dr H3 s13)))) (ed_add (lenN rfl H3 s13) (ed_int (i := 2))) (by omega) l2) ?_) fun rl H4 s4 hrl => ?_
      · rw [flat_len]
        have : (ws.length + 2) * R.length ≤ 6 * 50 := Nat.mul_le_mul (by omega) l2
        omega
      have s14 := s13.trans s4
      have lrow : (rowI Hd R (ws.length + 2)).length = Hd.length + (ws.length + 2) * R.length := rowI_len _ _ _
      have lrow2 : (ws.length + 2) * R.length ≤ 6 * 50 := Nat.mul_le_mul (by omega) l2
      have lrow3 : ws.length ≤ (ws.length + 2) * R.length := Nat.le_trans (by omega : ws.length ≤ ws.length + 2) (Nat.le_mul_of_pos_right _ l1)
      have arow : ∀ x ∈ rowI Hd R (ws.length + 2), As 12 x := fun x hx => (List.mem_append.mp hx).elim (ah x) fun q => ar x (mem_flat q)
      let σ7 : L2.St := [some (.ref va), some h, some r, some (.str (kindS (.many kd ws))), some (.ref nl), none, none, some (.ref rl), none, none, none]
      have kt7 : ∀ (z : Str) (o9 : Option V) H5, ET (tTest (tOp rEq (tVar 3) (tC (.str z)))) [some (.ref va), some h, some r, some (.str (kindS (.many kd ws))), some (.ref nl), none, none, some (.ref rl), none, o9, none] H5 (decide (kindS (.many kd ws) = z)) := fun z o9 H5 => et_test (ed_eqS (K := K) (F := nn H5) (ed_var rfl (.str _)) ed_str)
      by_cases hsteps : kd = .steps
      · subst hsteps
        refine s_if (b := true) (et_is (kt7 "steps" none H4) (decide_eq_true rfl)) (fun _ H5 s5 => ?_) (fun h => nomatch h)
        have s15 := s14.trans s5
        have layN : PyData.canLayAll0 ((ws.filter fun c => !decide (c ∈ R)).map .str) = true := by
          have := gd_lay (strs_shL (ws := ws.filter fun c => !decide (c ∈ R)) (fun x hx => ok.as x (List.mem_filter.mp hx).1) (Nat.le_trans (List.length_filter_le _ _) (by omega))).1
          rw [PyData.canLay0] at this; exact this
        refine s_retB (K := K) (F := nn H5) (ed_eqE (ds := (ws.filter fun c => !decide (c ∈ R)).map .str) (ed_is (ed_lc (f := fun d => !inB R d) (m := fun s => s) (ei_list (ed_var rfl (dp_df (dn H5 s15)))) (by show (ws.map PyData.str).length ≤ 50000; rw [List.length_map]; omega) fun F2 H6 e2 v2 d2 hm hd2 => ?_) ?_) ed_emp layN) rfl fun H6 s6 => fin _ H6 (s15.trans s6) ?_
        · obtain ⟨x, _, rfl⟩ := List.mem_map.mp hm
          exact ⟨_, fun Q q => q, rfl, et_test (ed_notInSeq (ed_var rfl hd2) (ed_var rfl (df_ext e2 (dp_df (dr H5 s15)))) (.inr rfl)), fun _ => ed_var rfl hd2⟩
        · show PyData.list ((((ws.map PyData.str)).filter fun d => !inB R d).map fun s => s) = _
          rw [filt_nin]
        · refine Iff.trans ?_ (look_steps l1 hw.1).symm
          rw [List.isEmpty_iff, List.map_eq_nil_iff, List.filter_eq_nil_iff]
          constructor
          · intro q x hx
            have := q x hx
            simpa using this
          · intro q x hx
            have := q x hx
            simpa using this
      · have n3 : decide (kindS (.many kd ws) = "steps") = false := by
          cases kd with
          | steps => exact absurd rfl hsteps
          | row => exact decide_eq_false (by dsimp only [kindS, kdS]; decide)
          | never => exact decide_eq_false (by dsimp only [kindS, kdS]; decide)
        refine s_if (b := false) (et_is (kt7 "steps" none H4) n3) (fun h => nomatch h) (fun _ H5 s5 => ?_)
        have s15 := s14.trans s5
        have hrl5 := s5 _ _ hrl
        have dw : ∀ H6, Same H5 H6 → Dp K H6 (.ref rl) (.list ((rowI Hd R (ws.length + 2)).map .str)) := fun H6 s6 => .lst (.inl (.inl (s6 _ _ hrl5))) (dps_strs _)
        have lenW : ED K (tCB (fun xs H Q => ∃ x n, xs = [x] ∧ LenV K x H n ∧ Q (.int n) H) (tCons (tVar 7) tNil)) σ7 (nn H5) H5 (.int ((rowI Hd R (ws.length + 2)).length : Nat)) := ed_is (ed_len (ed_var rfl (dp_df (dw H5 (Same.refl _)))) rfl) (by show PyData.int (((rowI Hd R (ws.length + 2)).map PyData.str).length : Nat) = _; rw [List.length_map])
        refine run_lcr (K := K) (F := nn H5) (n := (rowI Hd R (ws.length + 2)).length - ws.length + 1) (ed_is (ed_add (ed_sub lenW (lenN rfl H5 s15)) (ed_int (i := 1))) (by congr 1; omega)) (by omega) fun H6 s6 => ?_
        have s16 := s15.trans s6
        intro D hD
        refine lc_range (lo := 0) (n := (rowI Hd R (ws.length + 2)).length - ws.length + 1) (fun i H' => H' D = some (.lst (((List.range i).filter fun i => decide (((rowI Hd R (ws.length + 2)).drop i).take ws.length = ws)).map vN)) ∧ Same H6 H') ⟨upd_same, Same.newA hD⟩ ?_ ?_
        · rintro i H' hi ⟨eD, s7⟩
          have s17 := s16.trans s7
          have s57 := s6.trans s7
          have hi2 : i + ws.length ≤ (rowI Hd R (ws.length + 2)).length := by omega
          refine ⟨rfl, ?_⟩
          have vi : ED K (tVar 10) [some (.ref va), some h, some r, some (.str (kindS (.many kd ws))), some (.ref nl), none, none, some (.ref rl), none, none, some (.int (0 + (i : Int)))] (nn H') H' (.int (i : Nat)) := ed_is (ed_var rfl (.int _)) (by rw [Int.zero_add])
          have slc := ed_slL (K := K) (F := nn H') (σ := [some (.ref va), some h, some r, some (.str (kindS (.many kd ws))), some (.ref nl), none, none, some (.ref rl), none, none, some (.int (0 + (i : Int)))]) (ed_var (i := 7) rfl (dp_df (dw H' s57))) (eo_some (K := K) (F := nn H') vi) (eo_some (K := K) (F := nn H') (ed_add vi (lenN rfl H' s17)))
          rw [cutD_map, cutW_mid hi2] at slc
          have sh1 := (strs_shL (ws := ((rowI Hd R (ws.length + 2)).drop i).take ws.length) (fun x hx => arow x (List.mem_of_mem_drop (List.mem_of_mem_take hx))) (by rw [List.length_take, List.length_drop]; omega)).2
          have sh2 := (strs_shL (ws := ws) ok.as (by omega)).2
          have tst := et_test (ed_eqD slc (ed_var (i := 4) rfl (dp_df (dn H' s17))) sh1 sh2)
          refine tst H' (Same.refl _) _ fun H8 s8 => ?_
          have ee : PyData.eqv (.list ((((rowI Hd R (ws.length + 2)).drop i).take ws.length).map .str)) (.list ((nmP (.many kd ws)).map .str)) = decide (((rowI Hd R (ws.length + 2)).drop i).take ws.length = ws) := eqvL _ ws
          rw [ee]
          have lf := List.length_filter_le (fun i => decide (((rowI Hd R (ws.length + 2)).drop i).take ws.length = ws)) (List.range i)
          rw [List.length_range] at lf
          by_cases hc : ((rowI Hd R (ws.length + 2)).drop i).take ws.length = ws
          · rw [if_pos (decide_eq_true hc)]
            refine ⟨_, rfl, _, s8 _ _ eD, lt5 (by rw [List.length_map]; omega), ?_, fun b o e' => ?_⟩
            · rw [upd_same, List.range_succ, List.filter_append, List.map_append, Int.zero_add]
              have : [i].filter (fun i => decide (((rowI Hd R (ws.length + 2)).drop i).take ws.length = ws)) = [i] := by
                rw [List.filter_cons, if_pos (decide_eq_true hc)]; rfl
              rw [this]; rfl
            · rw [upd_ne (ne_of_none e' hD)]; exact s8 _ _ (s7 _ _ e')
          · rw [if_neg (fun q => hc (of_decide_eq_true q))]
            refine ⟨?_, s7.trans s8⟩
            rw [List.range_succ, List.filter_append]
            have : [i].filter (fun i => decide (((rowI Hd R (ws.length + 2)).drop i).take ws.length = ws)) = [] := by
              rw [List.filter_cons, if_neg (fun q => hc (of_decide_eq_true q))]; rfl
            rw [this, List.append_nil]; exact s8 _ _ eD
        · rintro H7 ⟨eD, s7⟩
          have eD : H7 D = some (.lst ((hitsL ws Hd R).map vN)) := eD
          have s17 := s16.trans s7
          have lh : (hitsL ws Hd R).length ≤ 1000 := Nat.le_trans (List.length_filter_le _ _) (by rw [List.length_range]; omega)
          have dD : ∀ H8, Same H7 H8 → Dp K H8 (.ref D) (.list ((hitsL ws Hd R).map fun i => .int (i : Nat))) := fun H8 s8 => .lst (.inl (.inl (s8 _ _ eD))) (dps_ints _)
          cases kd with
          | steps => exact absurd rfl hsteps
          | never =>
            refine s_if (b := true) (et_is (kt7 "never" (some (.ref D)) H7) (decide_eq_true rfl)) (fun _ H8 s8 => ?_) (fun h => nomatch h)
            refine s_retB (K := K) (F := nn H8) (ed_eqE (ed_var rfl (dp_df (dD H8 s8))) ed_emp (lay_ints _)) rfl fun H9 s9 => fin _ H9 ((s17.trans s8).trans s9) ?_
            refine Iff.trans ?_ (look_never l1 hw.1).symm
            rw [List.isEmpty_iff, List.map_eq_nil_iff]
          | row =>
            refine s_if (b := false) (et_is (kt7 "never" (some (.ref D)) H7) (decide_eq_false (by dsimp only [kindS, kdS]; decide))) (fun h => nomatch h) (fun _ H8 s8 => ?_)
            have s18 := s17.trans s8
            have lay2 : PyData.canLayAll0 (((hitsL ws Hd R).filter fun i => decide (Hd.length ≤ i)).map fun i => .int (i : Nat)) = true := lay_ints _
            refine s_retB (K := K) (F := nn H8) (ed_neE (ds := ((hitsL ws Hd R).filter fun i => decide (Hd.length ≤ i)).map fun i => .int (i : Nat)) (ed_is (ed_lc (f := geB Hd.length) (m := fun s => s) (ei_list (ed_var rfl (dp_df (dD H8 s8)))) (by rw [List.length_map]; omega) fun F2 H9 e2 v2 d2 hm hd2 => ?_) ?_) ed_emp lay2) rfl fun H9 s9 => fin _ H9 (s18.trans s9) ?_
            · obtain ⟨i, _, rfl⟩ := List.mem_map.mp hm
              exact ⟨_, fun Q q => q, rfl, et_is (et_test (ed_ge (ed_var rfl hd2) (ed_len (ed_var rfl (df_ext e2 (dp_df (dh H8 s18)))) rfl))) (by show decide (((Hd.map PyData.str).length : Int) ≤ (i : Int)) = decide ((Hd.length : Int) ≤ (i : Int)); rw [List.length_map]), fun _ => ed_var rfl hd2⟩
            · rw [filt_ge]
            · refine Iff.trans ?_ (look_row l1 hw.1).symm
              rw [Bool.not_eq_true', ← Bool.not_eq_true, List.isEmpty_iff, List.map_eq_nil_iff, List.filter_eq_nil_iff]
              constructor
              · intro q
                apply Classical.byContradiction
                intro z
                exact q fun i hi w => z ⟨i, hi, of_decide_eq_true w⟩
              · rintro ⟨i, hi, hle⟩ q
                exact q i hi (decide_eq_true hle)
end
end Ag

set_option Elab.async false
set_option linter.all false
set_option maxRecDepth 100000
set_option maxHeartbeats 1000000
namespace Ag
open PySem PySem.Spec PyProof.Rows L2
theorem inV_bls (z : Bool) : ∀ (bs : List Bool), inV (.bl z) (bs.map V.bl) = decide (z ∈ bs)
  | [] => rfl
  | b :: bs => by
    have i := inV_bls z bs
    unfold inV at i ⊢
    rw [List.map_cons, List.any_cons, i]
    cases z <;> cases b <;> simp [eqV]
theorem flat_bls : ∀ (bs : List Bool), (bs.map V.bl).all flatV = true
  | [] => rfl
  | b :: bs => by rw [List.map_cons, List.all_cons, flat_bls bs]; rfl
/-- a head and a ring as lists -/
structure LR (K : PySem.W.Frag) (H : Hp) (h r : V) (Hd R : List Str) : Prop where
  head : Dp K H h (.list (Hd.map .str))
  ring : Dp K H r (.list (R.map .str))
  len : 1 ≤ R.length
  l2 : R.length ≤ 50
  l3 : Hd.length ≤ 50
  ah : ∀ x ∈ Hd, As 12 x
  ar : ∀ x ∈ R, As 12 x
theorem LR.mono {K : PySem.W.Frag} {H H' : Hp} {h r : V} {Hd R : List Str} (s : Same H H') (x : LR K H h r Hd R) : LR K H' h r Hd R := ⟨dp_mono s x.head, dp_mono s x.ring, x.len, x.l2, x.l3, x.ah, x.ar⟩
section
variable {P : Program} {w : World} {K : PySem.W.Frag} {mg : Str → Option Value} {base : Heap} (T : Txt w K mg)
def spLD (K : PySem.W.Frag) (n : Nat) : Sp := fun vs H Q _ => ∃ v d h r Hd R, vs = [v, h, r] ∧ Dp K H v (dtD d) ∧ OkD d ∧ dep d ≤ n ∧ LR K H h r Hd R ∧ ∀ H', Same H H' → Q (.bl (fulB (eHR ("" : Str) Hd R) d)) H'
theorem step_ld (m n : Nat) {spR : Sp} (G_law_done : FnOk P w K mg base CX0 (m + 3) T.a_law_done T.d_law_done ["duty", "head", "ring"] spR) (hR : ∀ vs H Q E, n ≠ 0 → spLD K (n - 1) vs H Q E → spR vs H Q E) :
    FnOk P w K mg base CX0 (m + 4) T.a_law_done T.d_law_done ["duty", "head", "ring"] (spLD K n) := by
  have G_law_plain_done := ok_plain_done (P := P) (base := base) T
  refine T.D_law_done.fn.ok sc_law_done (fun vs H Q E h => ?_) (fun cdv A outer s H vs Q E hr h => ?_)
  · obtain ⟨v, d, h, r, Hd, R, rfl, _⟩ := h; rfl
  · obtain ⟨v, d, h, r, Hd, R, rfl, hv, ok, hn, hx, k⟩ := h
    refine ⟨_, (pss_cons (ps_if (pt_cmpR op_notIn_seq (pe_ix ix_seq (pv 0) pe_int (fun _ _ => rfl)) (pe_lst (pa_cons pe_str (pa_cons pe_str pa_nil))) (by rfl)) (pss_one (ps_ret (pe_call (G_law_plain_done) (hr.mono (by omega)) (by rfl) T.D_law_plain_done.mg T.D_law_plain_done.fn.kp T.D_law_plain_done.bd .nil pass0 (pa_cons (pv 0) (pa_cons (pv 1) (pa_cons (pv 2) pa_nil)))))) pss_nil)
      (pss_cons (ps_setLc (i := 3) (own := [("part", 4)]) rfl sc_law_done.nd rfl rfl (sw_true rfl rfl rfl (by decide +kernel)) (pi_tup (pe_ix ix_seq (pv 0) pe_int (fun _ _ => rfl))) (blkOk_by (own := [("part", 4)]) (N := ["duty", "head", "ring", "truths", "part"]) (sc := defScope s_law_done) (by decide +kernel)) (fun _ _ _ _ _ => (pg_name (i := 4) sc_law_done.nd rfl (by first | exact Or.inl rfl | exact Or.inr rfl))) (fun _ _ _ _ _ => pts_nil) (fun _ _ _ _ _ => (pe_call (G_law_done) (hr.mono (by omega)) (by rfl) T.D_law_done.mg T.D_law_done.fn.kp T.D_law_done.bd .nil pass0 (pa_cons (pv 4) (pa_cons (pv 1) (pa_cons (pv 2) pa_nil))))))
      (pss_one (ps_ret (pe_ifExp (pt_cmpR op_eq (pe_ix ix_seq (pv 0) pe_int (fun _ _ => rfl)) pe_str (nomark _)) (pe_cmpR op_notIn_seq pe_bl (pv 3) (by rfl)) (pe_cmpR op_in_seq pe_bl (pv 3) (by rfl))))))), ?_⟩
    have jl : ∀ H1, ED K (tLst (tCons (tC (.str "all")) (tCons (tC (.str "any")) tNil))) (start ["duty", "head", "ring", "truths", "part"] [v, h, r]) (nn H1) H1 (.list (((["all", "any"] : List Str)).map .str)) := fun H1 => ed_lst (ea_cons ed_str (ea_cons ed_str ea_nil)) (by show 2 ≤ 100000; decide)
    cases d with
    | pl p =>
      obtain ⟨rest, e⟩ := pl_kind p
      have hv : Dp K H v (plD p) := hv
      refine s_if (b := true) (et_is (et_test (ed_notInSeq (K := K) (F := nn H) (ed_ixT (j := 0) (ds := .str (kindS p) :: rest) (ed_var rfl (dp_df (e ▸ hv))) ed_int rfl) (jl H) (.inr rfl))) (by rw [kind_joint]; rfl)) (fun _ H1 s1 => ?_) (fun h => nomatch h)
      have hx1 := hx.mono s1
      exact ⟨_, rfl, _, rfl, _, rfl, v, p, h, r, Hd, R, rfl, dp_mono s1 hv, ok, hx1.head, hx1.ring, hx1.len, hx1.l2, hx1.l3, hx1.ah, hx1.ar, fun H' s' => k H' (s1.trans s')⟩
    | jn al a b =>
      have hn : max (dep a) (dep b) + 1 ≤ n := hn
      have hj : decide (jnS al ∈ (["all", "any"] : List Str)) = true := by cases al <;> decide
      have hv : Dp K H v (.tuple [.str (jnS al), .tuple [dtD a, dtD b]]) := hv
      have var : ∀ H1, Same H H1 → ED K (tVar 0) (start ["duty", "head", "ring", "truths", "part"] [v, h, r]) (nn H1) H1 (.tuple [.str (jnS al), .tuple [dtD a, dtD b]]) := fun H1 s1 => ed_var rfl (dp_df (dp_mono s1 hv))
      refine s_if (b := false) (et_is (et_test (ed_notInSeq (ed_ixT (j := 0) (d := .str (jnS al)) (var H (Same.refl _)) ed_int rfl) (jl H) (.inr rfl))) (by rw [hj]; rfl)) (fun h => nomatch h) (fun _ H1 s1 => ?_)
      obtain ⟨av, pa, va, vb, rfl, hs1, hs2, ha, hb⟩ : ∃ av pa va vb, v = .ref av ∧ SqT K H av [.str (jnS al), .ref pa] ∧ SqT K H pa [va, vb] ∧ Dp K H va (dtD a) ∧ Dp K H vb (dtD b) := by
        cases hv with
        | tup hs r =>
          obtain _ | ⟨h1, r⟩ := r
          obtain _ | ⟨h2, r⟩ := r
          cases r; cases h1
          cases h2 with
          | tup hs2 r2 =>
            obtain _ | ⟨g1, r2⟩ := r2
            obtain _ | ⟨g2, r2⟩ := r2
            cases r2
            exact ⟨_, _, _, _, rfl, hs, hs2, g1, g2⟩
      refine ⟨_, rfl, .inr (.inl ⟨_, _, _, _, rfl, rfl, s1.stA hs1, rfl, ?_⟩)⟩
      refine ⟨pa, rfl, ⟨_, s1.stA hs2⟩, fun D hD => lc_tup (K := K) (a := pa) (xs := [va, vb]) (fun i H' => H' D = some (.lst ((([fulB (eHR ("" : Str) Hd R) a, fulB (eHR ("" : Str) Hd R) b] : List Bool).take i).map V.bl)) ∧ Same H1 H') ⟨upd_same, Same.newA hD⟩ (fun i H' _ p => (s1.trans p.2).stA hs2) ?_ ?_⟩
      · rintro i x H' hi ⟨eD, s2⟩
        have s12 := s1.trans s2
        have key : ∀ (c : Dt) (j : Nat) (x : V), dep c ≤ n - 1 → OkD c → Dp K H' x (dtD c) → ([fulB (eHR ("" : Str) Hd R) a, fulB (eHR ("" : Str) Hd R) b] : List Bool)[j]? = some (fulB (eHR ("" : Str) Hd R) c) → H' D = some (.lst ((([fulB (eHR ("" : Str) Hd R) a, fulB (eHR ("" : Str) Hd R) b] : List Bool).take j).map V.bl)) → j < 2 →
            spR [x, h, r] H' (fun y H4 => ∃ acc, H4 D = some (.lst acc) ∧ acc.length < sizeLine ∧ (upd H4 D (.lst (acc ++ [y]))) D = some (.lst ((([fulB (eHR ("" : Str) Hd R) a, fulB (eHR ("" : Str) Hd R) b] : List Bool).take (j + 1)).map V.bl)) ∧ Same H1 (upd H4 D (.lst (acc ++ [y])))) E0 := by
          intro c j x hd okc hx2 hj2 eD2 j2
          refine hR _ _ _ _ (by omega) ⟨x, c, h, r, Hd, R, rfl, hx2, okc, hd, hx.mono s12, fun H4 s4 => ⟨_, s4 _ _ eD2, lt5 (by rw [List.length_map, List.length_take]; omega), ?_, fun b2 o e' => ?_⟩⟩
          · rw [upd_same, List.take_add_one, hj2, List.map_append]; rfl
          · rw [upd_ne (ne_of_none e' hD)]; exact s4 _ _ (s2 _ _ e')
        refine ⟨rfl, _, rfl, _, rfl, _, rfl, ?_⟩
        match i, hi with
        | 0, hi => cases hi; exact key a 0 va (by omega) ok.1 (dp_mono s12 ha) rfl eD (by decide)
        | 1, hi => cases hi; exact key b 1 vb (by omega) ok.2 (dp_mono s12 hb) rfl eD (by decide)
      · rintro H' ⟨eD, s2⟩
        have s12 := s1.trans s2
        have kq : ET (tTest (tOp rEq (tOp (rIx K) (tVar 0) (tC (.int 0))) (tC (.str "all")))) [some (.ref av), some h, some r, some (.ref D), none] H' (decide (jnS al = "all")) := et_test (ed_eqS (ed_ixT (j := 0) (d := .str (jnS al)) (ed_var rfl (dp_df (dp_mono s12 hv))) ed_int rfl) ed_str)
        have eD : H' D = some (.lst (([fulB (eHR ("" : Str) Hd R) a, fulB (eHR ("" : Str) Hd R) b] : List Bool).map V.bl)) := eD
        have hin : ∀ z : Bool, inV (.bl z) (([fulB (eHR ("" : Str) Hd R) a, fulB (eHR ("" : Str) Hd R) b] : List Bool).map V.bl) = decide (z ∈ ([fulB (eHR ("" : Str) Hd R) a, fulB (eHR ("" : Str) Hd R) b] : List Bool)) := fun z => inV_bls z _
        refine s_ret (K := K) (F := nn H') (d := .bool (fulB (eHR ("" : Str) Hd R) (.jn al a b))) (ed_if kq (fun hb => ?_) (fun hb => ?_)) fun u H5 s5 hu => ?_
        · have : al = true := by
            cases al with
            | true => rfl
            | false => exact absurd (of_decide_eq_true hb) (by decide)
          subst this
          intro H5 s5 Q5 q5
          refine ⟨_, rfl, D, _, rfl, .inl (SqL.of (s5 _ _ eD)), rfl, flat_bls _, ?_⟩
          refine q5 _ H5 (Same.refl _) ?_
          rw [if_pos rfl, hin, fulB_jn]
          cases fulB (eHR ("" : Str) Hd R) a <;> cases fulB (eHR ("" : Str) Hd R) b <;> exact .bl _
        · have : al = false := by
            cases al with
            | false => rfl
            | true => exact absurd (show jnS true = "all" from rfl) (of_decide_eq_false hb)
          subst this
          intro H5 s5 Q5 q5
          refine ⟨_, rfl, D, _, rfl, .inl (SqL.of (s5 _ _ eD)), rfl, flat_bls _, ?_⟩
          refine q5 _ H5 (Same.refl _) ?_
          rw [if_neg (by decide), hin, fulB_jn]
          cases fulB (eHR ("" : Str) Hd R) a <;> cases fulB (eHR ("" : Str) Hd R) b <;> exact .bl _
        · cases hu; exact k H5 (s12.trans s5)
theorem ok_law_done : ∀ n : Nat, FnOk P w K mg base CX0 (n + 4) T.a_law_done T.d_law_done ["duty", "head", "ring"] (spLD K n)
  | 0 => step_ld T 0 0 ((no_ok (P := P) (w := w) (base := base) 0 T.D_law_done sc_law_done).mono (by omega)) fun vs H Q E h => absurd rfl h
  | n + 1 => step_ld T (n + 1) (n + 1) (ok_law_done n) fun vs H Q E _ h => h
end
end Ag

set_option Elab.async false
set_option linter.all false
set_option maxRecDepth 100000
set_option maxHeartbeats 1000000
namespace Ag
open PySem PySem.Spec PyProof.Rows L2
/-- a word of some of the calls -/
def spWord (K : PySem.W.Frag) : Sp := fun vs H Q _ => ∃ (p c cs : Addr) (ns : List Str) (n : Nat), vs = [.ref p, .ref cs, .int 4] ∧ Pen p c n H ∧ SqT K H cs (ns.map V.str) ∧ 1 ≤ ns.length ∧ ns.length ≤ 5 ∧ n + 1000000 < 1000000000000 ∧
  ∀ (l : Addr) (ws : List Str) H', (∀ x ∈ ws, x ∈ ns) → ws.length ≤ 4 → H l = none → H' l = some (.tup (ws.map V.str)) → But p H H' → Pen p c (n + 20) H' → Q (.ref l) H'
section
variable {P : Program} {w : World} {K : PySem.W.Frag} {mg : Str → Option Value} {base : Heap} (T : Txt w K mg)
theorem ok_some_word : FnOk P w K mg base CX0 3 T.a_law_some_word T.d_law_some_word ["pen", "calls", "most"] (spWord K) := by
  have G_law_draw := ok_draw (P := P) (base := base) T
  have G_law_pick := ok_pick (P := P) (base := base) T
  refine T.D_law_some_word.fn.ok sc_law_some_word (fun vs H Q E h => ?_) (fun cdv A outer s H vs Q E hr h => ?_)
  · obtain ⟨p, c, cs, ns, n, rfl, _⟩ := h; rfl
  · obtain ⟨p, c, cs, ns, n, rfl, hP, hs, n1, n4, nb, k⟩ := h
    refine ⟨_, (pss_one (ps_ret (pe_callTy call_tuple_of (by rfl) T.b_tuple bt_tuple (pa_cons (pe_lc (own := [("spot", 3)]) rfl sc_law_some_word.nd (pi_range1 (by rfl) T.b_range (pa_cons (pe_call (G_law_draw) (hr.mono (by omega)) (by rfl) T.D_law_draw.mg T.D_law_draw.fn.kp T.D_law_draw.bd .nil pass0 (pa_cons (pv 0) (pa_cons (pe_op op_add (pv 2) pe_int) pa_nil))) pa_nil)) (blkOk_by (own := [("spot", 3)]) (N := ["pen", "calls", "most", "spot"]) (sc := defScope s_law_some_word) (by decide +kernel)) (fun _ _ _ _ _ => (pg_name (i := 3) sc_law_some_word.nd rfl (by first | exact Or.inl rfl | exact Or.inr rfl))) (fun _ _ _ _ _ => pts_nil) (fun _ _ _ _ _ => (pe_call (G_law_pick) (hr.mono (by omega)) (by rfl) T.D_law_pick.mg T.D_law_pick.fn.kp T.D_law_pick.bd .nil pass0 (pa_cons (pv 0) (pa_cons (pv 1) pa_nil))))) pa_nil)))), ?_⟩
    refine ⟨_, rfl, _, rfl, _, _, rfl, rfl, p, c, 5, n, rfl, hP, by decide, by decide, by omega, fun d H1 d0 d1 b1 P1 => ?_⟩
    obtain ⟨m, rfl⟩ : ∃ m : Nat, d = m := ⟨d.toNat, by omega⟩
    refine ⟨_, rfl, by omega, by omega, fun D hD => lc_range (lo := 0) (n := m) (fun i H' => ∃ ms : List Str, H' D = some (.lst (ms.map V.str)) ∧ ms.length = i ∧ (∀ x ∈ ms, x ∈ ns) ∧ But p H1 H' ∧ Pen p c (n + 1 + i) H')
      ⟨[], upd_same, rfl, (fun x hx => by cases hx), .of (Same.newA hD), P1.upd (P1.ne_p hD) (P1.ne_c hD)⟩ ?_ ?_⟩
    · rintro i H' hi ⟨ms, e1, ml, hm, b2, P2⟩
      refine ⟨rfl, ?_⟩
      refine ⟨_, rfl, _, rfl, p, c, cs, ns.map V.str, n + 1 + i, rfl, P2, .inr (hP.st (b1.trans b2) hs), by rw [List.length_map]; omega, by rw [List.length_map]; omega, by omega, fun j v H2 hv b3 P3 => ?_⟩
      obtain ⟨x, hx, rfl⟩ := pick_str hv
      have e2 : H2 D = some (.lst (ms.map V.str)) := b3 _ _ (P1.ne_p hD) e1
      refine ⟨_, e2, lt5 (by rw [List.length_map]; omega), ms ++ [x], ?_, by rw [List.length_append, ml]; rfl, fun y hy => ?_, ?_, ?_⟩
      · rw [List.map_append]; exact upd_same
      · rcases List.mem_append.mp hy with hy | hy
        · exact hm y hy
        · rw [List.mem_singleton.mp hy]; exact hx
      · intro b u nb e
        rw [upd_ne (ne_of_none e hD)]
        exact b3 _ _ nb (b2 _ _ nb e)
      · exact (P3.more (by omega)).upd (P1.ne_p hD) (P1.ne_c hD)
    · rintro H' ⟨ms, e1, ml, hm, b2, P2⟩
      refine ⟨D, _, rfl, .inl ⟨SqL.of e1, fun r hr1 => ?_⟩⟩
      exact k r ms _ hm (by omega) (b1.free (b2.free hr1 (P2.ne_p hr1)) (P2.ne_p hr1)) upd_same (b1.trans (b2.trans (.of (Same.newA hr1)))) ((P2.more (by omega)).upd (P2.ne_p hr1) (P2.ne_c hr1))
end
end Ag

set_option Elab.async false
set_option linter.all false
set_option maxRecDepth 100000
set_option maxHeartbeats 1000000
namespace Ag
open PySem PySem.Spec PyProof.Rows L2 LamX
theorem xr_what : (("what" : Str) == ("row" : Str)) = false := by decide +kernel
theorem xd_row {l s : V} : ([("row", s), ("what", l)] : List (Str × V)).lookup ("row" : Str) = some s := rfl
theorem xd_what {l s : V} : ([("row", s), ("what", l)] : List (Str × V)).lookup ("what" : Str) = some l := by
  rw [List.lookup_cons, xr_what]; rfl
/-- what is caught here: a BadRow, told as a list; else None -/
def eWhy (K : PySem.W.Frag) (B : Addr) (Q : VK) : XK := fun cls d H => ∃ (y : V) (dd : PyData) (dx : Addr), cls = .ref B ∧ d = some dx ∧ H dx = some (.xd [("row", y), ("what", .str "ring")]) ∧ Dx K H y dd ∧ dd.showable = true ∧ dd.depth ≤ 50 ∧ dd.shown.length ≤ sizeLine ∧ ∀ p H2, Same H H2 → H2 p = some (.lst [.str "row", .str "ring", .str dd.shown]) → Q (.ref p) H2
def TWhy (K : PySem.W.Frag) (B : Addr) : (XK → Hp → VK → Prop) → Hp → VK → Prop := fun tl H Q => ∀ Q' : VK, (∀ v H', Q .non H' → Q' v H') → tl (eWhy K B Q) H Q'
theorem exm_of {K : PySem.W.Frag} {C : Addr} {b : Bool} {cls : Value} (x : XfC K C) (o : OexC K C) (s : PySem.W.subIn K cls (.ref C) = some b) : PySem.W.exmOne K cls (.ref C) = some b := PySem.W.exm_ref x.exC x.hdC o.tyC s
def tsNo : Addr → Value → Option Addr → TS := fun _ _ _ _ _ _ => False
theorem why_gives {X : Cx} (T : Txt X.w X.K X.mg) {g : Addr} {cdg : Value} {q : Str} (hgd : X.A.guards = some []) (hun : X.A.units + 400 < cLine) :
    GivesTo X ["call", "found", "error"] "_law_why" (defScope s_law_why) g cdg (defBody s_law_why) "call" q (TWhy X.K T.C_BadRow) := by
  intro f c' s H Q tl act hc h
  refine ⟨_, pss_cons (ps_set (i := 1) sc_law_why.nd rfl (.inl rfl) pe_non) (pss_cons (ps_try_named
    (l := [⟨.ref T.C_BadText, 2, tsNo⟩, ⟨.ref T.C_BadNumber, 2, tsNo⟩, ⟨.ref T.C_BadRow, 2, fun a c d => tAsg (tLst (tCons (tC (.str "row")) (tCons (tXf a c d T.C_BadRow "what" (tVar 2)) (tCons (tCB (rRepr X.K) (tCons (tXf a c d T.C_BadRow "row" (tVar 2)) tNil)) tNil)))) (gName 1)⟩, ⟨.ref T.C_NoName, 2, tsNo⟩, ⟨.ref T.C_Unlike, 2, tsNo⟩, ⟨.ref T.C_TooMany, 2, tsNo⟩])
    (tb := fun W D σ H => ∃ Ech : XK, (∀ cls d σ' H', Ech cls d H' → W cls d σ' H') ∧ σ[0]? = some (some (.ref f)) ∧ H c' = some (CodeO c' q) ∧ tl Ech H (fun _ H' => D.nx σ H'))
    rfl rfl sc_law_why.nd LamX.takes0 (fun W pn xe tk _ => ?body)
    (.cons ⟨by rfl, by decide, .inl T.g_BadText⟩ rfl rfl (fun a oe c d pn hz hf => pss_never)
    (.cons ⟨by rfl, by decide, .inl T.g_BadNumber⟩ rfl rfl (fun a oe c d pn hz hf => pss_never)
    (.cons ⟨by rfl, by decide, .inl T.g_BadRow⟩ rfl rfl (fun a oe c d pn hz hf => pss_one (ps_set (i := 1) sc_law_why.nd rfl (.inl rfl) (pe_lst (pa_cons pe_str (pa_cons (pe_xf (X := (cxOf C8.CX0 X.prog X.w X.K X.mg X.base ["call", "found", "error"] "_law_why" (defScope s_law_why) g cdg X.A X.stack s H C8.E0).nox) T.xf_BadRow T.na_BadRow_what hz hf (pv 2)) (pa_cons (pe_callB (r := rRepr X.K) (cr_repr (X := (cxOf C8.CX0 X.prog X.w X.K X.mg X.base ["call", "found", "error"] "_law_why" (defScope s_law_why) g cdg X.A X.stack s H C8.E0).nox.suite a ((a, oe) :: pn)) hgd (by show X.A.units + 3 + 64 < cLine; omega)) (by rfl) T.b_repr bt_repr (pa_cons (pe_xf (X := (cxOf C8.CX0 X.prog X.w X.K X.mg X.base ["call", "found", "error"] "_law_why" (defScope s_law_why) g cdg X.A X.stack s H C8.E0).nox) T.xf_BadRow T.na_BadRow_row hz hf (pv 2)) pa_nil)) pa_nil))))))
    (.cons ⟨by rfl, by decide, .inl T.g_NoName⟩ rfl rfl (fun a oe c d pn hz hf => pss_never)
    (.cons ⟨by rfl, by decide, .inl T.g_Unlike⟩ rfl rfl (fun a oe c d pn hz hf => pss_never)
    (.cons ⟨by rfl, by decide, .inl T.g_TooMany⟩ rfl rfl (fun a oe c d pn hz hf => pss_never) .nil))))))) (pss_one (ps_ret (pv 1)))), ?_⟩
  case body =>
    refine ⟨fun pins s' σ H' D I h' => ?_⟩
    obtain ⟨Ech, hW, h1, h2, h3⟩ := h'
    exact (pss_one (ps_expr (act W pn xe Ech _ _ tk hW))).run pins s' σ H' D I ⟨h1, h2, h3⟩
  · refine ⟨eWhy X.K T.C_BadRow Q, fun cls d σ' H' he => ?_, rfl, hc, h _ fun v H' q => ⟨_, rfl, q⟩⟩
    obtain ⟨y, dd, dx, rfl, rfl, hdx, hy, h1, h2, h3, k⟩ := he
    refine ⟨false, exm_of T.xf_BadText T.ox_BadText T.sb_BadRow_BadText, fun h => (nomatch h), fun _ => ⟨false, exm_of T.xf_BadNumber T.ox_BadNumber T.sb_BadRow_BadNumber, fun h => (nomatch h), fun _ => ⟨true, exm_of T.xf_BadRow T.ox_BadRow T.sb_BadRow, fun _ hl a ha => ?_, fun h => (nomatch h)⟩⟩⟩
    have hl : σ'.length = 3 := hl
    have e2 : (σ'.set 2 (some (V.ref a)))[2]? = some (some (.ref a)) := List.getElem?_set_self (by omega)
    refine ⟨_, e2, rfl, rfl, dx, _, _, rfl, hdx, xd_what, _, e2, rfl, rfl, dx, _, _, rfl, hdx, xd_row, _, dd, rfl, hy, h1, h2, h3, (by show 3 ≤ sizeLine; decide), fun p hp => ?_⟩
    refine ⟨_, ?_, k p _ (Same.newA hp) upd_same⟩
    show (((σ'.set 2 (some (V.ref a))).set 1 (some (V.ref p))).set 2 none)[1]? = _
    rw [List.getElem?_set_ne (by decide), List.getElem?_set_self (by rw [List.length_set]; omega)]
end Ag

set_option Elab.async false
set_option linter.all false
set_option maxRecDepth 100000
set_option maxHeartbeats 4000000
set_option pp.maxSteps 300
namespace Ag
open PySem PySem.Spec PyProof.Rows L2 LamX
theorem ite2 {c : Prop} [Decidable c] {A B : Prop} (h1 : c → A) (h2 : ¬ c → B) : if c then A else B := by
  by_cases h : c
  · rw [if_pos h]; exact h1 h
  · rw [if_neg h]; exact h2 h
theorem min_take {α : Type} (k : Nat) (ys : List α) : ys.take (min k ys.length) = ys.take k := by
  by_cases h : k ≤ ys.length
  · rw [Nat.min_eq_left h]
  · rw [Nat.min_eq_right (by omega), List.take_length, List.take_of_length_le (by omega)]
theorem cutV_to (ys : List V) (k : Nat) : cutV ys none (some (k : Int)) = ys.take k := by
  unfold cutV
  rw [HT.sIx_none, HT.sIx_nat, List.drop_zero, Nat.sub_zero, min_take]
theorem cutD_to (ys : List PyData) (k : Nat) : cutD ys none (some (k : Int)) = ys.take k := by
  unfold cutD
  rw [HT.sIx_none, HT.sIx_nat, List.drop_zero, Nat.sub_zero, min_take]
theorem cutD_from (ys : List PyData) (k : Nat) (h : k ≤ ys.length) : cutD ys (some (k : Int)) none = ys.drop k := by
  unfold cutD
  rw [HT.sIx_none, HT.sIx_nat, Nat.min_eq_left h]
  exact List.take_of_length_le (by rw [List.length_drop]; omega)
theorem ed_repT {K : PySem.W.Frag} {σ : L2.St} {F : Addr → Prop} {H : Hp} {te : TE} {xs : List PyData} (h : ED K te σ F H (.tuple xs)) (h1 : 1 ≤ xs.length) (h2 : xs.length ≤ 1000) : ED K (tOp (rRepT K) te (tC (.int 2))) σ F H (.tuple (xs ++ xs)) := fun H1 s Q q =>
  h H1 s _ fun v H2 s2 hv => by
    cases hv with
    | tup ht r =>
      rename_i vs
      have l := dfs_len r
      refine ⟨_, 2, _, rfl, rfl, ht, (fun z => by rw [z] at l; simp at l; omega), by decide, by decide, by omega, fun p hp => q _ _ (s2.trans (Same.newA hp)) (.tup (.of upd_same) ?_)⟩
      have e : (List.replicate (2 : Int).toNat vs).flatten = vs ++ vs := by
        show vs ++ (vs ++ []) = _
        rw [List.append_nil]
      rw [e]
      exact dfs_mono (Same.newA hp) (fun _ z => z) (dfs_app r r)
def OddOk (dd : PyData) : Prop := (gd dd = true ∨ dd = .dict []) ∧ badRing dd = true ∧ dd.showable = true ∧ dd.depth ≤ 50 ∧ As 100 dd.shown
theorem odd_tup0 : OddOk (.tuple []) := ⟨.inl (by decide +kernel), by decide +kernel, by decide +kernel, by decide +kernel, as_of (by decide +kernel)⟩
theorem odd_none : OddOk .none := ⟨.inl (by decide +kernel), by decide +kernel, by decide +kernel, by decide +kernel, as_of (by decide +kernel)⟩
theorem odd_five : OddOk (.int 5) := ⟨.inl (by decide +kernel), by decide +kernel, by decide +kernel, by decide +kernel, as_of (by decide +kernel)⟩
theorem odd_A : OddOk (.tuple [.str "A"]) := ⟨.inl (by decide +kernel), by decide +kernel, by decide +kernel, by decide +kernel, as_of (by decide +kernel)⟩
theorem odd_ab : OddOk (.str "ab") := ⟨.inl (by decide +kernel), by decide +kernel, by decide +kernel, by decide +kernel, as_of (by decide +kernel)⟩
theorem odd_lst0 : OddOk (.list []) := ⟨.inl (by decide +kernel), by decide +kernel, by decide +kernel, by decide +kernel, as_of (by decide +kernel)⟩
theorem odd_dict0 : OddOk (.dict []) := ⟨.inr rfl, by decide +kernel, by decide +kernel, by decide +kernel, as_of (by decide +kernel)⟩
theorem odd_tupN : OddOk (.tuple [.none]) := ⟨.inl (by decide +kernel), by decide +kernel, by decide +kernel, by decide +kernel, as_of (by decide +kernel)⟩
theorem told_sh (x : Str) (h : As 100 x) : SeqAt.shaped (.list [.str "row", .str "ring", .str x]) = true ∧ PyData.eqv (.list [.str "row", .str "ring", .str x]) (.list [.str "row", .str "ring", .str x]) = true := by
  refine ⟨?_, by simp [PyData.eqv, PyData.eqvAll]⟩
  have e : (PyData.list [.str "row", .str "ring", .str x]).canLay0 = true := gd_lay (by
    show (gd (.str "row") && (gd (.str "ring") && (gd (.str x) && true))) && decide (3 ≤ 1000) = true
    rw [as_gd (as_of (n := 20) (by decide +kernel)) (by decide), as_gd (as_of (n := 20) (by decide +kernel)) (by decide), as_gd h (by decide)]; rfl)
  unfold SeqAt.shaped
  rw [e]; simp [PyData.depth, PyData.depthAll]
theorem odd_dx {K : PySem.W.Frag} {p c : Addr} {n : Nat} {H H' : Hp} {v : V} {d : PyData} (P : Pen p c n H) (ext : ExtN H H') (h : Dx K H v d) : Dx K H' v d := by
  rcases h with h | ⟨rfl, a2, rfl, ha⟩
  · exact .inl (P.dpK (Kp.ext ext) h)
  · exact .inr ⟨rfl, a2, rfl, ext _ _ ha (fun _ z => nomatch z)⟩
/-- the one table, and the name that its code objects bear -/
def TB1 (tb : Addr) : List (Addr × Str) := [(tb, (envOfC "law" (defScope s_law) 0 0 (.ref 0)).qual ++ "<lambda>")]
theorem plains_len : ∀ (d : Dt) (n : Nat), dep d ≤ n → (plains d).length ≤ 2 ^ n
  | .pl p, n, _ => by show 1 ≤ 2 ^ n; exact Nat.one_le_two_pow
  | .jn _ a b, 0, h => by have h : max (dep a) (dep b) + 1 ≤ 0 := h; omega
  | .jn _ a b, n + 1, h => by
    have h : max (dep a) (dep b) + 1 ≤ n + 1 := h
    have h1 := plains_len a n (by omega)
    have h2 := plains_len b n (by omega)
    show (plains a ++ plains b).length ≤ _
    rw [List.length_append, Nat.pow_succ]; omega
theorem plains_ok : ∀ (d : Dt), OkD d → ∀ p ∈ plains d, OkP p
  | .pl p, h, q, hq => by rw [List.mem_singleton.mp hq]; exact h
  | .jn _ a b, h, q, hq => (List.mem_append.mp hq).elim (plains_ok a h.1 q) (plains_ok b h.2 q)
theorem dps_at {K : PySem.W.Frag} {H : Hp} {f : Pl → PyData} : ∀ {us : List V} {ps : List Pl}, DpAll K H us (ps.map f) → ∀ {j : Nat} {x : V}, us[j]? = some x → ∃ q, ps[j]? = some q ∧ Dp K H x (f q)
  | [], _, _, j, x, h => by simp at h
  | u :: us, [], h, j, x, e => nomatch h
  | u :: us, q :: ps, h, 0, x, e => by
    cases h with
    | cons h1 h2 => cases e; exact ⟨q, rfl, h1⟩
  | u :: us, q :: ps, h, j + 1, x, e => by
    cases h with
    | cons h1 h2 => exact dps_at h2 e
theorem plains_pos : ∀ (d : Dt), 1 ≤ (plains d).length
  | .pl p => Nat.le_refl 1
  | .jn _ a b => by
    have := plains_pos a
    show 1 ≤ (plains a ++ plains b).length
    rw [List.length_append]; omega
theorem plains_nm : ∀ (d : Dt), (plains d).flatMap nmP = nmD d
  | .pl p => by show [p].flatMap nmP = nmP p; simp
  | .jn _ a b => by
    show (plains a ++ plains b).flatMap nmP = nmD a ++ nmD b
    rw [List.flatMap_append, plains_nm a, plains_nm b]
theorem flat_le : ∀ (ps : List Pl), (∀ p ∈ ps, OkP p) → (ps.flatMap nmP).length ≤ 4 * ps.length
  | [], _ => by simp
  | p :: ps, h => by
    have := flat_le ps fun q hq => h q (List.mem_cons_of_mem _ hq)
    have := (h p List.mem_cons_self).len.2
    rw [List.flatMap_cons, List.length_append, List.length_cons]; omega
theorem own_pos (d : Dt) (h : OkD d) : 1 ≤ (nmD d).length := by
  rw [← plains_nm d]
  have hp := plains_pos d
  have ho := plains_ok d h
  cases e : plains d with
  | nil => rw [e] at hp; exact absurd hp (by decide)
  | cons p ps =>
    have := (ho p (by rw [e]; exact List.mem_cons_self)).len.1
    rw [List.flatMap_cons, List.length_append]; omega
section
variable {K : PySem.W.Frag} {σ : L2.St} {F : Addr → Prop} {H : Hp} {te ta tb : TE} {d e : PyData}
theorem ed_val {v : V} (hd : Df K F H v d) : ED K (tC v) σ F H d := fun H1 s Q q => q v H1 (Same.refl _) (df_mono s Fr.base hd)
theorem run_edc {tr : TA} {Q : List V → Hp → Prop} (h : ED K te σ F H d) (k : ∀ v H1, Same H H1 → Df K (Fr F H) H1 v d → tr σ H1 fun vs H2 => Q (v :: vs) H2) : tCons te tr σ H Q := h H (Same.refl _) _ k
theorem run_catT {v y : V} {xs ys : List PyData} {Q : VK} (hv : Df K F H v (.tuple xs)) (hy : Df K F H y (.tuple ys)) (hl : xs.length + ys.length ≤ 100000) (k : ∀ z H1, Same H H1 → Df K (Fr F H) H1 z (.tuple (xs ++ ys)) → Q z H1) : rCatA K v y H Q :=
  ed_catT (σ := []) (ed_val hv) (ed_val hy) hl H (Same.refl _) Q k
theorem rdc_same0 {E : XK} {b : Bool} : RDC K (fun vs H Q => spSame0 K vs H Q E) [.bool b, .bool b] (.bool true) := fun F vs H1 hv Q q => by
  obtain _ | ⟨hv, hn⟩ := hv
  obtain _ | ⟨hu, hn⟩ := hn
  cases hn
  exact ⟨_, _, .bool b, rfl, df_dp hv, df_dp hu, rfl, fun H' s => q _ H' s (.bl _)⟩
theorem rdc_ld {E : XK} {n : Nat} {D : Dt} {Hd R : List Str} (ok : OkD D) (hn : dep D ≤ n) (l1 : 1 ≤ R.length) (l2 : R.length ≤ 50) (l3 : Hd.length ≤ 50) (ah : ∀ x ∈ Hd, As 12 x) (ar : ∀ x ∈ R, As 12 x) :
    RDC K (fun vs H Q => spLD K n vs H Q E) [dtD D, .list (Hd.map .str), .list (R.map .str)] (.bool (fulB (eHR ("" : Str) Hd R) D)) := fun F vs H1 hv Q q => by
  obtain _ | ⟨h1, hn1⟩ := hv
  obtain _ | ⟨h2, hn1⟩ := hn1
  obtain _ | ⟨h3, hn1⟩ := hn1
  cases hn1
  exact ⟨_, D, _, _, Hd, R, rfl, df_dp h1, ok, hn, ⟨df_dp h2, df_dp h3, l1, l2, l3, ah, ar⟩, fun H' s => q _ H' s (.bl _)⟩
theorem rdc_ful {E : XK} {n : Nat} {B : Addr} {D : Dt} {Hd R : List Str} {hd rd : PyData} (ok : OkD D) (hn : dep D ≤ n) (hw : wordD Hd hd) (rw : wordD R rd) (l1 : 1 ≤ R.length) (l2 : R.length ≤ 1000) (ah : ∀ x ∈ Hd, As 12 x) (ar : ∀ x ∈ R, As 12 x ∧ nameB x = true) :
    RDC K (fun vs H Q => spOr (spFul K n) (spFulBad K B) vs H Q E) [dtD D, hd, rd] (.bool (fulB (eHR ("" : Str) Hd R) D)) := fun F vs H1 hv Q q => by
  obtain _ | ⟨h1, hn1⟩ := hv
  obtain _ | ⟨h2, hn1⟩ := hn1
  obtain _ | ⟨h3, hn1⟩ := hn1
  cases hn1
  exact .inl ⟨_, D, _, _, Hd, R, rd, rfl, df_dp h1, ok, hn, ⟨hd, df_dp h2, hw⟩, df_dp h3, rw, l1, l2, ah, ar, fun H' s => q _ H' s (.bl _)⟩
theorem run_el1 {xs : List Str} {tr : TA} {Q : List V → Hp → Prop} (h : EL te σ H xs) (k : ∀ p H1, Same H H1 → H1 p = some (.lst (xs.map V.str)) → tr σ H1 fun vs H2 => Q (V.ref p :: vs) H2) : tCons te tr σ H Q := h H (Same.refl _) _ k
end
section
variable {P : Program} {w : World} {K : PySem.W.Frag} {mg : Str → Option Value} {base : Heap} (T : Txt w K mg)
theorem law_runs {cc tb a : Addr} {zs : List Int} {s : Shared} {H : Hp} (hcode : T.d_law.code = .ref cc) (hTB : TabB base mg cc tb) (hT : H tb = some (.tbl #[])) (hs : SqL K H a (zs.map V.int)) (hl : zs.length ≤ 63) (e0 : Env0 P w K mg base callerA [] s H) :
    codeAny (model P w) callerA (.call (.ref T.a_law) ⟨[.ref a], []⟩) (CR CX0 [] P w H s (fun v _ => v = .bl true) fun _ _ _ => False) s := by
  have G_law_pen := ok_law_pen (P := P) (base := base) T
  have G_law_calls := ok_calls (P := P) (base := base) T
  have G_law_draw := ok_draw (P := P) (base := base) T
  have G_law_pick := ok_pick (P := P) (base := base) T
  have G_law_same := ok_law_same0 (P := P) (base := base) T
  have G_law_some_word := ok_some_word (P := P) (base := base) T
  have G_law_some_duty := ok_law_some_duty (P := P) (base := base) T 2
  have G_law_plain_ones := ok_plain_ones (P := P) (w := w) (base := base) T 2
  have G_law_plain_names := ok_plain_names (P := P) (base := base) T
  have G_law_done := ok_law_done (P := P) (w := w) (base := base) T 2
  have G_fulfils := ok_fulfils (P := P) (base := base) T 2
  obtain ⟨oc, od, kV, doc, pm, an, cdv, ct, osl, efd, lk, hcd⟩ := T.D_law.fn.ex
  obtain ⟨oc', od', kV', doc', pm', an', cdv', ct', osl', efw, lkw, hcw⟩ := T.D_law_why.fn.ex
  have LK := lkw
  rw [efw] at LK
  have BW := T.D_law_why.bd
  rw [efw] at BW
  have BL := T.D_law.bd
  rw [efd] at BL lk hcode
  have hcode : cdv = .ref cc := hcode
  subst hcode
  have kIn : K.In s.heap := e0.mod.kin.keeps fun b o e => (e0.bs b o e).1
  have rm : Room 12 callerA := ⟨rfl, by decide +kernel, by decide +kernel⟩
  refine run_ofS (N := ["script", "pen", "lap", "calls", "duty", "own", "one", "turn", "head", "ring", "spot", "due", "at", "odd"]) (vs := [.ref a]) (us := [.ref a]) lk hcd sc_law rm e0 (BL s [.ref a] kIn rfl) (.cons rfl .nil) rfl fun hr => ?_
  refine ⟨_, (pss_cons (ps_set (i := 1) sc_law.nd rfl (by first | exact Or.inl rfl | exact Or.inr rfl) (pe_call (G_law_pen) (hr.mono (by omega)) (by rfl) T.D_law_pen.mg T.D_law_pen.fn.kp T.D_law_pen.bd .nil pass0 (pa_cons (pv 0) pa_nil)))
      (pss_cons (ps_for (passes_of rfl) rfl (pi_range1 (by rfl) T.b_range (pa_cons pe_int pa_nil)) (pg_name (i := 2) sc_law.nd rfl (by first | exact Or.inl rfl | exact Or.inr rfl)) (pss_cons (ps_set (i := 3) sc_law.nd rfl (by first | exact Or.inl rfl | exact Or.inr rfl) (pe_call (G_law_calls) (hr.mono (by omega)) (by rfl) T.D_law_calls.mg T.D_law_calls.fn.kp T.D_law_calls.bd .nil pass0 (pa_cons (pv 1) (pa_cons (pe_op op_add pe_int (pe_call (G_law_draw) (hr.mono (by omega)) (by rfl) T.D_law_draw.mg T.D_law_draw.fn.kp T.D_law_draw.bd .nil pass0 (pa_cons (pv 1) (pa_cons pe_int pa_nil)))) pa_nil))))
      (pss_cons (ps_set (i := 4) sc_law.nd rfl (by first | exact Or.inl rfl | exact Or.inr rfl) (pe_call (G_law_some_duty) (hr.mono (by omega)) (by rfl) T.D_law_some_duty.mg T.D_law_some_duty.fn.kp T.D_law_some_duty.bd .nil pass0 (pa_cons (pv 1) (pa_cons (pv 3) (pa_cons (pe_op op_add pe_int (pe_call (G_law_draw) (hr.mono (by omega)) (by rfl) T.D_law_draw.mg T.D_law_draw.fn.kp T.D_law_draw.bd .nil pass0 (pa_cons (pv 1) (pa_cons pe_int pa_nil)))) (pa_cons pe_int pa_nil))))))
      (pss_cons (ps_set (i := 5) sc_law.nd rfl (by first | exact Or.inl rfl | exact Or.inr rfl) (pe_lst pa_nil))
      (pss_cons (ps_for (passes_of rfl) rfl (pi_list (pe_call (G_law_plain_ones) (hr.mono (by omega)) (by rfl) T.D_law_plain_ones.mg T.D_law_plain_ones.fn.kp T.D_law_plain_ones.bd .nil pass0 (pa_cons (pv 4) pa_nil))) (pg_name (i := 6) sc_law.nd rfl (by first | exact Or.inl rfl | exact Or.inr rfl)) (pss_one (ps_set (i := 5) sc_law.nd rfl (by first | exact Or.inl rfl | exact Or.inr rfl) (pe_op op_cat (pv 5) (pe_call (G_law_plain_names) (hr.mono (by omega)) (by rfl) T.D_law_plain_names.mg T.D_law_plain_names.fn.kp T.D_law_plain_names.bd .nil pass0 (pa_cons (pv 6) pa_nil))))))
      (pss_cons (ps_for (passes_of rfl) rfl (pi_range1 (by rfl) T.b_range (pa_cons pe_int pa_nil)) (pg_name (i := 7) sc_law.nd rfl (by first | exact Or.inl rfl | exact Or.inr rfl)) (pss_cons (ps_set (i := 8) sc_law.nd rfl (by first | exact Or.inl rfl | exact Or.inr rfl) (pe_call (G_law_some_word) (hr.mono (by omega)) (by rfl) T.D_law_some_word.mg T.D_law_some_word.fn.kp T.D_law_some_word.bd .nil pass0 (pa_cons (pv 1) (pa_cons (pe_op op_catA (pv 3) (pe_tup (pa_cons pe_str pa_nil))) (pa_cons pe_int pa_nil)))))
      (pss_cons (ps_set (i := 9) sc_law.nd rfl (by first | exact Or.inl rfl | exact Or.inr rfl) (pe_callTy call_tuple_of (by rfl) T.b_tuple bt_tuple (pa_cons (pe_lc (own := [("spot", 10)]) rfl sc_law.nd (pi_range1 (by rfl) T.b_range (pa_cons (pe_op op_add pe_int (pe_call (G_law_draw) (hr.mono (by omega)) (by rfl) T.D_law_draw.mg T.D_law_draw.fn.kp T.D_law_draw.bd .nil pass0 (pa_cons (pv 1) (pa_cons pe_int pa_nil)))) pa_nil)) (blkOk_by (own := [("spot", 10)]) (N := ["script", "pen", "lap", "calls", "duty", "own", "one", "turn", "head", "ring", "spot", "due", "at", "odd"]) (sc := defScope s_law) (by decide +kernel)) (fun _ _ _ _ _ => (pg_name (i := 10) sc_law.nd rfl (by first | exact Or.inl rfl | exact Or.inr rfl))) (fun _ _ _ _ _ => pts_nil) (fun _ _ _ _ _ => (pe_call (G_law_pick) (hr.mono (by omega)) (by rfl) T.D_law_pick.mg T.D_law_pick.fn.kp T.D_law_pick.bd .nil pass0 (pa_cons (pv 1) (pa_cons (pe_call (G_law_pick) (hr.mono (by omega)) (by rfl) T.D_law_pick.mg T.D_law_pick.fn.kp T.D_law_pick.bd .nil pass0 (pa_cons (pv 1) (pa_cons (pe_lst (pa_cons (pe_callTy (r := fun xs H Q => ∃ q ys, xs = [V.ref q] ∧ (SqL K H q ys ∨ SqT K H q ys) ∧ ∀ l, H l = none → Q (.ref l) (upd H l (.lst ys))) call_list_of (by rfl) T.b_list bt_list (pa_cons (pv 3) pa_nil)) (pa_cons (pv 5) (pa_cons (pe_op op_cat (pe_callTy (r := fun xs H Q => ∃ q ys, xs = [V.ref q] ∧ (SqL K H q ys ∨ SqT K H q ys) ∧ ∀ l, H l = none → Q (.ref l) (upd H l (.lst ys))) call_list_of (by rfl) T.b_list bt_list (pa_cons (pv 3) pa_nil)) (pe_lst (pa_cons pe_str pa_nil))) pa_nil)))) pa_nil))) pa_nil))))) pa_nil)))
      (C8.pss_cut (ps_if (pt_cmpR op_eq (pe_call (G_law_draw) (hr.mono (by omega)) (by rfl) T.D_law_draw.mg T.D_law_draw.fn.kp T.D_law_draw.bd .nil pass0 (pa_cons (pv 1) (pa_cons pe_int pa_nil))) pe_int (nomark _)) (pss_one (ps_set (i := 9) sc_law.nd rfl (by first | exact Or.inl rfl | exact Or.inr rfl) (pe_callTy call_tuple_of (by rfl) T.b_tuple bt_tuple (pa_cons (pe_slice sl_list (pv 5) po_none (po_some pe_int)) pa_nil)))) pss_nil)
      (pss_cons (ps_set (i := 11) sc_law.nd rfl (by first | exact Or.inl rfl | exact Or.inr rfl) (pe_call (G_law_done) (hr.mono (by omega)) (by rfl) T.D_law_done.mg T.D_law_done.fn.kp T.D_law_done.bd .nil pass0 (pa_cons (pv 4) (pa_cons (pe_callTy call_list_of (by rfl) T.b_list bt_list (pa_cons (pv 8) pa_nil)) (pa_cons (pe_callTy call_list_of (by rfl) T.b_list bt_list (pa_cons (pv 9) pa_nil)) pa_nil)))))
      (pss_cons (ps_if (pt_not (pt_val (pe_call (G_law_same) (hr.mono (by omega)) (by rfl) T.D_law_same.mg T.D_law_same.fn.kp T.D_law_same.bd .nil pass0 (pa_cons (pe_call (G_fulfils) (hr.mono (by omega)) (by rfl) T.D_fulfils.mg T.D_fulfils.fn.kp T.D_fulfils.bd .nil (passes_call LamX.takes0 fun _ _ _ _ z => z) (pa_cons (pv 4) (pa_cons (pe_call (G_law_pick) (hr.mono (by omega)) (by rfl) T.D_law_pick.mg T.D_law_pick.fn.kp T.D_law_pick.bd .nil pass0 (pa_cons (pv 1) (pa_cons (pe_lst (pa_cons (pv 8) (pa_cons (pe_callTy call_list_of (by rfl) T.b_list bt_list (pa_cons (pv 8) pa_nil)) pa_nil))) pa_nil))) (pa_cons (pe_call (G_law_pick) (hr.mono (by omega)) (by rfl) T.D_law_pick.mg T.D_law_pick.fn.kp T.D_law_pick.bd .nil pass0 (pa_cons (pv 1) (pa_cons (pe_lst (pa_cons (pv 9) (pa_cons (pe_callTy call_list_of (by rfl) T.b_list bt_list (pa_cons (pv 9) pa_nil)) pa_nil))) pa_nil))) pa_nil)))) (pa_cons (pv 11) pa_nil))))) (pss_one (ps_ret pe_bl)) pss_nil)
      (pss_cons (ps_set (i := 12) sc_law.nd rfl (by first | exact Or.inl rfl | exact Or.inr rfl) (pe_call (G_law_draw) (hr.mono (by omega)) (by rfl) T.D_law_draw.mg T.D_law_draw.fn.kp T.D_law_draw.bd .nil pass0 (pa_cons (pv 1) (pa_cons (pe_callB call_len (by rfl) T.b_len bt_len (pa_cons (pv 9) pa_nil)) pa_nil))))
      (pss_one (ps_if (PW.pt (pw_or (pt_not (pt_val (pe_call (G_law_same) (hr.mono (by omega)) (by rfl) T.D_law_same.mg T.D_law_same.fn.kp T.D_law_same.bd .nil pass0 (pa_cons (pe_call (G_fulfils) (hr.mono (by omega)) (by rfl) T.D_fulfils.mg T.D_fulfils.fn.kp T.D_fulfils.bd .nil (passes_call LamX.takes0 fun _ _ _ _ z => z) (pa_cons (pv 4) (pa_cons (pe_op op_catA (pe_op op_catA (pv 8) (pv 9)) (pe_slice sl_tupA (pv 9) po_none (po_some (pv 12)))) (pa_cons (pe_op op_catA (pe_slice sl_tupA (pv 9) (po_some (pv 12)) po_none) (pe_slice sl_tupA (pv 9) po_none (po_some (pv 12)))) pa_nil)))) (pa_cons (pv 11) pa_nil))))) (pw_or1 (pt_not (pt_val (pe_call (G_law_same) (hr.mono (by omega)) (by rfl) T.D_law_same.mg T.D_law_same.fn.kp T.D_law_same.bd .nil pass0 (pa_cons (pe_call (G_fulfils) (hr.mono (by omega)) (by rfl) T.D_fulfils.mg T.D_fulfils.fn.kp T.D_fulfils.bd .nil (passes_call LamX.takes0 fun _ _ _ _ z => z) (pa_cons (pv 4) (pa_cons (pv 8) (pa_cons (pe_op op_repT (pv 9) pe_int) pa_nil)))) (pa_cons (pv 11) pa_nil)))))))) (pss_one (ps_ret pe_bl)) pss_nil)))))))))
      (pss_cons (ps_set (i := 13) sc_law.nd rfl (by first | exact Or.inl rfl | exact Or.inr rfl) (pe_call (G_law_pick) (hr.mono (by omega)) (by rfl) T.D_law_pick.mg T.D_law_pick.fn.kp T.D_law_pick.bd .nil pass0 (pa_cons (pv 1) (pa_cons (pe_lst (pa_cons (pe_tup pa_nil) (pa_cons pe_non (pa_cons pe_int (pa_cons (pe_tup (pa_cons pe_str pa_nil)) (pa_cons pe_str (pa_cons (pe_lst pa_nil) (pa_cons pe_dnewK (pa_cons (pe_tup (pa_cons pe_non pa_nil)) pa_nil))))))))) pa_nil))))
      (pss_one (ps_if (pt_cmpR (op_neD hr.units) (pe_lamcall (T := TB1 tb) (P := tb) (c := cc) (k := 7) (by rfl) T.D_law_why.mg T.D_law_why.fn.kp LK hcw BW sc_law_why rfl (.inl rfl) (why_gives T rfl (by show callerA.units + 3 + 400 < cLine; decide +kernel)) hTB rfl (List.mem_singleton.mpr rfl) (fun q hq _ => by rw [List.mem_singleton.mp hq]; rfl) (hr.mono (by omega)) (lamS_by (sc := defScope s_law) (by decide +kernel)) rfl (fun _ _ _ _ _ => rfl) (fun A outer s H E f c' hr => pe_call G_fulfils (hr.mono (by omega)) (by rfl) T.D_fulfils.mg T.D_fulfils.fn.kp T.D_fulfils.bd .nil (passes_call (takes_of rfl rfl rfl rfl) fun _ _ _ _ z => z) (pa_cons (pv 4) (pa_cons (pe_tup pa_nil) (pa_cons (pv 13) pa_nil))))) (pe_lst (pa_cons pe_str (pa_cons pe_str (pa_cons (pe_callB (cr_repr rfl hr.units) (by rfl) T.b_repr bt_repr (pa_cons (pv 13) pa_nil)) pa_nil)))) (nomark _)) (pss_one (ps_ret pe_bl)) pss_nil)))))))))
      (pss_one (ps_ret pe_bl)))), ?_⟩
  refine ⟨_, rfl, a, zs, rfl, hs, hl, fun p c H1 s1 P1 => ?_⟩
  have T1 : Tabs (TB1 tb) H1 := fun q hq => by
    rw [List.mem_singleton.mp hq]; exact (TabS.nil hT).ext s1
  refine ⟨5, rfl, by decide, by decide, for_range (n := 5) (fun i σ' H' => ∃ (o2 o3 o4 o5 o6 o7 o8 o9 o11 o12 o13 : Option V), σ' = [some (.ref a), some (.ref p), o2, o3, o4, o5, o6, o7, o8, o9, none, o11, o12, o13] ∧ Pen p c (100000 * i) H' ∧ Tabs (TB1 tb) H')
    ⟨none, none, none, none, none, none, none, none, none, none, none, rfl, P1, T1⟩ ?_ ?_⟩
  · rintro i σ' H' hi ⟨o2, o3, o4, o5, o6, o7, o8, o9, o11, o12, o13, rfl, P2, T2⟩
    clear P1 T1 s1 hs hT e0 lk hcd BL kIn
    refine ⟨_, rfl, _, rfl, p, c, 4, _, rfl, P2, by decide, by decide, by omega, fun d H3 d0 d1 b3 P3 => ⟨_, _, rfl, rfl, ?_⟩⟩
    obtain ⟨e, rfl⟩ : ∃ e : Nat, d = e := ⟨d.toNat, by omega⟩
    refine ⟨p, c, e + 1, 100000 * i + 1, ?_, P3, by omega, by omega, fun cs ns H4 hn _ ecs b4 P4 => ?_⟩
    · show [V.ref p, V.int (1 + (e : Int))] ++ [] = _
      rw [show (1 : Int) + (e : Int) = ((e + 1 : Nat) : Int) by omega]; rfl
    have good := good_names hn (by omega) (by omega)
    have T4 := tabs_but P3 b4 (tabs_but P2 b3 T2)
    have st4 : SqT K H4 cs (ns.map V.str) := .of ecs
    clear hn P2 P3 T2 b3 b4 d0 d1 ecs
    have nd4 := good.2.1
    have nd1 := good.2.2.1
    -- the duty
    refine ⟨_, rfl, _, rfl, _, rfl, p, c, 4, _, rfl, P4, by decide, by decide, by omega, fun d H5 d0 d1 b5 P5 => ⟨_, _, rfl, rfl, ?_⟩⟩
    obtain ⟨e2, rfl⟩ : ∃ e2 : Nat, d = e2 := ⟨d.toNat, by omega⟩
    have st5 := P4.st b5 st4
    have c2 : Cst 2 = 900 := rfl
    refine ⟨p, c, cs, ns, _, e2 + 1, ?_, P5, st5, good, by omega, by omega, by omega, fun dv D H6 hD ok hdep hnm b6 P6 => ?_⟩
    · show [V.ref p, V.ref cs, V.int (1 + (e2 : Int)), V.int 2] ++ [] = _
      rw [show (1 : Int) + (e2 : Int) = ((e2 + 1 : Nat) : Int) by omega]; rfl
    have st6 := P5.st b6 st5
    have T6 := tabs_but P5 b6 (tabs_but P4 b5 T4)
    replace P6 := P6.more (m := 100000 * i + 5000) (by omega)
    clear d0 d1 st5 st4 P5 P4 b5 b6 T4
    -- its names
    have pl4 := plains_len D 2 hdep
    have plk := plains_ok D ok
    refine ⟨(by show 0 ≤ sizeLine; decide), fun w0 hw0 => ?_⟩
    have s67 : Same H6 (upd H6 w0 (.lst [])) := Same.newA hw0
    have st7 := s67.stA st6
    have T7 := T6.ext s67
    have P7 := P6.upd (P6.ne_p hw0) (P6.ne_c hw0) (o := .lst [])
    have hD7 := dp_mono s67 hD
    have e7 : (upd H6 w0 (.lst [])) w0 = some (.lst []) := upd_same
    generalize upd H6 w0 (HO.lst []) = H7 at s67 st7 T7 P7 hD7 e7
    clear st6 T6 P6 hD s67 hw0
    refine ⟨_, rfl, dv, D, rfl, hD7, hdep, by omega, fun lo us H8 s8 elo dus => ⟨lo, rfl, ⟨us, .of elo⟩, for_list (K := K) (a := lo) (xs := us) (fun j σ' H' => ∃ o6 l, σ' = [some (.ref a), some (.ref p), some (.int (0 + (i : Int))), some (.ref cs), some dv, some (.ref l), o6, o7, o8, o9, none, o11, o12, o13] ∧ Same H8 H' ∧ H' l = some (.lst ((((plains D).take j).flatMap nmP).map V.str)))
      ⟨o6, w0, rfl, Same.refl _, s8 _ _ e7⟩ ?_ ?_ ?_⟩⟩
    · rintro j σ' H' _ ⟨_, _, _, s9, _⟩
      exact .of (s9 _ _ elo)
    · rintro j x σ' H' hx ⟨o6, l, rfl, s9, el⟩
      obtain ⟨pj, hpj, hxd⟩ : ∃ pj, (plains D)[j]? = some pj ∧ Dp K H8 x (plD pj) := dps_at dus hx
      have okj : OkP pj := plk pj (List.mem_of_getElem? hpj)
      have lj : (((plains D).take j).flatMap nmP).length ≤ 4 * 4 := by
        have h1 := flat_le ((plains D).take j) fun q hq => plk q (List.mem_of_mem_take hq)
        have h2 : ((plains D).take j).length ≤ 4 := Nat.le_trans (List.length_take_le' _ _) pl4
        omega
      have l4 := okj.len
      refine ⟨_, rfl, _, rfl, x, pj, rfl, dp_mono s9 hxd, okj, fun l2 H9 s10 el2 => ⟨l, l2, _, _, rfl, rfl, s10 _ _ el, el2, small5 (by rw [List.length_map, List.length_map]; omega), fun l3 hl3 => ⟨_, l3, rfl, (s9.trans s10).trans (Same.newA hl3), ?_⟩⟩⟩
      rw [upd_same, List.take_succ, hpj, List.flatMap_append, List.map_append]
      show _ = some (HO.lst (_ ++ (([pj].flatMap nmP).map V.str)))
      rw [List.flatMap_cons, List.flatMap_nil, List.append_nil]
    · rintro σ' H9 ⟨o6, l, rfl, s9, el⟩
      have lus := dps_len dus
      rw [List.length_map] at lus
      rw [lus, List.take_length, plains_nm] at el
      have s79 := s8.trans s9
      have st9 := s79.stA st7
      have T9 := T7.ext s79
      have P9 := P7.same s79
      have hD9 := dp_mono s79 hD7
      have own1 := own_pos D ok
      have own16 : (nmD D).length ≤ 16 := by
        rw [← plains_nm D]
        have := flat_le _ plk
        omega
      have ownA : ∀ x ∈ nmD D, As 12 x ∧ nameB x = true := fun x hx => ⟨(good.2.2.2 x (hnm x hx)).2, (good.2.2.2 x (hnm x hx)).1⟩
      clear st7 T7 P7 hD7 s79 s8 s9 elo dus lus e7 hnm plk pl4
      have zzA : ∀ x ∈ ns ++ (["zz"] : List Str), As 12 x ∧ nameB x = true := fun x hx => by
        rcases List.mem_append.mp hx with hx | hx
        · exact ⟨(good.2.2.2 x hx).2, (good.2.2.2 x hx).1⟩
        · rw [List.mem_singleton.mp hx]; exact ⟨as_of (by decide +kernel), by decide +kernel⟩
      have nsA : ∀ x ∈ ns, As 12 x ∧ nameB x = true := fun x hx => ⟨(good.2.2.2 x hx).2, (good.2.2.2 x hx).1⟩
      replace P9 := P9.more (m := 100000 * i + 6000) (by omega)
      refine ⟨8, rfl, by decide, by decide, for_range (n := 8) (fun j σ' H' => ∃ o6 o7 o8 o9 o11 o12, σ' = [some (.ref a), some (.ref p), some (.int (0 + (i : Int))), some (.ref cs), some dv, some (.ref l), o6, o7, o8, o9, none, o11, o12, o13] ∧ But p H9 H' ∧ Pen p c (100000 * i + 6000 + 1000 * j) H' ∧ Tabs (TB1 tb) H')
        ⟨o6, o7, o8, o9, o11, o12, rfl, .refl _ _, P9, T9⟩ ?_ ?_⟩
      · rintro j σ' H10 hj ⟨o6, o7, o8, o9, o11, o12, rfl, b10, P10, T10⟩
        have st10 := P9.st b10 st9
        have hD10 := P9.dp b10 hD9
        have el10 := b10 _ _ (P9.ne el (fun _ z => nomatch z)) el
        have cl10 : ∀ {x : Addr}, H10 x = none → H9 x = none := fun {x} hx => b10.free hx (P10.ne_p hx)
        generalize hm0 : 100000 * i + 6000 + 1000 * j = n0 at P10
        have hn0 : n0 ≤ 500000 := by omega
        refine ⟨_, rfl, _, rfl, (by show 1 ≤ sizeLine; decide), fun t0 ht0 => ?_⟩
        refine run_catT (K := K) (F := nn (upd H10 t0 (.tup [.str "zz"]))) (xs := ns.map .str) (ys := (["zz"] : List Str).map .str) (dp_df (.tup ((Same.newA ht0).stA st10) (dps_strs ns))) (dp_df (.tup (.of upd_same) (dps_strs ["zz"]))) (by rw [List.length_map, List.length_map]; have : (["zz"] : List Str).length = 1 := rfl; omega) fun z H11 s11 hz => ?_
        rw [← List.map_append] at hz
        cases hz with
        | tup hz r =>
          rename_i zv _ 
          have e := strs_dps (dfs_dps r)
          subst e
          clear r
          have s1011 := (Same.newA (o := .tup [.str "zz"]) ht0).trans s11
          have P11 := P10.same s1011
          refine ⟨p, c, zv, ns ++ (["zz"] : List Str), n0, rfl, P11, hz, by simp, by rw [List.length_append]; show ns.length + 1 ≤ 5; omega, by omega, fun hd ws H12 hws wl hnone ehd b12 P12 => ?_⟩
          have b1012 := (But.of s1011).trans b12
          have T12 := tabs_but P10 b1012 T10
          have wsA : ∀ x ∈ ws, As 12 x := fun x hx => (zzA x (hws x hx)).1
          clear s11 s1011 P11 hz hws hnone b12 ht0
          -- the ring
          refine ⟨_, rfl, p, c, 5, _, rfl, P12, by decide, by decide, by omega, fun d H13 d0 d1 b13 P13 => ⟨_, _, rfl, rfl, ?_⟩⟩
          obtain ⟨m, rfl⟩ : ∃ m : Nat, d = m := ⟨d.toNat, by omega⟩
          refine ⟨_, rfl, by omega, by omega, fun D0 hD0 => lc_range (lo := 0) (n := (1 + (m : Int)).toNat) (fun k H' => ∃ ms : List Str, H' D0 = some (.lst (ms.map V.str)) ∧ ms.length = k ∧ (∀ x ∈ ms, As 12 x ∧ nameB x = true) ∧ But p H13 H' ∧ Pen p c (n0 + 21 + 2 * k) H')
            ⟨[], upd_same, rfl, (fun x hx => by cases hx), .of (Same.newA hD0), (P13.more (by omega)).upd (P13.ne_p hD0) (P13.ne_c hD0)⟩ ?_ ?_⟩
          · rintro k H14 hk ⟨ms, e1, ml, hms, b14, P14⟩
            refine ⟨rfl, ?_⟩
            have st14 := P10.st (b1012.trans (b13.trans b14)) st10
            have el14 := b13.trans b14 _ _ (P12.ne (b1012 _ _ (P9.ne el (fun _ z => nomatch z)) el10) (fun _ z => nomatch z)) (b1012 _ _ (P9.ne el (fun _ z => nomatch z)) el10)
            refine ⟨_, rfl, _, rfl, _, rfl, cs, _, rfl, .inr st14, fun l1 hl1 => ⟨_, rfl, _, rfl, cs, _, rfl, .inr ((Same.newA hl1).stA st14), fun l2 hl2 => ⟨(by show 1 ≤ sizeLine; decide), fun l3 hl3 => ⟨l2, l3, _, _, rfl, rfl, (Same.newA hl3) _ _ upd_same, upd_same, ?_, fun l4 hl4 => ⟨(by show 3 ≤ sizeLine; decide), fun l5 hl5 => ?_⟩⟩⟩⟩⟩
            · rw [List.length_map]; exact small5 (by show ns.length + 1 ≤ _; omega)
            generalize hA1 : upd H14 l1 (HO.lst (ns.map V.str)) = A1 at hl2 hl3 hl4 hl5
            have q1 : A1 l1 = some (.lst (ns.map V.str)) := by rw [← hA1]; exact upd_same
            have sA1 : Same H14 A1 := by rw [← hA1]; exact Same.newA hl1
            generalize hA2 : upd A1 l2 (HO.lst (ns.map V.str)) = A2 at hl3 hl4 hl5
            have sA2 : Same A1 A2 := by rw [← hA2]; exact Same.newA hl2
            generalize hA3 : upd A2 l3 (HO.lst [V.str "zz"]) = A3 at hl4 hl5
            have sA3 : Same A2 A3 := by rw [← hA3]; exact Same.newA hl3
            generalize hA4 : upd A3 l4 (HO.lst (ns.map V.str ++ [V.str "zz"])) = A4 at hl5
            have q4 : A4 l4 = some (.lst ((ns ++ (["zz"] : List Str)).map V.str)) := by rw [← hA4, List.map_append]; exact upd_same
            have sA4 : Same A3 A4 := by rw [← hA4]; exact Same.newA hl4
            generalize hA5 : upd A4 l5 (HO.lst [V.ref l1, V.ref l, V.ref l4]) = A5
            have q5 : A5 l5 = some (.lst [.ref l1, .ref l, .ref l4]) := by rw [← hA5]; exact upd_same
            have sA5 : Same A4 A5 := by rw [← hA5]; exact Same.newA hl5
            have sAA := sA1.trans (sA2.trans (sA3.trans (sA4.trans sA5)))
            have PA := P14.same sAA
            refine ⟨p, c, l5, [.ref l1, .ref l, .ref l4], _, rfl, PA, .inl (.of q5), (by show 0 < 3; decide), (by show 3 < 100000; decide), by omega, fun y v H15 hv b15 P15 => ?_⟩
            obtain ⟨q, zs, rfl, hq, z1, z2, hz⟩ : ∃ (q : Addr) (zs : List Str), v = .ref q ∧ H15 q = some (.lst (zs.map V.str)) ∧ 1 ≤ zs.length ∧ zs.length ≤ 100 ∧ ∀ x ∈ zs, As 12 x ∧ nameB x = true := by
              have lst : ∀ {x : Addr} {u : List V}, A5 x = some (.lst u) → H15 x = some (.lst u) := fun {x u} hx => b15 _ _ (PA.ne hx (fun _ z => nomatch z)) hx
              match y, hv with
              | 0, hv => cases hv; exact ⟨l1, ns, rfl, lst ((sA2.trans (sA3.trans (sA4.trans sA5))) _ _ q1), nd1, by omega, nsA⟩
              | 1, hv => cases hv; exact ⟨l, nmD D, rfl, lst (sAA _ _ el14), own1, by omega, ownA⟩
              | 2, hv => cases hv; exact ⟨l4, ns ++ (["zz"] : List Str), rfl, lst (sA5 _ _ q4), by simp, by rw [List.length_append]; show ns.length + 1 ≤ _; omega, zzA⟩
            refine ⟨p, c, q, zs.map V.str, _, rfl, P15, .inl (.of hq), by rw [List.length_map]; omega, by rw [List.length_map]; omega, by omega, fun y2 v2 H16 hv2 b16 P16 => ?_⟩
            obtain ⟨x, hx, rfl⟩ := pick_str hv2
            have e2 : H16 D0 = some (.lst (ms.map V.str)) := b16 _ _ (P13.ne_p hD0) (b15 _ _ (P13.ne_p hD0) (sAA _ _ e1))
            refine ⟨_, e2, lt5 (by rw [List.length_map]; omega), ms ++ [x], ?_, by rw [List.length_append, ml]; rfl, fun y hy => ?_, ?_, ?_⟩
            · rw [List.map_append]; exact upd_same
            · rcases List.mem_append.mp hy with hy | hy
              · exact hms y hy
              · rw [List.mem_singleton.mp hy]; exact hz x hx
            · intro b u nb e
              rw [upd_ne (ne_of_none e hD0)]
              exact b16 _ _ nb (b15 _ _ nb (sAA _ _ (b14 _ _ nb e)))
            · exact (P16.more (by omega)).upd (P13.ne_p hD0) (P13.ne_c hD0)
          · rintro H14 ⟨ms, e1, ml, hms, b14, P14⟩
            refine ⟨D0, _, rfl, .inl ⟨SqL.of e1, fun rg hrg => ?_⟩⟩
            have ehd14 : H14 hd = some (.tup (ws.map V.str)) := (b13.trans b14) _ _ (P12.ne ehd (fun _ z => nomatch z)) ehd
            have b1014 := b1012.trans (b13.trans b14)
            have T14 := tabs_but P10 b1014 T10
            have s15 := Same.newA (o := .tup (ms.map V.str)) hrg
            have P15 := (P14.same s15).more (m := n0 + 40) (by omega)
            have b1015 := b1014.trans (.of s15)
            have T15 := T14.ext s15
            have ehd15 := s15 _ _ ehd14
            have erg15 : (upd H14 rg (HO.tup (ms.map V.str))) rg = some (.tup (ms.map V.str)) := upd_same
            have ms1 : 1 ≤ ms.length := by omega
            have ms5 : ms.length ≤ 5 := by omega
            generalize upd H14 rg (HO.tup (ms.map V.str)) = H15 at s15 P15 b1015 T15 ehd15 erg15
            clear b13 P13 hD0 e1 ml b14 P14 hrg ehd14 b1014 T14 s15 b1012 T12 ehd P12 d0 d1
            refine ⟨fun σ' H' => ∃ (rg : Addr) (ms : List Str), σ' = [some (.ref a), some (.ref p), some (.int (0 + (i : Int))), some (.ref cs), some dv, some (.ref l), o6, some (.int (0 + (j : Int))), some (.ref hd), some (.ref rg), none, o11, o12, o13] ∧ H' rg = some (.tup (ms.map V.str)) ∧ 1 ≤ ms.length ∧ ms.length ≤ 5 ∧ (∀ x ∈ ms, As 12 x ∧ nameB x = true) ∧ But p H15 H' ∧ Pen p c (n0 + 50) H', ?_, ?_⟩
            · refine ⟨_, rfl, p, c, 4, _, rfl, P15, by decide, by decide, by omega, fun d H16 d0 d1 b16 P16 => ?_⟩
              refine ⟨rfl, _, rfl, ite2 (fun _ => ?_) (fun _ => ?_)⟩
              · have el16 := (b1015.trans b16) _ _ (P9.ne el (fun _ z => nomatch z)) el10
                refine ⟨_, rfl, 5, rfl, l, _, rfl, SqL.of el16, fun q hq => ⟨_, _, rfl, .inl ⟨SqL.of upd_same, fun r hr => ?_⟩⟩⟩
                have ec : cutV ((nmD D).map V.str) none (some 5) = ((nmD D).take 5).map V.str := by
                  rw [List.map_take]; exact cutV_to _ 5
                rw [ec] at hr ⊢
                have s16 := (Same.newA hq).trans (Same.newA (o := .tup (((nmD D).take 5).map V.str)) hr)
                refine ⟨r, (nmD D).take 5, rfl, upd_same, ?_, ?_, fun x hx => ownA x (List.mem_of_mem_take hx), b16.trans (.of s16), (P16.more (by omega)).same s16⟩
                · rw [List.length_take]; omega
                · rw [List.length_take]; omega
              · exact ⟨rg, ms, rfl, b16 _ _ (P15.ne erg15 (fun _ z => nomatch z)) erg15, ms1, ms5, hms, b16, P16.more (by omega)⟩
            · clear erg15 ms1 ms5 hms
              clear ms rg
              rintro σ' H16 ⟨rg, ms, rfl, erg, ms1, ms5, hms, b16, P16⟩
              have ehd := b16 _ _ (P15.ne ehd15 (fun _ z => nomatch z)) ehd15
              have b1016 := b1015.trans b16
              have hD16 := P10.dp b1016 hD10
              have T16 := tabs_but P10 b1016 T10
              clear P15 ehd15 b16 b1015 T15 hD10 T10 el10
              refine s_set (K := K) (F := nn H16) (d := .bool (fulB (eHR ("" : Str) ws ms) D)) (ed_call (ea_cons (ed_var rfl (dp_df hD16)) (ea_cons (ed_listOf (ed_var (d := .tuple (ws.map .str)) rfl (dp_df (.tup (.of ehd) (dps_strs ws)))) rfl) (ea_cons (ed_listOf (ed_var (d := .tuple (ms.map .str)) rfl (dp_df (.tup (.of erg) (dps_strs ms)))) rfl) ea_nil))) (rdc_ld ok hdep ms1 (by omega) (by omega) wsA (fun x hx => (hms x hx).1))) fun v H17 s17 hv => ?_
              cases hv
              have ehd17 := s17 _ _ ehd
              have erg17 := s17 _ _ erg
              have P17 := P16.same s17
              have hD17 := dp_mono s17 hD16
              have T17 := T16.ext s17
              have b1017 := b1016.trans (.of s17)
              clear ehd erg P16 hD16 T16 b1016 s17
              refine ⟨_, rfl, _, rfl, _, rfl, _, rfl, hd, _, rfl, .inr (.of ehd17), fun q1 hq1 => ⟨(by show 2 ≤ sizeLine; decide), fun q2 hq2 => ?_⟩⟩
              generalize hA1 : upd H17 q1 (HO.lst (ws.map V.str)) = A1 at hq2
              have f1 : A1 q1 = some (.lst (ws.map V.str)) := by rw [← hA1]; exact upd_same
              have sA1 : Same H17 A1 := by rw [← hA1]; exact Same.newA hq1
              generalize hA2 : upd A1 q2 (HO.lst [V.ref hd, V.ref q1]) = A2
              have f2 : A2 q2 = some (.lst [V.ref hd, V.ref q1]) := by rw [← hA2]; exact upd_same
              have sA2 : Same A1 A2 := by rw [← hA2]; exact Same.newA hq2
              have sAA := sA1.trans sA2
              have PA := P17.same sAA
              refine ⟨p, c, q2, [.ref hd, .ref q1], _, rfl, PA, .inl (.of f2), (by show 0 < 2; decide), (by show 2 < 100000; decide), by omega, fun y v H18 hv b18 P18 => ?_⟩
              have b1718 := (But.of sAA).trans b18
              have ehd18 := b1718 _ _ (P17.ne ehd17 (fun _ z => nomatch z)) ehd17
              have erg18 := b1718 _ _ (P17.ne erg17 (fun _ z => nomatch z)) erg17
              obtain ⟨dh, hvd, hwd⟩ : ∃ d, Dp K H18 v d ∧ wordD ws d := by
                match y, hv with
                | 0, hv => cases hv; exact ⟨_, .tup (.of ehd18) (dps_strs ws), wordD.t ws⟩
                | 1, hv =>
                  cases hv
                  have f18 := b18 _ _ (PA.ne (sA2 _ _ f1) (fun _ z => nomatch z)) (sA2 _ _ f1)
                  exact ⟨_, .lst (.inl (.inl f18)) (dps_strs ws), wordD.l ws⟩
              refine ⟨_, rfl, _, rfl, _, rfl, rg, _, rfl, .inr (.of erg18), fun q3 hq3 => ⟨(by show 2 ≤ sizeLine; decide), fun q4 hq4 => ?_⟩⟩
              clear hA1 hA2 f1 f2 sA1 sA2 hq1 hq2 PA hv sAA b18
              generalize hA3 : upd H18 q3 (HO.lst (ms.map V.str)) = A3 at hq4
              have f1 : A3 q3 = some (.lst (ms.map V.str)) := by rw [← hA3]; exact upd_same
              have sA1 : Same H18 A3 := by rw [← hA3]; exact Same.newA hq3
              generalize hA4 : upd A3 q4 (HO.lst [V.ref rg, V.ref q3]) = A4
              have f2 : A4 q4 = some (.lst [V.ref rg, V.ref q3]) := by rw [← hA4]; exact upd_same
              have sA2 : Same A3 A4 := by rw [← hA4]; exact Same.newA hq4
              have sAA := sA1.trans sA2
              have PA := P18.same sAA
              refine ⟨p, c, q4, [.ref rg, .ref q3], _, rfl, PA, .inl (.of f2), (by show 0 < 2; decide), (by show 2 < 100000; decide), by omega, fun y2 v2 H19 hv2 b19 P19 => ?_⟩
              have b1819 := (But.of sAA).trans b19
              have b1719 := b1718.trans b1819
              have ehd19 := b1719 _ _ (P17.ne ehd17 (fun _ z => nomatch z)) ehd17
              have erg19 := b1719 _ _ (P17.ne erg17 (fun _ z => nomatch z)) erg17
              obtain ⟨dr, hvr, hwr⟩ : ∃ d, Dp K H19 v2 d ∧ wordD ms d := by
                match y2, hv2 with
                | 0, hv => cases hv; exact ⟨_, .tup (.of erg19) (dps_strs ms), wordD.t ms⟩
                | 1, hv =>
                  cases hv
                  have f18 := b19 _ _ (PA.ne (sA2 _ _ f1) (fun _ z => nomatch z)) (sA2 _ _ f1)
                  exact ⟨_, .lst (.inl (.inl f18)) (dps_strs ms), wordD.l ms⟩
              have hD19 := P17.dp b1719 hD17
              refine .inl ⟨dv, D, v, v2, ws, ms, dr, rfl, hD19, ok, hdep, ⟨dh, P18.dp b1819 hvd, hwd⟩, hvr, hwr, ms1, by omega, wsA, hms, fun H20 s20 => ?_⟩
              refine ⟨_, rfl, _, _, .bool (fulB (eHR ("" : Str) ws ms) D), rfl, .bl _, .bl _, rfl, fun H21 s21 => ?_⟩
              refine ⟨_, rfl, ?_⟩
              refine ite2 (fun z => nomatch z) (fun _ => ?_)
              have s1921 := s20.trans s21
              have b1721 := b1719.trans (.of s1921)
              have P21 := P19.same s1921
              have b1021 := b1017.trans b1721
              have T21 := tabs_but P17 b1721 T17
              have ehd21 := s1921 _ _ ehd19
              have erg21 := s1921 _ _ erg19
              have hD21 := dp_mono s1921 hD19
              clear hA3 hA4 f1 f2 sA1 sA2 sAA PA hq3 hq4 b1718 b1819 b19 hv2 hvd hvr hwd hwr P18 P19 P17 ehd17 erg17 ehd18 erg18 ehd19 erg19 hD17 hD19 T17 b1017 s20 s21 s1921
              refine ⟨_, rfl, _, rfl, _, ms.length, rfl, .inr ⟨ms.map V.str, SqT.of erg21, (List.length_map _).symm⟩, p, c, ms.length, _, rfl, P21, by omega, by omega, by omega, fun d H22 d0 d1 b22 P22 => ?_⟩
              obtain ⟨k, rfl⟩ : ∃ k : Nat, d = k := ⟨d.toNat, by omega⟩
              have hk : k < ms.length := by omega
              have b1022 := b1021.trans b22
              have T22 := tabs_but P21 b22 T21
              have ehd22 := b22 _ _ (P21.ne ehd21 (fun _ z => nomatch z)) ehd21
              have erg22 := b22 _ _ (P21.ne erg21 (fun _ z => nomatch z)) erg21
              have hD22 := P21.dp b22 hD21
              clear b1021 T21 ehd21 erg21 hD21
              have vD : ∀ H', Same H22 H' → ED K (tVar 4) [some (.ref a), some (.ref p), some (.int (0 + (i : Int))), some (.ref cs), some dv, some (.ref l), o6, some (.int (0 + (j : Int))), some (.ref hd), some (.ref rg), none, some (.bl (fulB (eHR ("" : Str) ws ms) D)), some (.int (k : Int)), o13] (nn H') H' (dtD D) := fun H' s' => ed_var rfl (dp_df (dp_mono s' hD22))
              have vH : ∀ H', Same H22 H' → ED K (tVar 8) [some (.ref a), some (.ref p), some (.int (0 + (i : Int))), some (.ref cs), some dv, some (.ref l), o6, some (.int (0 + (j : Int))), some (.ref hd), some (.ref rg), none, some (.bl (fulB (eHR ("" : Str) ws ms) D)), some (.int (k : Int)), o13] (nn H') H' (.tuple (ws.map .str)) := fun H' s' => ed_var rfl (dp_df (.tup (.of (s' _ _ ehd22)) (dps_strs ws)))
              have vR : ∀ H', Same H22 H' → ED K (tVar 9) [some (.ref a), some (.ref p), some (.int (0 + (i : Int))), some (.ref cs), some dv, some (.ref l), o6, some (.int (0 + (j : Int))), some (.ref hd), some (.ref rg), none, some (.bl (fulB (eHR ("" : Str) ws ms) D)), some (.int (k : Int)), o13] (nn H') H' (.tuple (ms.map .str)) := fun H' s' => ed_var rfl (dp_df (.tup (.of (s' _ _ erg22)) (dps_strs ms)))
              have lw : (ws.map PyData.str).length ≤ 4 := by rw [List.length_map]; exact wl
              have lm : (ms.map PyData.str).length = ms.length := List.length_map _
              have lt : ((ms.map PyData.str).take k).length ≤ 5 := by rw [List.length_take]; omega
              have ld : ((ms.map PyData.str).drop k).length ≤ 5 := by rw [List.length_drop]; omega
              have tk : ∀ H', Same H22 H' → ED K (tSl (rSlA K) (tVar 9) tNoPart (tPart (tVar 12))) [some (.ref a), some (.ref p), some (.int (0 + (i : Int))), some (.ref cs), some dv, some (.ref l), o6, some (.int (0 + (j : Int))), some (.ref hd), some (.ref rg), none, some (.bl (fulB (eHR ("" : Str) ws ms) D)), some (.int (k : Int)), o13] (nn H') H' (.tuple ((ms.map .str).take k)) := fun H' s' => ed_is (ed_slT (vR H' s') eo_none (eo_some (K := K) (F := nn H') (ed_var rfl (.int _)))) (by rw [cutD_to])
              refine s_if (b := false) (et_is (et_or (et_not (et_test (ed_call (ea_cons (ed_is (ed_call (ea_cons (vD H22 (.refl _)) (ea_cons (ed_is (ed_catT (ed_catT (vH H22 (.refl _)) (vR H22 (.refl _)) (by omega)) (tk H22 (.refl _)) (by rw [List.length_append]; omega)) (e := .tuple ((ws ++ ms ++ ms.take k).map .str)) (by rw [List.map_append, List.map_append, List.map_take])) (ea_cons (ed_is (ed_catT (ed_slT (vR H22 (.refl _)) (eo_some (K := K) (F := nn H22) (ed_var (d := .int (k : Int)) rfl (.int _))) eo_none) (tk H22 (.refl _)) (by rw [cutD_from _ _ (by omega)]; omega)) (e := .tuple ((ms.drop k ++ ms.take k).map .str)) (by rw [cutD_from _ _ (by omega), List.map_append, List.map_take, List.map_drop])) ea_nil))) (rdc_ful ok hdep (wordD.t _) (wordD.t _) ?_ ?_ ?_ ?_)) (by rw [e_turned ms1 hk])) (ea_cons (ed_var rfl (.bl _)) ea_nil)) rdc_same0))) fun _ => et_not (et_test (ed_call (ea_cons (ed_is (ed_call (ea_cons (vD H22 (.refl _)) (ea_cons (vH H22 (.refl _)) (ea_cons (ed_is (ed_repT (vR H22 (.refl _)) (by omega) (by omega)) (e := .tuple ((ms ++ ms).map .str)) (by rw [List.map_append])) ea_nil))) (rdc_ful ok hdep (wordD.t _) (wordD.t _) ?_ ?_ wsA ?_)) (by rw [e_twice ms1])) (ea_cons (ed_var rfl (.bl _)) ea_nil)) rdc_same0))) rfl) (fun h => nomatch h) fun _ H23 s23 => ?_
              · rw [List.length_append, List.length_drop, List.length_take]; omega
              · rw [List.length_append, List.length_drop, List.length_take]; omega
              · intro x hx
                rcases List.mem_append.mp hx with hx | hx
                · rcases List.mem_append.mp hx with hx | hx
                  · exact wsA x hx
                  · exact (hms x hx).1
                · exact (hms x (List.mem_of_mem_take hx)).1
              · intro x hx
                rcases List.mem_append.mp hx with hx | hx
                · exact hms x (List.mem_of_mem_drop hx)
                · exact hms x (List.mem_of_mem_take hx)
              · rw [List.length_append]; omega
              · rw [List.length_append]; omega
              · intro x hx
                rcases List.mem_append.mp hx with hx | hx
                · exact hms x hx
                · exact hms x hx
              exact ⟨_, _, _, _, _, _, rfl, b10.trans (b1022.trans (.of s23)), (P22.more (by omega)).same s23, T22.ext s23⟩
      · rintro σ' H10 ⟨o6, o7, o8, o9, o11, o12, rfl, b10, P10, T10⟩
        have hD10 := P9.dp b10 hD9
        clear P9 hD9 st9 T9 el b10
        refine ⟨_, rfl, (by show 0 ≤ sizeLine; decide), fun t1 ht1 => ⟨(by show 1 ≤ sizeLine; decide), fun t2 ht2 => ⟨(by show 0 ≤ sizeLine; decide), fun t3 ht3 t4 ht4 => ⟨(by show 1 ≤ sizeLine; decide), fun t5 ht5 => ⟨(by show 8 ≤ sizeLine; decide), fun t6 ht6 => ?_⟩⟩⟩⟩⟩
        generalize hA1 : upd H10 t1 (HO.tup []) = A1 at ht2 ht3 ht4 ht5 ht6
        have f1 : A1 t1 = some (.tup []) := by rw [← hA1]; exact upd_same
        have sA1 : Same H10 A1 := by rw [← hA1]; exact Same.newA ht1
        generalize hA2 : upd A1 t2 (HO.tup [V.str "A"]) = A2 at ht3 ht4 ht5 ht6
        have f2 : A2 t2 = some (.tup [V.str "A"]) := by rw [← hA2]; exact upd_same
        have sA2 : Same A1 A2 := by rw [← hA2]; exact Same.newA ht2
        generalize hA3 : upd A2 t3 (HO.lst []) = A3 at ht4 ht5 ht6
        have f3 : A3 t3 = some (.lst []) := by rw [← hA3]; exact upd_same
        have sA3 : Same A2 A3 := by rw [← hA3]; exact Same.newA ht3
        generalize hA4 : upd A3 t4 (HO.dK []) = A4 at ht5 ht6
        have f4 : A4 t4 = some (.dK []) := by rw [← hA4]; exact upd_same
        have sA4 : Same A3 A4 := by rw [← hA4]; exact Same.newA ht4
        generalize hA5 : upd A4 t5 (HO.tup [V.non]) = A5 at ht6
        have f5 : A5 t5 = some (.tup [V.non]) := by rw [← hA5]; exact upd_same
        have sA5 : Same A4 A5 := by rw [← hA5]; exact Same.newA ht5
        generalize hA6 : upd A5 t6 (HO.lst [V.ref t1, V.non, V.int 5, V.ref t2, V.str "ab", V.ref t3, V.ref t4, V.ref t5]) = A6
        have f6 : A6 t6 = some (.lst [V.ref t1, V.non, V.int 5, V.ref t2, V.str "ab", V.ref t3, V.ref t4, V.ref t5]) := by rw [← hA6]; exact upd_same
        have sA6 : Same A5 A6 := by rw [← hA6]; exact Same.newA ht6
        have s5 := sA5.trans sA6
        have s4 := sA4.trans s5
        have s3 := sA3.trans s4
        have s2 := sA2.trans s3
        have sAA := sA1.trans s2
        have PA := P10.same sAA
        have n4 : t4 ≠ p := fun z => by
          obtain ⟨o, ho⟩ := P10.some_p
          have := (sA1.trans (sA2.trans sA3)) _ _ ho
          rw [← z, ht4] at this; cases this
        refine ⟨p, c, t6, [V.ref t1, V.non, V.int 5, V.ref t2, V.str "ab", V.ref t3, V.ref t4, V.ref t5], _, rfl, PA, .inl (.of f6), (by show 0 < 8; decide), (by show 8 < 100000; decide), by omega, fun y v H11 hv b11 P11 => ?_⟩
        have T11 := tabs_but PA b11 (T10.ext sAA)
        have hD11 := PA.dp b11 (dp_mono sAA hD10)
        obtain ⟨dd, hdx, hgd, hbad, hsh, hdp, hln⟩ : ∃ dd, Dx K H11 v dd ∧ OddOk dd := by
          match y, hv with
          | 0, hv => cases hv; exact ⟨_, .inl (.tup (.of (b11 _ _ (PA.ne (s2 _ _ f1) (fun _ z => nomatch z)) (s2 _ _ f1))) .nil), odd_tup0⟩
          | 1, hv => cases hv; exact ⟨_, .inl .non, odd_none⟩
          | 2, hv => cases hv; exact ⟨_, .inl (.int _), odd_five⟩
          | 3, hv => cases hv; exact ⟨_, .inl (.tup (.of (b11 _ _ (PA.ne (s3 _ _ f2) (fun _ z => nomatch z)) (s3 _ _ f2))) (.cons (.str _) .nil)), odd_A⟩
          | 4, hv => cases hv; exact ⟨_, .inl (.str _), odd_ab⟩
          | 5, hv => cases hv; exact ⟨_, .inl (.lst (.inl (.inl (b11 _ _ (PA.ne (s4 _ _ f3) (fun _ z => nomatch z)) (s4 _ _ f3)))) .nil), odd_lst0⟩
          | 6, hv => cases hv; exact ⟨_, .inr ⟨rfl, t4, rfl, b11 _ _ n4 (s5 _ _ f4)⟩, odd_dict0⟩
          | 7, hv => cases hv; exact ⟨_, .inl (.tup (.of (b11 _ _ (PA.ne (sA6 _ _ f5) (fun _ z => nomatch z)) (sA6 _ _ f5))) (.cons .non .nil)), odd_tupN⟩
        clear hA1 hA2 hA3 hA4 hA5 hA6 f1 f2 f3 f4 f5 f6 sA1 sA2 sA3 sA4 sA5 sA6 ht1 ht2 ht3 ht4 ht5 ht6 s2 s3 s4 s5 n4 hv b11 hD10 P10 T10
        have hll := hln.2
        have hsl : dd.shown.length ≤ sizeLine := Nat.le_trans hll (by decide)
        obtain ⟨sh1, sh2⟩ := told_sh dd.shown hln
        refine ⟨T11, fun H12 ext T12 Q' hQ' => ⟨_, rfl, (by show 0 ≤ sizeLine; decide), fun t ht => ⟨_, rfl, .inr ⟨dv, .ref t, v, dd, rfl, ?_, hgd, hbad, fun d H' s' hd e' => ⟨v, dd, d, rfl, rfl, e', ?_, hsh, hdp, hsl, fun p2 H2 s2 hp2 => ?_⟩⟩⟩⟩⟩
        · exact Dx.mono (Same.newA ht) (odd_dx P11 ext hdx)
        · exact Dx.mono ((Same.newA ht).trans s') (odd_dx P11 ext hdx)
        have ext2 := ext.trans (ExtN.of ((Same.newA (o := .tup []) ht).trans (s'.trans s2)))
        have hdx2 := odd_dx P11 ext2 hdx
        have P2 := P11.ext ext2
        have T2 := T12.ext ((Same.newA (o := .tup []) ht).trans (s'.trans s2))
        refine ⟨_, rfl, v, dd, rfl, hdx2, hsh, hdp, hsl, (by show 3 ≤ sizeLine; decide), fun q hq => ⟨.list [.str "row", .str "ring", .str dd.shown], .list [.str "row", .str "ring", .str dd.shown], .lst (.inl (.inl (Same.newA hq _ _ hp2))) (.cons (.str _) (.cons (.str _) (.cons (.str _) .nil))), .lst (.inl (.inl upd_same)) (.cons (.str _) (.cons (.str _) (.cons (.str _) .nil))), sh1, sh1, _, rfl, ite2 (fun h => absurd h (by rw [sh2]; decide)) fun _ => ?_⟩⟩
        exact ⟨_, _, _, _, _, _, _, _, _, _, _, rfl, (P2.same (Same.newA hq)).more (by omega), T2.ext (Same.newA hq)⟩
  · rintro σ' H' ⟨o2, o3, o4, o5, o6, o7, o8, o9, o11, o12, o13, rfl, _, _⟩
    rfl
end
end Ag

set_option Elab.async false
set_option linter.all false
set_option maxRecDepth 100000
set_option maxHeartbeats 0
namespace Ag
open PySem PySem.Spec PyProof.Rows L2
/-! ### a table with text keys, as written -/
def TabOf : List DictEntry → List (Str × Int) → Prop
  | [], [] => True
  | e :: r, q :: s => (∃ t u, e.key = .str q.1 t ∧ e.val = .int q.2 u) ∧ TabOf r s
  | _, _ => False
theorem tab_find : ∀ {es : List DictEntry} {kvs : List (Str × Int)} (z : Str), TabOf es kvs → es.any (·.refKey) = false ∧ ((∃ i e u, (z, i) ∈ kvs ∧ (∀ j, kvs.lookup z = some j → j = i) ∧ es.find? (·.key.isStr z) = some e ∧ e.val = .int i u) ∨ (z ∉ kvs.map (·.1) ∧ es.find? (·.key.isStr z) = none))
  | [], [], z, _ => ⟨rfl, .inr ⟨by simp, rfl⟩⟩
  | e :: r, q :: s, z, ⟨⟨t, u, h1, h2⟩, h⟩ => by
    obtain ⟨a, b⟩ := tab_find z h
    have hr : e.refKey = false := by unfold DictEntry.refKey; rw [h1]
    refine ⟨by rw [List.any_cons, hr, a]; rfl, ?_⟩
    have hs : e.key.isStr z = (q.1 == z) := by rw [h1]; rfl
    by_cases hz : q.1 = z
    · refine .inl ⟨q.2, e, u, ?_, fun j hj => ?_, ?_, h2⟩
      · rw [← hz]; exact List.mem_cons_self
      · obtain ⟨q1, q2⟩ := q
        simp only at hz; subst hz
        simp at hj; exact hj.symm
      · rw [List.find?_cons, hs, beq_iff_eq.mpr hz]
    · have hf : (q.1 == z) = false := beq_eq_false_iff_ne.mpr hz
      have hf2 : (z == q.1) = false := beq_eq_false_iff_ne.mpr fun w => hz w.symm
      rcases b with ⟨i, e2, u2, m, l, f, v⟩ | ⟨m, f⟩
      · refine .inl ⟨i, e2, u2, List.mem_cons_of_mem _ m, fun j hj => l j ?_, ?_, v⟩
        · obtain ⟨q1, q2⟩ := q
          simp only at hf2
          rw [List.lookup_cons, hf2] at hj; exact hj
        · rw [List.find?_cons, hs, hf]; exact f
      · refine .inr ⟨?_, ?_⟩
        · rw [List.map_cons, List.mem_cons]; rintro (w | w)
          · exact hz w.symm
          · exact m w
        · rw [List.find?_cons, hs, hf]; exact f
section
variable {w : World} {K : PySem.W.Frag} {a : Addr} {es : Array DictEntry} {n : Nat} {kvs : List (Str × Int)}
theorem tab_in (l : K.lookup a = some ⟨.type "dict", none, .dict es n, #[]⟩) (t : TabOf es.toList kvs) (z : Str) : ∃ r, PySem.W.nsIn K a z = some r ∧ r.isSome = decide (z ∈ kvs.map (·.1)) := by
  obtain ⟨h1, h2⟩ := tab_find z t
  unfold PySem.W.nsIn
  rw [l]
  rcases h2 with ⟨i, e, u, m, _, f, v⟩ | ⟨m, f⟩
  · refine ⟨some e.val, ?_, ?_⟩
    · simp only [f]
    · exact (decide_eq_true (List.mem_map.mpr ⟨_, m, rfl⟩)).symm
  · refine ⟨none, ?_, (decide_eq_false m).symm⟩
    simp only [f, h1]; rfl
theorem tab_at (l : K.lookup a = some ⟨.type "dict", none, .dict es n, #[]⟩) (k : PySem.W.KeysLit w.params es.toList) (t : TabOf es.toList kvs) (nd : kvs.all (fun q => kvs.lookup q.1 == some q.2) = true) (z : Str) (i : Int) (hm : (z, i) ∈ kvs) : KDct K w a z (.int i) := by
  obtain ⟨h1, h2⟩ := tab_find z t
  have hl : kvs.lookup z = some i := by simpa using List.all_eq_true.mp nd _ hm
  rcases h2 with ⟨j, e, u, m, lk, f, v⟩ | ⟨m, f⟩
  · have := lk i hl; subst this
    refine ⟨es, n, e.val, l, k, ?_, u, v⟩
    unfold PySem.W.nsIn
    rw [l]
    simp only [f]
  · exact absurd (List.mem_map.mpr ⟨_, hm, rfl⟩) m
end
theorem binds_all {K : PySem.W.Frag} {fd : FuncData} {ps : List Str} (h : ∃ ds, Vals [] ds ∧ Binds K fd ps ds) : Binds K fd ps [] := by
  obtain ⟨ds, v, b⟩ := h
  cases v
  exact b
theorem all_mk {l : PySem.W.OpenLaw} {w : World} {K : PySem.W.Frag} {q : Program} {loose : List Str} {mean : ExcName → Option Value} {mg mb : Str → Option Value} {s : Shared} {d : DefRec} {fa cc tb : Addr} {xc : Value} {xo : Option Addr} {xs : Array (Option Value)} {vsx : Array Value} (TP : PyProof.Rows.Top q (PySem.W.looseW q loose) mean mg mb s.heap) (X : K.In s.heap)
    (hrec : (PyProof.Rows.recsOf q).find? (fun e => e.name == ("law" : Str)) = some d) (ntb : K.lookup tb = none) (hfa : mg "law" = some (.ref fa))
    {f0 : Addr} {od0 an0 : Option Addr} {sl0 : Array (Option Value)} {oc0 kV0 dc0 pm0 cd0 ct0 : Value}
    {f1 : Addr} {od1 an1 : Option Addr} {sl1 : Array (Option Value)} {oc1 kV1 dc1 pm1 cd1 ct1 : Value}
    {f2 : Addr} {od2 an2 : Option Addr} {sl2 : Array (Option Value)} {oc2 kV2 dc2 pm2 cd2 ct2 : Value}
    {f3 : Addr} {od3 an3 : Option Addr} {sl3 : Array (Option Value)} {oc3 kV3 dc3 pm3 cd3 ct3 : Value}
    {f4 : Addr} {od4 an4 : Option Addr} {sl4 : Array (Option Value)} {oc4 kV4 dc4 pm4 cd4 ct4 : Value}
    {f5 : Addr} {od5 an5 : Option Addr} {sl5 : Array (Option Value)} {oc5 kV5 dc5 pm5 cd5 ct5 : Value}
    {f6 : Addr} {od6 an6 : Option Addr} {sl6 : Array (Option Value)} {oc6 kV6 dc6 pm6 cd6 ct6 : Value}
    {f7 : Addr} {od7 an7 : Option Addr} {sl7 : Array (Option Value)} {oc7 kV7 dc7 pm7 cd7 ct7 : Value}
    {f8 : Addr} {od8 an8 : Option Addr} {sl8 : Array (Option Value)} {oc8 kV8 dc8 pm8 cd8 ct8 : Value}
    {f9 : Addr} {od9 an9 : Option Addr} {sl9 : Array (Option Value)} {oc9 kV9 dc9 pm9 cd9 ct9 : Value}
    {f10 : Addr} {od10 an10 : Option Addr} {sl10 : Array (Option Value)} {oc10 kV10 dc10 pm10 cd10 ct10 : Value}
    {f11 : Addr} {od11 an11 : Option Addr} {sl11 : Array (Option Value)} {oc11 kV11 dc11 pm11 cd11 ct11 : Value}
    {f12 : Addr} {od12 an12 : Option Addr} {sl12 : Array (Option Value)} {oc12 kV12 dc12 pm12 cd12 ct12 : Value}
    {f13 : Addr} {od13 an13 : Option Addr} {sl13 : Array (Option Value)} {oc13 kV13 dc13 pm13 cd13 ct13 : Value}
    {f14 : Addr} {od14 an14 : Option Addr} {sl14 : Array (Option Value)} {oc14 kV14 dc14 pm14 cd14 ct14 : Value}
    {f15 : Addr} {od15 an15 : Option Addr} {sl15 : Array (Option Value)} {oc15 kV15 dc15 pm15 cd15 ct15 : Value}
    {f16 : Addr} {od16 an16 : Option Addr} {sl16 : Array (Option Value)} {oc16 kV16 dc16 pm16 cd16 ct16 : Value}
    {f17 : Addr} {od17 an17 : Option Addr} {sl17 : Array (Option Value)} {oc17 kV17 dc17 pm17 cd17 ct17 : Value}
    {f18 : Addr} {od18 an18 : Option Addr} {sl18 : Array (Option Value)} {oc18 kV18 dc18 pm18 cd18 ct18 : Value}
    {f19 : Addr} {od19 an19 : Option Addr} {sl19 : Array (Option Value)} {oc19 kV19 dc19 pm19 cd19 ct19 : Value}
    {f20 : Addr} {od20 an20 : Option Addr} {sl20 : Array (Option Value)} {oc20 kV20 dc20 pm20 cd20 ct20 : Value}
    {f21 : Addr} {od21 an21 : Option Addr} {sl21 : Array (Option Value)} {oc21 kV21 dc21 pm21 cd21 ct21 : Value}
    {f22 : Addr} {od22 an22 : Option Addr} {sl22 : Array (Option Value)} {oc22 kV22 dc22 pm22 cd22 ct22 : Value}
    {f23 : Addr} {od23 an23 : Option Addr} {sl23 : Array (Option Value)} {oc23 kV23 dc23 pm23 cd23 ct23 : Value}
    {f24 : Addr} {od24 an24 : Option Addr} {sl24 : Array (Option Value)} {oc24 kV24 dc24 pm24 cd24 ct24 : Value}
    {f25 : Addr} {od25 an25 : Option Addr} {sl25 : Array (Option Value)} {oc25 kV25 dc25 pm25 cd25 ct25 : Value}
    {CAgainError : Addr}
    {CBadText : Addr}
    {fBadText0 : Addr} {odBadText0 anBadText0 : Option Addr} {slBadText0 : Array (Option Value)} {ocBadText0 kVBadText0 dcBadText0 pmBadText0 cdBadText0 ctBadText0 : Value}
    {CBadNumber : Addr}
    {fBadNumber0 : Addr} {odBadNumber0 anBadNumber0 : Option Addr} {slBadNumber0 : Array (Option Value)} {ocBadNumber0 kVBadNumber0 dcBadNumber0 pmBadNumber0 cdBadNumber0 ctBadNumber0 : Value}
    {CBadRow : Addr}
    {fBadRow0 : Addr} {odBadRow0 anBadRow0 : Option Addr} {slBadRow0 : Array (Option Value)} {ocBadRow0 kVBadRow0 dcBadRow0 pmBadRow0 cdBadRow0 ctBadRow0 : Value}
    {CNoName : Addr}
    {fNoName0 : Addr} {odNoName0 anNoName0 : Option Addr} {slNoName0 : Array (Option Value)} {ocNoName0 kVNoName0 dcNoName0 pmNoName0 cdNoName0 ctNoName0 : Value}
    {CUnlike : Addr}
    {fUnlike0 : Addr} {odUnlike0 anUnlike0 : Option Addr} {slUnlike0 : Array (Option Value)} {ocUnlike0 kVUnlike0 dcUnlike0 pmUnlike0 cdUnlike0 ctUnlike0 : Value}
    {CTooMany : Addr}
    {fTooMany0 : Addr} {odTooMany0 anTooMany0 : Option Addr} {slTooMany0 : Array (Option Value)} {ocTooMany0 kVTooMany0 dcTooMany0 pmTooMany0 cdTooMany0 ctTooMany0 : Value}
    {tFIGURES : Tok}
    {tLETTERS : Tok}
    {aJOINTS : Addr} {nJOINTS : Nat}
    {odJOINTS : Option Addr} {slJOINTS : Array (Option Value)} {tJOINTS0 : Tok} {tJOINTS1 : Tok}
    (a0 : PySem.W.nsIn K mainGlobals "is_name" = some (some (.ref f0)))
    (l0 : K.lookup f0 = some ⟨oc0, od0, .func (PySem.W.fnOf "is_name" "is_name" (defArgs s_is_name) (defBody s_is_name) (defScope s_is_name) .none kV0 dc0 pm0 an0 cd0 ct0), sl0⟩)
    (c0 : PySem.W.codeIn K cd0 "is_name" = true)
    (k0 : PySem.W.keepIn K (.ref f0) = true)
    (a1 : PySem.W.nsIn K mainGlobals "is_word" = some (some (.ref f1)))
    (l1 : K.lookup f1 = some ⟨oc1, od1, .func (PySem.W.fnOf "is_word" "is_word" (defArgs s_is_word) (defBody s_is_word) (defScope s_is_word) .none kV1 dc1 pm1 an1 cd1 ct1), sl1⟩)
    (c1 : PySem.W.codeIn K cd1 "is_word" = true)
    (k1 : PySem.W.keepIn K (.ref f1) = true)
    (a2 : PySem.W.nsIn K mainGlobals "names_in" = some (some (.ref f2)))
    (l2 : K.lookup f2 = some ⟨oc2, od2, .func (PySem.W.fnOf "names_in" "names_in" (defArgs s_names_in) (defBody s_names_in) (defScope s_names_in) .none kV2 dc2 pm2 an2 cd2 ct2), sl2⟩)
    (c2 : PySem.W.codeIn K cd2 "names_in" = true)
    (k2 : PySem.W.keepIn K (.ref f2) = true)
    (a3 : PySem.W.nsIn K mainGlobals "longest_start" = some (some (.ref f3)))
    (l3 : K.lookup f3 = some ⟨oc3, od3, .func (PySem.W.fnOf "longest_start" "longest_start" (defArgs s_longest_start) (defBody s_longest_start) (defScope s_longest_start) .none kV3 dc3 pm3 an3 cd3 ct3), sl3⟩)
    (c3 : PySem.W.codeIn K cd3 "longest_start" = true)
    (k3 : PySem.W.keepIn K (.ref f3) = true)
    (a4 : PySem.W.nsIn K mainGlobals "behind_plain" = some (some (.ref f4)))
    (l4 : K.lookup f4 = some ⟨oc4, od4, .func (PySem.W.fnOf "behind_plain" "behind_plain" (defArgs s_behind_plain) (defBody s_behind_plain) (defScope s_behind_plain) .none kV4 dc4 pm4 an4 cd4 ct4), sl4⟩)
    (c4 : PySem.W.codeIn K cd4 "behind_plain" = true)
    (k4 : PySem.W.keepIn K (.ref f4) = true)
    (a5 : PySem.W.nsIn K mainGlobals "begin" = some (some (.ref f5)))
    (l5 : K.lookup f5 = some ⟨oc5, od5, .func (PySem.W.fnOf "begin" "begin" (defArgs s_begin) (defBody s_begin) (defScope s_begin) .none kV5 dc5 pm5 an5 cd5 ct5), sl5⟩)
    (c5 : PySem.W.codeIn K cd5 "begin" = true)
    (k5 : PySem.W.keepIn K (.ref f5) = true)
    (a6 : PySem.W.nsIn K mainGlobals "marks_by" = some (some (.ref f6)))
    (l6 : K.lookup f6 = some ⟨oc6, od6, .func (PySem.W.fnOf "marks_by" "marks_by" (defArgs s_marks_by) (defBody s_marks_by) (defScope s_marks_by) .none kV6 dc6 pm6 an6 cd6 ct6), sl6⟩)
    (c6 : PySem.W.codeIn K cd6 "marks_by" = true)
    (k6 : PySem.W.keepIn K (.ref f6) = true)
    (a7 : PySem.W.nsIn K mainGlobals "fulfils" = some (some (.ref f7)))
    (l7 : K.lookup f7 = some ⟨oc7, od7, .func (PySem.W.fnOf "fulfils" "fulfils" (defArgs s_fulfils) (defBody s_fulfils) (defScope s_fulfils) .none kV7 dc7 pm7 an7 cd7 ct7), sl7⟩)
    (c7 : PySem.W.codeIn K cd7 "fulfils" = true)
    (k7 : PySem.W.keepIn K (.ref f7) = true)
    (a8 : PySem.W.nsIn K mainGlobals "is_done" = some (some (.ref f8)))
    (l8 : K.lookup f8 = some ⟨oc8, od8, .func (PySem.W.fnOf "is_done" "is_done" (defArgs s_is_done) (defBody s_is_done) (defScope s_is_done) .none kV8 dc8 pm8 an8 cd8 ct8), sl8⟩)
    (c8 : PySem.W.codeIn K cd8 "is_done" = true)
    (k8 : PySem.W.keepIn K (.ref f8) = true)
    (a9 : PySem.W.nsIn K mainGlobals "_law_pen" = some (some (.ref f9)))
    (l9 : K.lookup f9 = some ⟨oc9, od9, .func (PySem.W.fnOf "_law_pen" "_law_pen" (defArgs s_law_pen) (defBody s_law_pen) (defScope s_law_pen) .none kV9 dc9 pm9 an9 cd9 ct9), sl9⟩)
    (c9 : PySem.W.codeIn K cd9 "_law_pen" = true)
    (k9 : PySem.W.keepIn K (.ref f9) = true)
    (a10 : PySem.W.nsIn K mainGlobals "_law_draw" = some (some (.ref f10)))
    (l10 : K.lookup f10 = some ⟨oc10, od10, .func (PySem.W.fnOf "_law_draw" "_law_draw" (defArgs s_law_draw) (defBody s_law_draw) (defScope s_law_draw) .none kV10 dc10 pm10 an10 cd10 ct10), sl10⟩)
    (c10 : PySem.W.codeIn K cd10 "_law_draw" = true)
    (k10 : PySem.W.keepIn K (.ref f10) = true)
    (a11 : PySem.W.nsIn K mainGlobals "_law_pick" = some (some (.ref f11)))
    (l11 : K.lookup f11 = some ⟨oc11, od11, .func (PySem.W.fnOf "_law_pick" "_law_pick" (defArgs s_law_pick) (defBody s_law_pick) (defScope s_law_pick) .none kV11 dc11 pm11 an11 cd11 ct11), sl11⟩)
    (c11 : PySem.W.codeIn K cd11 "_law_pick" = true)
    (k11 : PySem.W.keepIn K (.ref f11) = true)
    (a12 : PySem.W.nsIn K mainGlobals "_law_shuffled" = some (some (.ref f12)))
    (l12 : K.lookup f12 = some ⟨oc12, od12, .func (PySem.W.fnOf "_law_shuffled" "_law_shuffled" (defArgs s_law_shuffled) (defBody s_law_shuffled) (defScope s_law_shuffled) .none kV12 dc12 pm12 an12 cd12 ct12), sl12⟩)
    (c12 : PySem.W.codeIn K cd12 "_law_shuffled" = true)
    (k12 : PySem.W.keepIn K (.ref f12) = true)
    (a13 : PySem.W.nsIn K mainGlobals "_law_name" = some (some (.ref f13)))
    (l13 : K.lookup f13 = some ⟨oc13, od13, .func (PySem.W.fnOf "_law_name" "_law_name" (defArgs s_law_name) (defBody s_law_name) (defScope s_law_name) .none kV13 dc13 pm13 an13 cd13 ct13), sl13⟩)
    (c13 : PySem.W.codeIn K cd13 "_law_name" = true)
    (k13 : PySem.W.keepIn K (.ref f13) = true)
    (a14 : PySem.W.nsIn K mainGlobals "_law_names" = some (some (.ref f14)))
    (l14 : K.lookup f14 = some ⟨oc14, od14, .func (PySem.W.fnOf "_law_names" "_law_names" (defArgs s_law_names) (defBody s_law_names) (defScope s_law_names) .none kV14 dc14 pm14 an14 cd14 ct14), sl14⟩)
    (c14 : PySem.W.codeIn K cd14 "_law_names" = true)
    (k14 : PySem.W.keepIn K (.ref f14) = true)
    (a15 : PySem.W.nsIn K mainGlobals "_law_same" = some (some (.ref f15)))
    (l15 : K.lookup f15 = some ⟨oc15, od15, .func (PySem.W.fnOf "_law_same" "_law_same" (defArgs s_law_same) (defBody s_law_same) (defScope s_law_same) .none kV15 dc15 pm15 an15 cd15 ct15), sl15⟩)
    (c15 : PySem.W.codeIn K cd15 "_law_same" = true)
    (k15 : PySem.W.keepIn K (.ref f15) = true)
    (a16 : PySem.W.nsIn K mainGlobals "_law_calls" = some (some (.ref f16)))
    (l16 : K.lookup f16 = some ⟨oc16, od16, .func (PySem.W.fnOf "_law_calls" "_law_calls" (defArgs s_law_calls) (defBody s_law_calls) (defScope s_law_calls) .none kV16 dc16 pm16 an16 cd16 ct16), sl16⟩)
    (c16 : PySem.W.codeIn K cd16 "_law_calls" = true)
    (k16 : PySem.W.keepIn K (.ref f16) = true)
    (a17 : PySem.W.nsIn K mainGlobals "_law_some_word" = some (some (.ref f17)))
    (l17 : K.lookup f17 = some ⟨oc17, od17, .func (PySem.W.fnOf "_law_some_word" "_law_some_word" (defArgs s_law_some_word) (defBody s_law_some_word) (defScope s_law_some_word) .none kV17 dc17 pm17 an17 cd17 ct17), sl17⟩)
    (c17 : PySem.W.codeIn K cd17 "_law_some_word" = true)
    (k17 : PySem.W.keepIn K (.ref f17) = true)
    (a18 : PySem.W.nsIn K mainGlobals "_law_why" = some (some (.ref f18)))
    (l18 : K.lookup f18 = some ⟨oc18, od18, .func (PySem.W.fnOf "_law_why" "_law_why" (defArgs s_law_why) (defBody s_law_why) (defScope s_law_why) .none kV18 dc18 pm18 an18 cd18 ct18), sl18⟩)
    (c18 : PySem.W.codeIn K cd18 "_law_why" = true)
    (k18 : PySem.W.keepIn K (.ref f18) = true)
    (a19 : PySem.W.nsIn K mainGlobals "_law_some_plain" = some (some (.ref f19)))
    (l19 : K.lookup f19 = some ⟨oc19, od19, .func (PySem.W.fnOf "_law_some_plain" "_law_some_plain" (defArgs s_law_some_plain) (defBody s_law_some_plain) (defScope s_law_some_plain) .none kV19 dc19 pm19 an19 cd19 ct19), sl19⟩)
    (c19 : PySem.W.codeIn K cd19 "_law_some_plain" = true)
    (k19 : PySem.W.keepIn K (.ref f19) = true)
    (a20 : PySem.W.nsIn K mainGlobals "_law_some_duty" = some (some (.ref f20)))
    (l20 : K.lookup f20 = some ⟨oc20, od20, .func (PySem.W.fnOf "_law_some_duty" "_law_some_duty" (defArgs s_law_some_duty) (defBody s_law_some_duty) (defScope s_law_some_duty) .none kV20 dc20 pm20 an20 cd20 ct20), sl20⟩)
    (c20 : PySem.W.codeIn K cd20 "_law_some_duty" = true)
    (k20 : PySem.W.keepIn K (.ref f20) = true)
    (a21 : PySem.W.nsIn K mainGlobals "_law_plain_names" = some (some (.ref f21)))
    (l21 : K.lookup f21 = some ⟨oc21, od21, .func (PySem.W.fnOf "_law_plain_names" "_law_plain_names" (defArgs s_law_plain_names) (defBody s_law_plain_names) (defScope s_law_plain_names) .none kV21 dc21 pm21 an21 cd21 ct21), sl21⟩)
    (c21 : PySem.W.codeIn K cd21 "_law_plain_names" = true)
    (k21 : PySem.W.keepIn K (.ref f21) = true)
    (a22 : PySem.W.nsIn K mainGlobals "_law_plain_ones" = some (some (.ref f22)))
    (l22 : K.lookup f22 = some ⟨oc22, od22, .func (PySem.W.fnOf "_law_plain_ones" "_law_plain_ones" (defArgs s_law_plain_ones) (defBody s_law_plain_ones) (defScope s_law_plain_ones) .none kV22 dc22 pm22 an22 cd22 ct22), sl22⟩)
    (c22 : PySem.W.codeIn K cd22 "_law_plain_ones" = true)
    (k22 : PySem.W.keepIn K (.ref f22) = true)
    (a23 : PySem.W.nsIn K mainGlobals "_law_plain_done" = some (some (.ref f23)))
    (l23 : K.lookup f23 = some ⟨oc23, od23, .func (PySem.W.fnOf "_law_plain_done" "_law_plain_done" (defArgs s_law_plain_done) (defBody s_law_plain_done) (defScope s_law_plain_done) .none kV23 dc23 pm23 an23 cd23 ct23), sl23⟩)
    (c23 : PySem.W.codeIn K cd23 "_law_plain_done" = true)
    (k23 : PySem.W.keepIn K (.ref f23) = true)
    (a24 : PySem.W.nsIn K mainGlobals "_law_done" = some (some (.ref f24)))
    (l24 : K.lookup f24 = some ⟨oc24, od24, .func (PySem.W.fnOf "_law_done" "_law_done" (defArgs s_law_done) (defBody s_law_done) (defScope s_law_done) .none kV24 dc24 pm24 an24 cd24 ct24), sl24⟩)
    (c24 : PySem.W.codeIn K cd24 "_law_done" = true)
    (k24 : PySem.W.keepIn K (.ref f24) = true)
    (a25 : PySem.W.nsIn K mainGlobals "law" = some (some (.ref f25)))
    (l25 : K.lookup f25 = some ⟨oc25, od25, .func (PySem.W.fnOf "law" "law" (defArgs s_law) (defBody s_law) (defScope s_law) .none kV25 dc25 pm25 an25 cd25 ct25), sl25⟩)
    (c25 : PySem.W.codeIn K cd25 "law" = true)
    (k25 : PySem.W.keepIn K (.ref f25) = true)
    (gAgainError : PySem.W.nsIn K mainGlobals "AgainError" = some (some (.ref CAgainError)))
    (saAgainError : PySem.W.findIn K (.ref CAgainError) "__setattr__" = some (some (.builtin "object.__setattr__")))
    (kcAgainError : PySem.W.keepIn K (.ref CAgainError) = true)
    (hdAgainError : PySem.W.hasDictIn K CAgainError = true)
    (gaAgainError : PySem.W.findIn K (.ref CAgainError) "__getattribute__" = some (some (.builtin "BaseException.__getattribute__")))
    (ggAgainError : PySem.W.findIn K (.ref CAgainError) "__getattr__" = some none)
    (exAgainError : PySem.W.subIn K (.ref CAgainError) (.type "BaseException") = some true)
    (tyAgainError : PySem.W.typeIn K (.ref CAgainError) = some (.type "type"))
    (sbAgainError : PySem.W.subIn K (.ref CAgainError) (.ref CAgainError) = some true)
    (xlAgainError : ∃ nm q N bs bm sn sub ab col dd k0 k1 k2 k3 k5, K.lookup CAgainError = some (excClassObj nm q CAgainError N bs bm true sn sub ab col dd k0 k1 k2 k3 k5 "ValueError.__new__") ∧ PySem.HandSPX.refsVE bm = true)
    (gBadText : PySem.W.nsIn K mainGlobals "BadText" = some (some (.ref CBadText)))
    (aBadText0 : PySem.W.findIn K (.ref CBadText) "__init__" = some (some (.ref fBadText0)))
    (lBadText0 : K.lookup fBadText0 = some ⟨ocBadText0, odBadText0, .func (PySem.W.fnOf "__init__" "BadText.__init__" (defArgs s_BadText___init__) (defBody s_BadText___init__) (defScope s_BadText___init__) .none kVBadText0 dcBadText0 pmBadText0 anBadText0 cdBadText0 ctBadText0), slBadText0⟩)
    (cBadText0 : PySem.W.codeIn K cdBadText0 "BadText.__init__" = true)
    (kBadText0 : PySem.W.keepIn K (.ref fBadText0) = true)
    (tBadText0 : PySem.W.typeIn K (.ref fBadText0) = some (.type "function"))
    (nBadTextline : PySem.W.findIn K (.ref CBadText) "line" = some none)
    (nBadTextword : PySem.W.findIn K (.ref CBadText) "word" = some none)
    (saBadText : PySem.W.findIn K (.ref CBadText) "__setattr__" = some (some (.builtin "object.__setattr__")))
    (kcBadText : PySem.W.keepIn K (.ref CBadText) = true)
    (hdBadText : PySem.W.hasDictIn K CBadText = true)
    (gaBadText : PySem.W.findIn K (.ref CBadText) "__getattribute__" = some (some (.builtin "BaseException.__getattribute__")))
    (ggBadText : PySem.W.findIn K (.ref CBadText) "__getattr__" = some none)
    (exBadText : PySem.W.subIn K (.ref CBadText) (.type "BaseException") = some true)
    (tyBadText : PySem.W.typeIn K (.ref CBadText) = some (.type "type"))
    (sbBadText : PySem.W.subIn K (.ref CBadText) (.ref CBadText) = some true)
    (xlBadText : ∃ nm q N bs bm sn sub ab col dd k0 k1 k2 k3 k5, K.lookup CBadText = some (excClassObj nm q CBadText N bs bm true sn sub ab col dd k0 k1 k2 k3 k5 "ValueError.__new__") ∧ PySem.HandSPX.refsVE bm = true)
    (gBadNumber : PySem.W.nsIn K mainGlobals "BadNumber" = some (some (.ref CBadNumber)))
    (aBadNumber0 : PySem.W.findIn K (.ref CBadNumber) "__init__" = some (some (.ref fBadNumber0)))
    (lBadNumber0 : K.lookup fBadNumber0 = some ⟨ocBadNumber0, odBadNumber0, .func (PySem.W.fnOf "__init__" "BadNumber.__init__" (defArgs s_BadNumber___init__) (defBody s_BadNumber___init__) (defScope s_BadNumber___init__) .none kVBadNumber0 dcBadNumber0 pmBadNumber0 anBadNumber0 cdBadNumber0 ctBadNumber0), slBadNumber0⟩)
    (cBadNumber0 : PySem.W.codeIn K cdBadNumber0 "BadNumber.__init__" = true)
    (kBadNumber0 : PySem.W.keepIn K (.ref fBadNumber0) = true)
    (tBadNumber0 : PySem.W.typeIn K (.ref fBadNumber0) = some (.type "function"))
    (nBadNumberwhat : PySem.W.findIn K (.ref CBadNumber) "what" = some none)
    (nBadNumbernumber : PySem.W.findIn K (.ref CBadNumber) "number" = some none)
    (saBadNumber : PySem.W.findIn K (.ref CBadNumber) "__setattr__" = some (some (.builtin "object.__setattr__")))
    (kcBadNumber : PySem.W.keepIn K (.ref CBadNumber) = true)
    (hdBadNumber : PySem.W.hasDictIn K CBadNumber = true)
    (gaBadNumber : PySem.W.findIn K (.ref CBadNumber) "__getattribute__" = some (some (.builtin "BaseException.__getattribute__")))
    (ggBadNumber : PySem.W.findIn K (.ref CBadNumber) "__getattr__" = some none)
    (exBadNumber : PySem.W.subIn K (.ref CBadNumber) (.type "BaseException") = some true)
    (tyBadNumber : PySem.W.typeIn K (.ref CBadNumber) = some (.type "type"))
    (sbBadNumber : PySem.W.subIn K (.ref CBadNumber) (.ref CBadNumber) = some true)
    (xlBadNumber : ∃ nm q N bs bm sn sub ab col dd k0 k1 k2 k3 k5, K.lookup CBadNumber = some (excClassObj nm q CBadNumber N bs bm true sn sub ab col dd k0 k1 k2 k3 k5 "ValueError.__new__") ∧ PySem.HandSPX.refsVE bm = true)
    (gBadRow : PySem.W.nsIn K mainGlobals "BadRow" = some (some (.ref CBadRow)))
    (aBadRow0 : PySem.W.findIn K (.ref CBadRow) "__init__" = some (some (.ref fBadRow0)))
    (lBadRow0 : K.lookup fBadRow0 = some ⟨ocBadRow0, odBadRow0, .func (PySem.W.fnOf "__init__" "BadRow.__init__" (defArgs s_BadRow___init__) (defBody s_BadRow___init__) (defScope s_BadRow___init__) .none kVBadRow0 dcBadRow0 pmBadRow0 anBadRow0 cdBadRow0 ctBadRow0), slBadRow0⟩)
    (cBadRow0 : PySem.W.codeIn K cdBadRow0 "BadRow.__init__" = true)
    (kBadRow0 : PySem.W.keepIn K (.ref fBadRow0) = true)
    (tBadRow0 : PySem.W.typeIn K (.ref fBadRow0) = some (.type "function"))
    (nBadRowwhat : PySem.W.findIn K (.ref CBadRow) "what" = some none)
    (nBadRowrow : PySem.W.findIn K (.ref CBadRow) "row" = some none)
    (saBadRow : PySem.W.findIn K (.ref CBadRow) "__setattr__" = some (some (.builtin "object.__setattr__")))
    (kcBadRow : PySem.W.keepIn K (.ref CBadRow) = true)
    (hdBadRow : PySem.W.hasDictIn K CBadRow = true)
    (gaBadRow : PySem.W.findIn K (.ref CBadRow) "__getattribute__" = some (some (.builtin "BaseException.__getattribute__")))
    (ggBadRow : PySem.W.findIn K (.ref CBadRow) "__getattr__" = some none)
    (exBadRow : PySem.W.subIn K (.ref CBadRow) (.type "BaseException") = some true)
    (tyBadRow : PySem.W.typeIn K (.ref CBadRow) = some (.type "type"))
    (sbBadRow : PySem.W.subIn K (.ref CBadRow) (.ref CBadRow) = some true)
    (xlBadRow : ∃ nm q N bs bm sn sub ab col dd k0 k1 k2 k3 k5, K.lookup CBadRow = some (excClassObj nm q CBadRow N bs bm true sn sub ab col dd k0 k1 k2 k3 k5 "ValueError.__new__") ∧ PySem.HandSPX.refsVE bm = true)
    (gNoName : PySem.W.nsIn K mainGlobals "NoName" = some (some (.ref CNoName)))
    (aNoName0 : PySem.W.findIn K (.ref CNoName) "__init__" = some (some (.ref fNoName0)))
    (lNoName0 : K.lookup fNoName0 = some ⟨ocNoName0, odNoName0, .func (PySem.W.fnOf "__init__" "NoName.__init__" (defArgs s_NoName___init__) (defBody s_NoName___init__) (defScope s_NoName___init__) .none kVNoName0 dcNoName0 pmNoName0 anNoName0 cdNoName0 ctNoName0), slNoName0⟩)
    (cNoName0 : PySem.W.codeIn K cdNoName0 "NoName.__init__" = true)
    (kNoName0 : PySem.W.keepIn K (.ref fNoName0) = true)
    (tNoName0 : PySem.W.typeIn K (.ref fNoName0) = some (.type "function"))
    (nNoNamename : PySem.W.findIn K (.ref CNoName) "name" = some none)
    (saNoName : PySem.W.findIn K (.ref CNoName) "__setattr__" = some (some (.builtin "object.__setattr__")))
    (kcNoName : PySem.W.keepIn K (.ref CNoName) = true)
    (hdNoName : PySem.W.hasDictIn K CNoName = true)
    (gaNoName : PySem.W.findIn K (.ref CNoName) "__getattribute__" = some (some (.builtin "BaseException.__getattribute__")))
    (ggNoName : PySem.W.findIn K (.ref CNoName) "__getattr__" = some none)
    (exNoName : PySem.W.subIn K (.ref CNoName) (.type "BaseException") = some true)
    (tyNoName : PySem.W.typeIn K (.ref CNoName) = some (.type "type"))
    (sbNoName : PySem.W.subIn K (.ref CNoName) (.ref CNoName) = some true)
    (xlNoName : ∃ nm q N bs bm sn sub ab col dd k0 k1 k2 k3 k5, K.lookup CNoName = some (excClassObj nm q CNoName N bs bm true sn sub ab col dd k0 k1 k2 k3 k5 "ValueError.__new__") ∧ PySem.HandSPX.refsVE bm = true)
    (gUnlike : PySem.W.nsIn K mainGlobals "Unlike" = some (some (.ref CUnlike)))
    (aUnlike0 : PySem.W.findIn K (.ref CUnlike) "__init__" = some (some (.ref fUnlike0)))
    (lUnlike0 : K.lookup fUnlike0 = some ⟨ocUnlike0, odUnlike0, .func (PySem.W.fnOf "__init__" "Unlike.__init__" (defArgs s_Unlike___init__) (defBody s_Unlike___init__) (defScope s_Unlike___init__) .none kVUnlike0 dcUnlike0 pmUnlike0 anUnlike0 cdUnlike0 ctUnlike0), slUnlike0⟩)
    (cUnlike0 : PySem.W.codeIn K cdUnlike0 "Unlike.__init__" = true)
    (kUnlike0 : PySem.W.keepIn K (.ref fUnlike0) = true)
    (tUnlike0 : PySem.W.typeIn K (.ref fUnlike0) = some (.type "function"))
    (nUnlikewhat : PySem.W.findIn K (.ref CUnlike) "what" = some none)
    (saUnlike : PySem.W.findIn K (.ref CUnlike) "__setattr__" = some (some (.builtin "object.__setattr__")))
    (kcUnlike : PySem.W.keepIn K (.ref CUnlike) = true)
    (hdUnlike : PySem.W.hasDictIn K CUnlike = true)
    (gaUnlike : PySem.W.findIn K (.ref CUnlike) "__getattribute__" = some (some (.builtin "BaseException.__getattribute__")))
    (ggUnlike : PySem.W.findIn K (.ref CUnlike) "__getattr__" = some none)
    (exUnlike : PySem.W.subIn K (.ref CUnlike) (.type "BaseException") = some true)
    (tyUnlike : PySem.W.typeIn K (.ref CUnlike) = some (.type "type"))
    (sbUnlike : PySem.W.subIn K (.ref CUnlike) (.ref CUnlike) = some true)
    (xlUnlike : ∃ nm q N bs bm sn sub ab col dd k0 k1 k2 k3 k5, K.lookup CUnlike = some (excClassObj nm q CUnlike N bs bm true sn sub ab col dd k0 k1 k2 k3 k5 "ValueError.__new__") ∧ PySem.HandSPX.refsVE bm = true)
    (gTooMany : PySem.W.nsIn K mainGlobals "TooMany" = some (some (.ref CTooMany)))
    (aTooMany0 : PySem.W.findIn K (.ref CTooMany) "__init__" = some (some (.ref fTooMany0)))
    (lTooMany0 : K.lookup fTooMany0 = some ⟨ocTooMany0, odTooMany0, .func (PySem.W.fnOf "__init__" "TooMany.__init__" (defArgs s_TooMany___init__) (defBody s_TooMany___init__) (defScope s_TooMany___init__) .none kVTooMany0 dcTooMany0 pmTooMany0 anTooMany0 cdTooMany0 ctTooMany0), slTooMany0⟩)
    (cTooMany0 : PySem.W.codeIn K cdTooMany0 "TooMany.__init__" = true)
    (kTooMany0 : PySem.W.keepIn K (.ref fTooMany0) = true)
    (tTooMany0 : PySem.W.typeIn K (.ref fTooMany0) = some (.type "function"))
    (nTooManywhat : PySem.W.findIn K (.ref CTooMany) "what" = some none)
    (nTooManymany : PySem.W.findIn K (.ref CTooMany) "many" = some none)
    (nTooManylimit : PySem.W.findIn K (.ref CTooMany) "limit" = some none)
    (saTooMany : PySem.W.findIn K (.ref CTooMany) "__setattr__" = some (some (.builtin "object.__setattr__")))
    (kcTooMany : PySem.W.keepIn K (.ref CTooMany) = true)
    (hdTooMany : PySem.W.hasDictIn K CTooMany = true)
    (gaTooMany : PySem.W.findIn K (.ref CTooMany) "__getattribute__" = some (some (.builtin "BaseException.__getattribute__")))
    (ggTooMany : PySem.W.findIn K (.ref CTooMany) "__getattr__" = some none)
    (exTooMany : PySem.W.subIn K (.ref CTooMany) (.type "BaseException") = some true)
    (tyTooMany : PySem.W.typeIn K (.ref CTooMany) = some (.type "type"))
    (sbTooMany : PySem.W.subIn K (.ref CTooMany) (.ref CTooMany) = some true)
    (xlTooMany : ∃ nm q N bs bm sn sub ab col dd k0 k1 k2 k3 k5, K.lookup CTooMany = some (excClassObj nm q CTooMany N bs bm true sn sub ab col dd k0 k1 k2 k3 k5 "ValueError.__new__") ∧ PySem.HandSPX.refsVE bm = true)
    (sbBadRowBadText : PySem.W.subIn K (.ref CBadRow) (.ref CBadText) = some false)
    (sbBadRowBadNumber : PySem.W.subIn K (.ref CBadRow) (.ref CBadNumber) = some false)
    (gFIGURES : PySem.W.nsIn K mainGlobals "FIGURES" = some (some (.str "0123456789" tFIGURES)))
    (gLETTERS : PySem.W.nsIn K mainGlobals "LETTERS" = some (some (.str "abcdefghijklmnopqrstuvwxyz" tLETTERS)))
    (gJOINTS : PySem.W.nsIn K mainGlobals "JOINTS" = some (some (.ref aJOINTS)))
    (lJOINTS : K.lookup aJOINTS = some ⟨.type "tuple", odJOINTS, .seq #[.str "all" tJOINTS0, .str "any" tJOINTS1] nJOINTS, slJOINTS⟩)
    (ball : PySem.W.nsIn K mainGlobals "all" = some none)
    (bmin : PySem.W.nsIn K mainGlobals "min" = some none)
    (bany : PySem.W.nsIn K mainGlobals "any" = some none)
    (brange : PySem.W.nsIn K mainGlobals "range" = some none)
    (bisinstance : PySem.W.nsIn K mainGlobals "isinstance" = some none)
    (btuple : PySem.W.nsIn K mainGlobals "tuple" = some none)
    (bint : PySem.W.nsIn K mainGlobals "int" = some none)
    (blen : PySem.W.nsIn K mainGlobals "len" = some none)
    (blist : PySem.W.nsIn K mainGlobals "list" = some none)
    (bstr : PySem.W.nsIn K mainGlobals "str" = some none)
    (bsorted : PySem.W.nsIn K mainGlobals "sorted" = some none)
    (bbool : PySem.W.nsIn K mainGlobals "bool" = some none)
    (brepr : PySem.W.nsIn K mainGlobals "repr" = some none)
    (bzip : PySem.W.nsIn K mainGlobals "zip" = some none)
    (hcd : cd25 = .ref cc) (lcc : K.lookup cc = some ⟨xc, xo, .fields vsx, xs⟩) (hv : (vsx[11]? : Option Value) = some (.ref tb)) :
    LawG l w K 63 mg fa s := by
  have G := TP.g
  have htb : PySem.W.tabIn K "law" = some (cc, tb) := by
    simp only [PySem.W.tabIn, a25, l25, PySem.W.fnOf, hcd, lcc, hv]
  have e : f25 = fa := Value.ref.inj (Option.some.inj ((PySem.W.mg_of X G a25).symm.trans hfa))
  subst e
  let T : Txt w K mg := {
    a_is_name := f0
    d_is_name := (PySem.W.fnOf "is_name" "is_name" (defArgs s_is_name) (defBody s_is_name) (defScope s_is_name) .none kV0 dc0 pm0 an0 cd0 ct0)
    D_is_name := ⟨fun_mk (st := s_is_name) l0 c0 k0, PySem.W.mg_of X G a0, (fun_mk (x := "is_name") (qual := "is_name") (st := s_is_name) l0 c0 k0).binds (ps := ["value"]) fun _ _ _ _ _ _ us hl => match us, hl with | [_], _ => rfl⟩
    a_is_word := f1
    d_is_word := (PySem.W.fnOf "is_word" "is_word" (defArgs s_is_word) (defBody s_is_word) (defScope s_is_word) .none kV1 dc1 pm1 an1 cd1 ct1)
    D_is_word := ⟨fun_mk (st := s_is_word) l1 c1 k1, PySem.W.mg_of X G a1, (fun_mk (x := "is_word") (qual := "is_word") (st := s_is_word) l1 c1 k1).binds (ps := ["value"]) fun _ _ _ _ _ _ us hl => match us, hl with | [_], _ => rfl⟩
    a_names_in := f2
    d_names_in := (PySem.W.fnOf "names_in" "names_in" (defArgs s_names_in) (defBody s_names_in) (defScope s_names_in) .none kV2 dc2 pm2 an2 cd2 ct2)
    D_names_in := ⟨fun_mk (st := s_names_in) l2 c2 k2, PySem.W.mg_of X G a2, (fun_mk (x := "names_in") (qual := "names_in") (st := s_names_in) l2 c2 k2).binds (ps := ["duty"]) fun _ _ _ _ _ _ us hl => match us, hl with | [_], _ => rfl⟩
    a_longest_start := f3
    d_longest_start := (PySem.W.fnOf "longest_start" "longest_start" (defArgs s_longest_start) (defBody s_longest_start) (defScope s_longest_start) .none kV3 dc3 pm3 an3 cd3 ct3)
    D_longest_start := ⟨fun_mk (st := s_longest_start) l3 c3 k3, PySem.W.mg_of X G a3, (fun_mk (x := "longest_start") (qual := "longest_start") (st := s_longest_start) l3 c3 k3).binds (ps := ["word", "made"]) fun _ _ _ _ _ _ us hl => match us, hl with | [_, _], _ => rfl⟩
    a_behind_plain := f4
    d_behind_plain := (PySem.W.fnOf "behind_plain" "behind_plain" (defArgs s_behind_plain) (defBody s_behind_plain) (defScope s_behind_plain) .none kV4 dc4 pm4 an4 cd4 ct4)
    D_behind_plain := ⟨fun_mk (st := s_behind_plain) l4 c4 k4, PySem.W.mg_of X G a4, (fun_mk (x := "behind_plain") (qual := "behind_plain") (st := s_behind_plain) l4 c4 k4).binds (ps := ["duty", "state", "call"]) fun _ _ _ _ _ _ us hl => match us, hl with | [_, _, _], _ => rfl⟩
    a_begin := f5
    d_begin := (PySem.W.fnOf "begin" "begin" (defArgs s_begin) (defBody s_begin) (defScope s_begin) .none kV5 dc5 pm5 an5 cd5 ct5)
    D_begin := ⟨fun_mk (st := s_begin) l5 c5 k5, PySem.W.mg_of X G a5, (fun_mk (x := "begin") (qual := "begin") (st := s_begin) l5 c5 k5).binds (ps := ["duty"]) fun _ _ _ _ _ _ us hl => match us, hl with | [_], _ => rfl⟩
    a_marks_by := f6
    d_marks_by := (PySem.W.fnOf "marks_by" "marks_by" (defArgs s_marks_by) (defBody s_marks_by) (defScope s_marks_by) .none kV6 dc6 pm6 an6 cd6 ct6)
    D_marks_by := ⟨fun_mk (st := s_marks_by) l6 c6 k6, PySem.W.mg_of X G a6, (fun_mk (x := "marks_by") (qual := "marks_by") (st := s_marks_by) l6 c6 k6).binds (ps := ["duty", "head", "ring"]) fun _ _ _ _ _ _ us hl => match us, hl with | [_, _, _], _ => rfl⟩
    a_fulfils := f7
    d_fulfils := (PySem.W.fnOf "fulfils" "fulfils" (defArgs s_fulfils) (defBody s_fulfils) (defScope s_fulfils) .none kV7 dc7 pm7 an7 cd7 ct7)
    D_fulfils := ⟨fun_mk (st := s_fulfils) l7 c7 k7, PySem.W.mg_of X G a7, (fun_mk (x := "fulfils") (qual := "fulfils") (st := s_fulfils) l7 c7 k7).binds (ps := ["duty", "head", "ring"]) fun _ _ _ _ _ _ us hl => match us, hl with | [_, _, _], _ => rfl⟩
    a_is_done := f8
    d_is_done := (PySem.W.fnOf "is_done" "is_done" (defArgs s_is_done) (defBody s_is_done) (defScope s_is_done) .none kV8 dc8 pm8 an8 cd8 ct8)
    D_is_done := ⟨fun_mk (st := s_is_done) l8 c8 k8, PySem.W.mg_of X G a8, (fun_mk (x := "is_done") (qual := "is_done") (st := s_is_done) l8 c8 k8).binds (ps := ["duty", "head", "ring"]) fun _ _ _ _ _ _ us hl => match us, hl with | [_, _, _], _ => rfl⟩
    a_law_pen := f9
    d_law_pen := (PySem.W.fnOf "_law_pen" "_law_pen" (defArgs s_law_pen) (defBody s_law_pen) (defScope s_law_pen) .none kV9 dc9 pm9 an9 cd9 ct9)
    D_law_pen := ⟨fun_mk (st := s_law_pen) l9 c9 k9, PySem.W.mg_of X G a9, (fun_mk (x := "_law_pen") (qual := "_law_pen") (st := s_law_pen) l9 c9 k9).binds (ps := ["script"]) fun _ _ _ _ _ _ us hl => match us, hl with | [_], _ => rfl⟩
    a_law_draw := f10
    d_law_draw := (PySem.W.fnOf "_law_draw" "_law_draw" (defArgs s_law_draw) (defBody s_law_draw) (defScope s_law_draw) .none kV10 dc10 pm10 an10 cd10 ct10)
    D_law_draw := ⟨fun_mk (st := s_law_draw) l10 c10 k10, PySem.W.mg_of X G a10, (fun_mk (x := "_law_draw") (qual := "_law_draw") (st := s_law_draw) l10 c10 k10).binds (ps := ["pen", "many"]) fun _ _ _ _ _ _ us hl => match us, hl with | [_, _], _ => rfl⟩
    a_law_pick := f11
    d_law_pick := (PySem.W.fnOf "_law_pick" "_law_pick" (defArgs s_law_pick) (defBody s_law_pick) (defScope s_law_pick) .none kV11 dc11 pm11 an11 cd11 ct11)
    D_law_pick := ⟨fun_mk (st := s_law_pick) l11 c11 k11, PySem.W.mg_of X G a11, (fun_mk (x := "_law_pick") (qual := "_law_pick") (st := s_law_pick) l11 c11 k11).binds (ps := ["pen", "some"]) fun _ _ _ _ _ _ us hl => match us, hl with | [_, _], _ => rfl⟩
    a_law_shuffled := f12
    d_law_shuffled := (PySem.W.fnOf "_law_shuffled" "_law_shuffled" (defArgs s_law_shuffled) (defBody s_law_shuffled) (defScope s_law_shuffled) .none kV12 dc12 pm12 an12 cd12 ct12)
    D_law_shuffled := ⟨fun_mk (st := s_law_shuffled) l12 c12 k12, PySem.W.mg_of X G a12, (fun_mk (x := "_law_shuffled") (qual := "_law_shuffled") (st := s_law_shuffled) l12 c12 k12).binds (ps := ["pen", "some"]) fun _ _ _ _ _ _ us hl => match us, hl with | [_, _], _ => rfl⟩
    a_law_name := f13
    d_law_name := (PySem.W.fnOf "_law_name" "_law_name" (defArgs s_law_name) (defBody s_law_name) (defScope s_law_name) .none kV13 dc13 pm13 an13 cd13 ct13)
    D_law_name := ⟨fun_mk (st := s_law_name) l13 c13 k13, PySem.W.mg_of X G a13, (fun_mk (x := "_law_name") (qual := "_law_name") (st := s_law_name) l13 c13 k13).binds (ps := ["pen", "index"]) fun _ _ _ _ _ _ us hl => match us, hl with | [_, _], _ => rfl⟩
    a_law_names := f14
    d_law_names := (PySem.W.fnOf "_law_names" "_law_names" (defArgs s_law_names) (defBody s_law_names) (defScope s_law_names) .none kV14 dc14 pm14 an14 cd14 ct14)
    D_law_names := ⟨fun_mk (st := s_law_names) l14 c14 k14, PySem.W.mg_of X G a14, (fun_mk (x := "_law_names") (qual := "_law_names") (st := s_law_names) l14 c14 k14).binds (ps := ["pen", "many"]) fun _ _ _ _ _ _ us hl => match us, hl with | [_, _], _ => rfl⟩
    a_law_same := f15
    d_law_same := (PySem.W.fnOf "_law_same" "_law_same" (defArgs s_law_same) (defBody s_law_same) (defScope s_law_same) .none kV15 dc15 pm15 an15 cd15 ct15)
    D_law_same := ⟨fun_mk (st := s_law_same) l15 c15 k15, PySem.W.mg_of X G a15, (fun_mk (x := "_law_same") (qual := "_law_same") (st := s_law_same) l15 c15 k15).binds (ps := ["told", "due"]) fun _ _ _ _ _ _ us hl => match us, hl with | [_, _], _ => rfl⟩
    a_law_calls := f16
    d_law_calls := (PySem.W.fnOf "_law_calls" "_law_calls" (defArgs s_law_calls) (defBody s_law_calls) (defScope s_law_calls) .none kV16 dc16 pm16 an16 cd16 ct16)
    D_law_calls := ⟨fun_mk (st := s_law_calls) l16 c16 k16, PySem.W.mg_of X G a16, (fun_mk (x := "_law_calls") (qual := "_law_calls") (st := s_law_calls) l16 c16 k16).binds (ps := ["pen", "many"]) fun _ _ _ _ _ _ us hl => match us, hl with | [_, _], _ => rfl⟩
    a_law_some_word := f17
    d_law_some_word := (PySem.W.fnOf "_law_some_word" "_law_some_word" (defArgs s_law_some_word) (defBody s_law_some_word) (defScope s_law_some_word) .none kV17 dc17 pm17 an17 cd17 ct17)
    D_law_some_word := ⟨fun_mk (st := s_law_some_word) l17 c17 k17, PySem.W.mg_of X G a17, (fun_mk (x := "_law_some_word") (qual := "_law_some_word") (st := s_law_some_word) l17 c17 k17).binds (ps := ["pen", "calls", "most"]) fun _ _ _ _ _ _ us hl => match us, hl with | [_, _, _], _ => rfl⟩
    a_law_why := f18
    d_law_why := (PySem.W.fnOf "_law_why" "_law_why" (defArgs s_law_why) (defBody s_law_why) (defScope s_law_why) .none kV18 dc18 pm18 an18 cd18 ct18)
    D_law_why := ⟨fun_mk (st := s_law_why) l18 c18 k18, PySem.W.mg_of X G a18, (fun_mk (x := "_law_why") (qual := "_law_why") (st := s_law_why) l18 c18 k18).binds (ps := ["call"]) fun _ _ _ _ _ _ us hl => match us, hl with | [_], _ => rfl⟩
    a_law_some_plain := f19
    d_law_some_plain := (PySem.W.fnOf "_law_some_plain" "_law_some_plain" (defArgs s_law_some_plain) (defBody s_law_some_plain) (defScope s_law_some_plain) .none kV19 dc19 pm19 an19 cd19 ct19)
    D_law_some_plain := ⟨fun_mk (st := s_law_some_plain) l19 c19 k19, PySem.W.mg_of X G a19, (fun_mk (x := "_law_some_plain") (qual := "_law_some_plain") (st := s_law_some_plain) l19 c19 k19).binds (ps := ["pen", "calls"]) fun _ _ _ _ _ _ us hl => match us, hl with | [_, _], _ => rfl⟩
    a_law_some_duty := f20
    d_law_some_duty := (PySem.W.fnOf "_law_some_duty" "_law_some_duty" (defArgs s_law_some_duty) (defBody s_law_some_duty) (defScope s_law_some_duty) .none kV20 dc20 pm20 an20 cd20 ct20)
    D_law_some_duty := ⟨fun_mk (st := s_law_some_duty) l20 c20 k20, PySem.W.mg_of X G a20, (fun_mk (x := "_law_some_duty") (qual := "_law_some_duty") (st := s_law_some_duty) l20 c20 k20).binds (ps := ["pen", "calls", "many", "deep"]) fun _ _ _ _ _ _ us hl => match us, hl with | [_, _, _, _], _ => rfl⟩
    a_law_plain_names := f21
    d_law_plain_names := (PySem.W.fnOf "_law_plain_names" "_law_plain_names" (defArgs s_law_plain_names) (defBody s_law_plain_names) (defScope s_law_plain_names) .none kV21 dc21 pm21 an21 cd21 ct21)
    D_law_plain_names := ⟨fun_mk (st := s_law_plain_names) l21 c21 k21, PySem.W.mg_of X G a21, (fun_mk (x := "_law_plain_names") (qual := "_law_plain_names") (st := s_law_plain_names) l21 c21 k21).binds (ps := ["duty"]) fun _ _ _ _ _ _ us hl => match us, hl with | [_], _ => rfl⟩
    a_law_plain_ones := f22
    d_law_plain_ones := (PySem.W.fnOf "_law_plain_ones" "_law_plain_ones" (defArgs s_law_plain_ones) (defBody s_law_plain_ones) (defScope s_law_plain_ones) .none kV22 dc22 pm22 an22 cd22 ct22)
    D_law_plain_ones := ⟨fun_mk (st := s_law_plain_ones) l22 c22 k22, PySem.W.mg_of X G a22, (fun_mk (x := "_law_plain_ones") (qual := "_law_plain_ones") (st := s_law_plain_ones) l22 c22 k22).binds (ps := ["duty"]) fun _ _ _ _ _ _ us hl => match us, hl with | [_], _ => rfl⟩
    a_law_plain_done := f23
    d_law_plain_done := (PySem.W.fnOf "_law_plain_done" "_law_plain_done" (defArgs s_law_plain_done) (defBody s_law_plain_done) (defScope s_law_plain_done) .none kV23 dc23 pm23 an23 cd23 ct23)
    D_law_plain_done := ⟨fun_mk (st := s_law_plain_done) l23 c23 k23, PySem.W.mg_of X G a23, (fun_mk (x := "_law_plain_done") (qual := "_law_plain_done") (st := s_law_plain_done) l23 c23 k23).binds (ps := ["duty", "head", "ring"]) fun _ _ _ _ _ _ us hl => match us, hl with | [_, _, _], _ => rfl⟩
    a_law_done := f24
    d_law_done := (PySem.W.fnOf "_law_done" "_law_done" (defArgs s_law_done) (defBody s_law_done) (defScope s_law_done) .none kV24 dc24 pm24 an24 cd24 ct24)
    D_law_done := ⟨fun_mk (st := s_law_done) l24 c24 k24, PySem.W.mg_of X G a24, (fun_mk (x := "_law_done") (qual := "_law_done") (st := s_law_done) l24 c24 k24).binds (ps := ["duty", "head", "ring"]) fun _ _ _ _ _ _ us hl => match us, hl with | [_, _, _], _ => rfl⟩
    a_law := f25
    d_law := (PySem.W.fnOf "law" "law" (defArgs s_law) (defBody s_law) (defScope s_law) .none kV25 dc25 pm25 an25 cd25 ct25)
    D_law := ⟨fun_mk (st := s_law) l25 c25 k25, PySem.W.mg_of X G a25, (fun_mk (x := "law") (qual := "law") (st := s_law) l25 c25 k25).binds (ps := ["script"]) fun _ _ _ _ _ _ us hl => match us, hl with | [_], _ => rfl⟩
    C_AgainError := CAgainError
    g_AgainError := PySem.W.mg_of X G gAgainError
    ox_AgainError := ⟨xlAgainError, saAgainError, exAgainError, tyAgainError, kcAgainError⟩
    xf_AgainError := ⟨gaAgainError, ggAgainError, exAgainError, hdAgainError⟩
    sb_AgainError := sbAgainError
    C_BadText := CBadText
    g_BadText := PySem.W.mg_of X G gBadText
    a_BadText___init__ := fBadText0
    d_BadText___init__ := (PySem.W.fnOf "__init__" "BadText.__init__" (defArgs s_BadText___init__) (defBody s_BadText___init__) (defScope s_BadText___init__) .none kVBadText0 dcBadText0 pmBadText0 anBadText0 cdBadText0 ctBadText0)
    D_BadText___init__ := ⟨fun_mk (st := s_BadText___init__) lBadText0 cBadText0 kBadText0, (fun_mk (x := "__init__") (qual := "BadText.__init__") (st := s_BadText___init__) lBadText0 cBadText0 kBadText0).binds (ps := ["self", "line", "word"]) fun _ _ _ _ _ _ us hl => match us, hl with | [_, _, _], _ => rfl⟩
    ic_BadText := aBadText0
    ti_BadText := tBadText0
    na_BadText_line := nBadTextline
    na_BadText_word := nBadTextword
    ox_BadText := ⟨xlBadText, saBadText, exBadText, tyBadText, kcBadText⟩
    xf_BadText := ⟨gaBadText, ggBadText, exBadText, hdBadText⟩
    sb_BadText := sbBadText
    C_BadNumber := CBadNumber
    g_BadNumber := PySem.W.mg_of X G gBadNumber
    a_BadNumber___init__ := fBadNumber0
    d_BadNumber___init__ := (PySem.W.fnOf "__init__" "BadNumber.__init__" (defArgs s_BadNumber___init__) (defBody s_BadNumber___init__) (defScope s_BadNumber___init__) .none kVBadNumber0 dcBadNumber0 pmBadNumber0 anBadNumber0 cdBadNumber0 ctBadNumber0)
    D_BadNumber___init__ := ⟨fun_mk (st := s_BadNumber___init__) lBadNumber0 cBadNumber0 kBadNumber0, (fun_mk (x := "__init__") (qual := "BadNumber.__init__") (st := s_BadNumber___init__) lBadNumber0 cBadNumber0 kBadNumber0).binds (ps := ["self", "what", "number"]) fun _ _ _ _ _ _ us hl => match us, hl with | [_, _, _], _ => rfl⟩
    ic_BadNumber := aBadNumber0
    ti_BadNumber := tBadNumber0
    na_BadNumber_what := nBadNumberwhat
    na_BadNumber_number := nBadNumbernumber
    ox_BadNumber := ⟨xlBadNumber, saBadNumber, exBadNumber, tyBadNumber, kcBadNumber⟩
    xf_BadNumber := ⟨gaBadNumber, ggBadNumber, exBadNumber, hdBadNumber⟩
    sb_BadNumber := sbBadNumber
    C_BadRow := CBadRow
    g_BadRow := PySem.W.mg_of X G gBadRow
    a_BadRow___init__ := fBadRow0
    d_BadRow___init__ := (PySem.W.fnOf "__init__" "BadRow.__init__" (defArgs s_BadRow___init__) (defBody s_BadRow___init__) (defScope s_BadRow___init__) .none kVBadRow0 dcBadRow0 pmBadRow0 anBadRow0 cdBadRow0 ctBadRow0)
    D_BadRow___init__ := ⟨fun_mk (st := s_BadRow___init__) lBadRow0 cBadRow0 kBadRow0, (fun_mk (x := "__init__") (qual := "BadRow.__init__") (st := s_BadRow___init__) lBadRow0 cBadRow0 kBadRow0).binds (ps := ["self", "what", "row"]) fun _ _ _ _ _ _ us hl => match us, hl with | [_, _, _], _ => rfl⟩
    ic_BadRow := aBadRow0
    ti_BadRow := tBadRow0
    na_BadRow_what := nBadRowwhat
    na_BadRow_row := nBadRowrow
    ox_BadRow := ⟨xlBadRow, saBadRow, exBadRow, tyBadRow, kcBadRow⟩
    xf_BadRow := ⟨gaBadRow, ggBadRow, exBadRow, hdBadRow⟩
    sb_BadRow := sbBadRow
    C_NoName := CNoName
    g_NoName := PySem.W.mg_of X G gNoName
    a_NoName___init__ := fNoName0
    d_NoName___init__ := (PySem.W.fnOf "__init__" "NoName.__init__" (defArgs s_NoName___init__) (defBody s_NoName___init__) (defScope s_NoName___init__) .none kVNoName0 dcNoName0 pmNoName0 anNoName0 cdNoName0 ctNoName0)
    D_NoName___init__ := ⟨fun_mk (st := s_NoName___init__) lNoName0 cNoName0 kNoName0, (fun_mk (x := "__init__") (qual := "NoName.__init__") (st := s_NoName___init__) lNoName0 cNoName0 kNoName0).binds (ps := ["self", "name"]) fun _ _ _ _ _ _ us hl => match us, hl with | [_, _], _ => rfl⟩
    ic_NoName := aNoName0
    ti_NoName := tNoName0
    na_NoName_name := nNoNamename
    ox_NoName := ⟨xlNoName, saNoName, exNoName, tyNoName, kcNoName⟩
    xf_NoName := ⟨gaNoName, ggNoName, exNoName, hdNoName⟩
    sb_NoName := sbNoName
    C_Unlike := CUnlike
    g_Unlike := PySem.W.mg_of X G gUnlike
    a_Unlike___init__ := fUnlike0
    d_Unlike___init__ := (PySem.W.fnOf "__init__" "Unlike.__init__" (defArgs s_Unlike___init__) (defBody s_Unlike___init__) (defScope s_Unlike___init__) .none kVUnlike0 dcUnlike0 pmUnlike0 anUnlike0 cdUnlike0 ctUnlike0)
    D_Unlike___init__ := ⟨fun_mk (st := s_Unlike___init__) lUnlike0 cUnlike0 kUnlike0, (fun_mk (x := "__init__") (qual := "Unlike.__init__") (st := s_Unlike___init__) lUnlike0 cUnlike0 kUnlike0).binds (ps := ["self", "what"]) fun _ _ _ _ _ _ us hl => match us, hl with | [_, _], _ => rfl⟩
    ic_Unlike := aUnlike0
    ti_Unlike := tUnlike0
    na_Unlike_what := nUnlikewhat
    ox_Unlike := ⟨xlUnlike, saUnlike, exUnlike, tyUnlike, kcUnlike⟩
    xf_Unlike := ⟨gaUnlike, ggUnlike, exUnlike, hdUnlike⟩
    sb_Unlike := sbUnlike
    C_TooMany := CTooMany
    g_TooMany := PySem.W.mg_of X G gTooMany
    a_TooMany___init__ := fTooMany0
    d_TooMany___init__ := (PySem.W.fnOf "__init__" "TooMany.__init__" (defArgs s_TooMany___init__) (defBody s_TooMany___init__) (defScope s_TooMany___init__) .none kVTooMany0 dcTooMany0 pmTooMany0 anTooMany0 cdTooMany0 ctTooMany0)
    D_TooMany___init__ := ⟨fun_mk (st := s_TooMany___init__) lTooMany0 cTooMany0 kTooMany0, (fun_mk (x := "__init__") (qual := "TooMany.__init__") (st := s_TooMany___init__) lTooMany0 cTooMany0 kTooMany0).binds (ps := ["self", "what", "many", "limit"]) fun _ _ _ _ _ _ us hl => match us, hl with | [_, _, _, _], _ => rfl⟩
    ic_TooMany := aTooMany0
    ti_TooMany := tTooMany0
    na_TooMany_what := nTooManywhat
    na_TooMany_many := nTooManymany
    na_TooMany_limit := nTooManylimit
    ox_TooMany := ⟨xlTooMany, saTooMany, exTooMany, tyTooMany, kcTooMany⟩
    xf_TooMany := ⟨gaTooMany, ggTooMany, exTooMany, hdTooMany⟩
    sb_TooMany := sbTooMany
    sb_BadRow_BadText := sbBadRowBadText
    sb_BadRow_BadNumber := sbBadRowBadNumber
    t_FIGURES := tFIGURES
    g_FIGURES := PySem.W.mg_of X G gFIGURES
    t_LETTERS := tLETTERS
    g_LETTERS := PySem.W.mg_of X G gLETTERS
    a_JOINTS := aJOINTS
    g_JOINTS := PySem.W.mg_of X G gJOINTS
    sq_JOINTS := fun H => .inr ⟨_, _, _, lJOINTS, rfl, rfl, (by show 2 ≤ sizeLine; decide), (.cons ⟨_, rfl⟩ (.cons ⟨_, rfl⟩ .nil))⟩
    b_all := PySem.W.mg_none_of X G ball
    b_min := PySem.W.mg_none_of X G bmin
    b_any := PySem.W.mg_none_of X G bany
    b_range := PySem.W.mg_none_of X G brange
    b_isinstance := PySem.W.mg_none_of X G bisinstance
    b_tuple := PySem.W.mg_none_of X G btuple
    b_int := PySem.W.mg_none_of X G bint
    b_len := PySem.W.mg_none_of X G blen
    b_list := PySem.W.mg_none_of X G blist
    b_str := PySem.W.mg_none_of X G bstr
    b_sorted := PySem.W.mg_none_of X G bsorted
    b_bool := PySem.W.mg_none_of X G bbool
    b_repr := PySem.W.mg_none_of X G brepr
    b_zip := PySem.W.mg_none_of X G bzip }
  obtain ⟨hd, ht⟩ := PySem.W.tab_of TP X hrec htb
  refine ⟨[(cc, tb)], fun p hp => by rw [List.mem_singleton.mp hp]; exact ht, fun p hp => by rw [List.mem_singleton.mp hp]; exact ntb, fun p hp => by rw [List.mem_singleton.mp hp]; exact hd, fun a ns base H hl _ _ _ hTB hT hs e0 => ?_⟩
  exact law_runs T (PySem.W.law_code X G htb hfa (X _ _ l25) rfl) (hTB _ (List.mem_singleton.mpr rfl)) (hT _ (List.mem_singleton.mpr rfl)) hs hl e0
end Ag
open PySem PySem.W PyProof.Rows in
set_option maxRecDepth 100000 in
set_option maxHeartbeats 0 in
theorem PySem.Challenge.cw_againnotes_k04_whole_fulfilled_duties_holds : PySem.Challenge.rw_againnotes_k04_whole_fulfilled_duties.Holds := by
  w_on; o_law; k_head; (case hw => w_witness2)
  k_fill
  refine Ag.walk_G (l := PySem.Challenge.rw_againnotes_k04_whole_fulfilled_duties) (n := 63) rfl (by decide) rfl (fun w h Y => PySem.W.km_in_of Y) ?F
  case F =>
    intro w mg mb fa s mean TP KX hmg
    refine' Ag.all_mk TP KX ?hrec ?ntb hmg ?a0 ?l0 ?c0 ?k0 ?a1 ?l1 ?c1 ?k1 ?a2 ?l2 ?c2 ?k2 ?a3 ?l3 ?c3 ?k3 ?a4 ?l4 ?c4 ?k4 ?a5 ?l5 ?c5 ?k5 ?a6 ?l6 ?c6 ?k6 ?a7 ?l7 ?c7 ?k7 ?a8 ?l8 ?c8 ?k8 ?a9 ?l9 ?c9 ?k9 ?a10 ?l10 ?c10 ?k10 ?a11 ?l11 ?c11 ?k11 ?a12 ?l12 ?c12 ?k12 ?a13 ?l13 ?c13 ?k13 ?a14 ?l14 ?c14 ?k14 ?a15 ?l15 ?c15 ?k15 ?a16 ?l16 ?c16 ?k16 ?a17 ?l17 ?c17 ?k17 ?a18 ?l18 ?c18 ?k18 ?a19 ?l19 ?c19 ?k19 ?a20 ?l20 ?c20 ?k20 ?a21 ?l21 ?c21 ?k21 ?a22 ?l22 ?c22 ?k22 ?a23 ?l23 ?c23 ?k23 ?a24 ?l24 ?c24 ?k24 ?a25 ?l25 ?c25 ?k25 ?gAgainError ?saAgainError ?kcAgainError ?hdAgainError ?gaAgainError ?ggAgainError ?exAgainError ?tyAgainError ?sbAgainError ?xlAgainError ?gBadText ?aBadText0 ?lBadText0 ?cBadText0 ?kBadText0 ?tBadText0 ?nBadTextline ?nBadTextword ?saBadText ?kcBadText ?hdBadText ?gaBadText ?ggBadText ?exBadText ?tyBadText ?sbBadText ?xlBadText ?gBadNumber ?aBadNumber0 ?lBadNumber0 ?cBadNumber0 ?kBadNumber0 ?tBadNumber0 ?nBadNumberwhat ?nBadNumbernumber ?saBadNumber ?kcBadNumber ?hdBadNumber ?gaBadNumber ?ggBadNumber ?exBadNumber ?tyBadNumber ?sbBadNumber ?xlBadNumber ?gBadRow ?aBadRow0 ?lBadRow0 ?cBadRow0 ?kBadRow0 ?tBadRow0 ?nBadRowwhat ?nBadRowrow ?saBadRow ?kcBadRow ?hdBadRow ?gaBadRow ?ggBadRow ?exBadRow ?tyBadRow ?sbBadRow ?xlBadRow ?gNoName ?aNoName0 ?lNoName0 ?cNoName0 ?kNoName0 ?tNoName0 ?nNoNamename ?saNoName ?kcNoName ?hdNoName ?gaNoName ?ggNoName ?exNoName ?tyNoName ?sbNoName ?xlNoName ?gUnlike ?aUnlike0 ?lUnlike0 ?cUnlike0 ?kUnlike0 ?tUnlike0 ?nUnlikewhat ?saUnlike ?kcUnlike ?hdUnlike ?gaUnlike ?ggUnlike ?exUnlike ?tyUnlike ?sbUnlike ?xlUnlike ?gTooMany ?aTooMany0 ?lTooMany0 ?cTooMany0 ?kTooMany0 ?tTooMany0 ?nTooManywhat ?nTooManymany ?nTooManylimit ?saTooMany ?kcTooMany ?hdTooMany ?gaTooMany ?ggTooMany ?exTooMany ?tyTooMany ?sbTooMany ?xlTooMany ?sbBadRowBadText ?sbBadRowBadNumber ?gFIGURES ?gLETTERS ?gJOINTS ?lJOINTS ?ball ?bmin ?bany ?brange ?bisinstance ?btuple ?bint ?blen ?blist ?bstr ?bsorted ?bbool ?brepr ?bzip ?hcd ?lcc ?hv
    (case hrec => rfl)
    (case a0 => k_is)
    (case l0 => k_is)
    (case c0 => k_is)
    (case k0 => k_is)
    (case a1 => k_is)
    (case l1 => k_is)
    (case c1 => k_is)
    (case k1 => k_is)
    (case a2 => k_is)
    (case l2 => k_is)
    (case c2 => k_is)
    (case k2 => k_is)
    (case a3 => k_is)
    (case l3 => k_is)
    (case c3 => k_is)
    (case k3 => k_is)
    (case a4 => k_is)
    (case l4 => k_is)
    (case c4 => k_is)
    (case k4 => k_is)
    (case a5 => k_is)
    (case l5 => k_is)
    (case c5 => k_is)
    (case k5 => k_is)
    (case a6 => k_is)
    (case l6 => k_is)
    (case c6 => k_is)
    (case k6 => k_is)
    (case a7 => k_is)
    (case l7 => k_is)
    (case c7 => k_is)
    (case k7 => k_is)
    (case a8 => k_is)
    (case l8 => k_is)
    (case c8 => k_is)
    (case k8 => k_is)
    (case a9 => k_is)
    (case l9 => k_is)
    (case c9 => k_is)
    (case k9 => k_is)
    (case a10 => k_is)
    (case l10 => k_is)
    (case c10 => k_is)
    (case k10 => k_is)
    (case a11 => k_is)
    (case l11 => k_is)
    (case c11 => k_is)
    (case k11 => k_is)
    (case a12 => k_is)
    (case l12 => k_is)
    (case c12 => k_is)
    (case k12 => k_is)
    (case a13 => k_is)
    (case l13 => k_is)
    (case c13 => k_is)
    (case k13 => k_is)
    (case a14 => k_is)
    (case l14 => k_is)
    (case c14 => k_is)
    (case k14 => k_is)
    (case a15 => k_is)
    (case l15 => k_is)
    (case c15 => k_is)
    (case k15 => k_is)
    (case a16 => k_is)
    (case l16 => k_is)
    (case c16 => k_is)
    (case k16 => k_is)
    (case a17 => k_is)
    (case l17 => k_is)
    (case c17 => k_is)
    (case k17 => k_is)
    (case a18 => k_is)
    (case l18 => k_is)
    (case c18 => k_is)
    (case k18 => k_is)
    (case a19 => k_is)
    (case l19 => k_is)
    (case c19 => k_is)
    (case k19 => k_is)
    (case a20 => k_is)
    (case l20 => k_is)
    (case c20 => k_is)
    (case k20 => k_is)
    (case a21 => k_is)
    (case l21 => k_is)
    (case c21 => k_is)
    (case k21 => k_is)
    (case a22 => k_is)
    (case l22 => k_is)
    (case c22 => k_is)
    (case k22 => k_is)
    (case a23 => k_is)
    (case l23 => k_is)
    (case c23 => k_is)
    (case k23 => k_is)
    (case a24 => k_is)
    (case l24 => k_is)
    (case c24 => k_is)
    (case k24 => k_is)
    (case a25 => k_is)
    (case l25 => k_is)
    (case c25 => k_is)
    (case k25 => k_is)
    (case gAgainError => k_is)
    (case saAgainError => k_is)
    (case kcAgainError => k_is)
    (case hdAgainError => k_is)
    (case gaAgainError => k_is)
    (case ggAgainError => k_is)
    (case exAgainError => k_is)
    (case tyAgainError => k_is)
    (case sbAgainError => k_is)
    (case xlAgainError => exact ⟨_, _, _, _, _, _, _, _, _, _, _, _, _, _, _, by k_is, by rfl⟩)
    (case gBadText => k_is)
    (case aBadText0 => k_is)
    (case lBadText0 => k_is)
    (case cBadText0 => k_is)
    (case kBadText0 => k_is)
    (case tBadText0 => k_is)
    (case nBadTextline => k_is)
    (case nBadTextword => k_is)
    (case saBadText => k_is)
    (case kcBadText => k_is)
    (case hdBadText => k_is)
    (case gaBadText => k_is)
    (case ggBadText => k_is)
    (case exBadText => k_is)
    (case tyBadText => k_is)
    (case sbBadText => k_is)
    (case xlBadText => exact ⟨_, _, _, _, _, _, _, _, _, _, _, _, _, _, _, by k_is, by rfl⟩)
    (case gBadNumber => k_is)
    (case aBadNumber0 => k_is)
    (case lBadNumber0 => k_is)
    (case cBadNumber0 => k_is)
    (case kBadNumber0 => k_is)
    (case tBadNumber0 => k_is)
    (case nBadNumberwhat => k_is)
    (case nBadNumbernumber => k_is)
    (case saBadNumber => k_is)
    (case kcBadNumber => k_is)
    (case hdBadNumber => k_is)
    (case gaBadNumber => k_is)
    (case ggBadNumber => k_is)
    (case exBadNumber => k_is)
    (case tyBadNumber => k_is)
    (case sbBadNumber => k_is)
    (case xlBadNumber => exact ⟨_, _, _, _, _, _, _, _, _, _, _, _, _, _, _, by k_is, by rfl⟩)
    (case gBadRow => k_is)
    (case aBadRow0 => k_is)
    (case lBadRow0 => k_is)
    (case cBadRow0 => k_is)
    (case kBadRow0 => k_is)
    (case tBadRow0 => k_is)
    (case nBadRowwhat => k_is)
    (case nBadRowrow => k_is)
    (case saBadRow => k_is)
    (case kcBadRow => k_is)
    (case hdBadRow => k_is)
    (case gaBadRow => k_is)
    (case ggBadRow => k_is)
    (case exBadRow => k_is)
    (case tyBadRow => k_is)
    (case sbBadRow => k_is)
    (case xlBadRow => exact ⟨_, _, _, _, _, _, _, _, _, _, _, _, _, _, _, by k_is, by rfl⟩)
    (case gNoName => k_is)
    (case aNoName0 => k_is)
    (case lNoName0 => k_is)
    (case cNoName0 => k_is)
    (case kNoName0 => k_is)
    (case tNoName0 => k_is)
    (case nNoNamename => k_is)
    (case saNoName => k_is)
    (case kcNoName => k_is)
    (case hdNoName => k_is)
    (case gaNoName => k_is)
    (case ggNoName => k_is)
    (case exNoName => k_is)
    (case tyNoName => k_is)
    (case sbNoName => k_is)
    (case xlNoName => exact ⟨_, _, _, _, _, _, _, _, _, _, _, _, _, _, _, by k_is, by rfl⟩)
    (case gUnlike => k_is)
    (case aUnlike0 => k_is)
    (case lUnlike0 => k_is)
    (case cUnlike0 => k_is)
    (case kUnlike0 => k_is)
    (case tUnlike0 => k_is)
    (case nUnlikewhat => k_is)
    (case saUnlike => k_is)
    (case kcUnlike => k_is)
    (case hdUnlike => k_is)
    (case gaUnlike => k_is)
    (case ggUnlike => k_is)
    (case exUnlike => k_is)
    (case tyUnlike => k_is)
    (case sbUnlike => k_is)
    (case xlUnlike => exact ⟨_, _, _, _, _, _, _, _, _, _, _, _, _, _, _, by k_is, by rfl⟩)
    (case gTooMany => k_is)
    (case aTooMany0 => k_is)
    (case lTooMany0 => k_is)
    (case cTooMany0 => k_is)
    (case kTooMany0 => k_is)
    (case tTooMany0 => k_is)
    (case nTooManywhat => k_is)
    (case nTooManymany => k_is)
    (case nTooManylimit => k_is)
    (case saTooMany => k_is)
    (case kcTooMany => k_is)
    (case hdTooMany => k_is)
    (case gaTooMany => k_is)
    (case ggTooMany => k_is)
    (case exTooMany => k_is)
    (case tyTooMany => k_is)
    (case sbTooMany => k_is)
    (case xlTooMany => exact ⟨_, _, _, _, _, _, _, _, _, _, _, _, _, _, _, by k_is, by rfl⟩)
    (case sbBadRowBadText => k_is)
    (case sbBadRowBadNumber => k_is)
    (case gFIGURES => k_is)
    (case gLETTERS => k_is)
    (case gJOINTS => k_is)
    (case lJOINTS => k_is)
    (case ball => k_is)
    (case bmin => k_is)
    (case bany => k_is)
    (case brange => k_is)
    (case bisinstance => k_is)
    (case btuple => k_is)
    (case bint => k_is)
    (case blen => k_is)
    (case blist => k_is)
    (case bstr => k_is)
    (case bsorted => k_is)
    (case bbool => k_is)
    (case brepr => k_is)
    (case bzip => k_is)
    (case hcd => rfl)
    (case lcc => k_is)
    (case hv => rfl)
    (case ntb => first | kernel_rfl | rfl | decide)
#print axioms PySem.Challenge.cw_againnotes_k04_whole_fulfilled_duties_holds
