import PyProof.Rows.All
import Wide.All
import OpenK.AllK
import Wide.FinOn
import HandS.ForMost
import HandS.Set
import HandS.SetKeys
import HandS.TupSets
import PyProof.Rows.SortShellAny
import HandS.Strs
import HandS.IsInst
import HandS.TupAny
import HandS.TupMul
import HandS.TupLe
import HandS.Style
import HandS.Deep
import HandS.NoneIn
import HandS.Codes
import HandS.Lambda
import HandS.EndTab
import PyProof.ReprRoads
import HandS.TryMany
import HandS.ExcField
import HandS.Zip
import PyProof.IsRules
import PyProof.AutoSeq1
import PyProof.NeData
import PyProof.StrBlock2
import PyProof.Rows.StrMul
import KE.SortCalls
import HandS.Text
import PyProof.StrLawsRepr
import PyProof.CallFns
import KE.DataCmp
import HandS.ExcInit
import HandS.WordsExc
import HandS.Defaults
import HandS.CallLocal
import HandS.Walk
import HandS.ExcIs
import KE.KNest
import KE.KNestM
import HandS.HeadWalk
import PySem.Challenge.RW_againnotes_k02_names_and_words
set_option Elab.async false
set_option linter.all false
set_option maxRecDepth 100000
set_option maxHeartbeats 4000000
/-! Sets of scannable keys of one kind, with what a walk over them asks for; set(list of texts), sorted of such a set. -/
namespace Ag
open PySem PySem.Spec PyProof.Rows L2

section gen
variable {P : Program} {w : World} {κ : Type} [DecidableEq κ] {kd : KeyKind P w κ}
/-- two entries have no key in common -/
def Apart (kd : KeyKind P w κ) (e f : Int × Value) : Prop := ∀ k, kd.is k e.2 = true → kd.is k f.2 = false
theorem Apart.symm {e f : Int × Value} (h : Apart kd e f) : Apart kd f e := fun k hf => by
  cases q : kd.is k e.2 with
  | false => rfl
  | true => have := h k q; rw [hf] at this; cases this

structure SetG (kd : KeyKind P w κ) (h : Heap) (a : Addr) (S : κ → Bool) (n : Nat) (o : Obj) (es : Array (Int × Value)) (ep : Nat) (t : SetTable) : Prop where
  at_ : h.get? a = some o
  ex : o.ExactSet
  dat : o.data = .set es ep t
  els : ElemsOf kd es.toList
  mem : ∀ k, S k = true ↔ ∃ e ∈ es.toList, kd.is k e.2 = true
  room : es.size < scanBound
  fit : t.fits es.size = true
  num : es.size = n
  ris : Ris t.place.toList
  led : w.params.followText "set-order" = true ∨ t.led = true
  nd : es.toList.Pairwise (Apart kd)

def SetAtG (kd : KeyKind P w κ) (h : Heap) (a : Addr) (S : κ → Bool) (n : Nat) : Prop := ∃ o es ep t, SetG kd h a S n o es ep t
theorem SetAtG.keep {h h' : Heap} {a : Addr} {S : κ → Bool} {n : Nat} (R : SetAtG kd h a S n) (k : ∀ o, h.get? a = some o → h'.get? a = some o) : SetAtG kd h' a S n := by
  obtain ⟨o, es, ep, t, r⟩ := R
  exact ⟨o, es, ep, t, ⟨k o r.at_, r.ex, r.dat, r.els, r.mem, r.room, r.fit, r.num, r.ris, r.led, r.nd⟩⟩
theorem SetAtG.fresh {h : Heap} {a : Addr} (ho : h.get? a = some { cls := .type "set", dict := none, data := .set #[] 0 (.fresh 0 0 (!w.params.followText "set-order")) }) : SetAtG kd h a (fun _ => false) 0 :=
  ⟨_, #[], 0, _, ⟨ho, ⟨rfl, rfl, rfl⟩, rfl, fun e he => (by simp at he), fun k => (by simp), (by decide), (by rfl), rfl, List.Pairwise.nil, by
    show _ ∨ (!w.params.followText "set-order") = true
    cases w.params.followText "set-order" <;> simp, List.Pairwise.nil⟩⟩

variable {A : Around} {E : Value → Shared → Prop} {s : Shared} {a : Addr} {S : κ → Bool} {n : Nat}

theorem addG_tail {g : Bool → Sem Unit} (hg : ∀ (b : Bool) (s₁ : Shared) (Q' : Unit → Shared → Prop), Q' () s₁ → wpAny (model P w) A (g b) Q' E s₁)
    {o : Obj} {es es1 : Array (Int × Value)} {ep : Nat} {t t2 : SetTable} {S' : κ → Bool} (ho : s.heap.get? a = some o) (hex : o.ExactSet) (hd : o.data = .set es ep t)
    (el1 : ElemsOf kd es1.toList) (m1 : ∀ k, S' k = true ↔ ∃ e ∈ es1.toList, kd.is k e.2 = true) (nd1 : es1.toList.Pairwise (Apart kd))
    (b1 : es1.size < scanBound) (f2 : t2.fits es1.size = true) (r2 : Ris t2.place.toList) (l2 : w.params.followText "set-order" = true ∨ t2.led = true) {wasD : Bool} {R : Option Bool → Shared → Prop}
    (hR : ∀ h', Heap.SameBut a s.heap h' → SetAtG kd h' a S' es1.size → R (some true) { s with heap := h' }) :
    wpAny (model P w) A (do
        storeSet a es1 t2
        if (!wasD && t2.tooFull) = true then do
            g (relayAll t2 es1 (SetTable.grown es1.size)).2.2
            storeSet a (relayAll t2 es1 (SetTable.grown es1.size)).1 (relayAll t2 es1 (SetTable.grown es1.size)).2.1
            pure (some true)
          else pure (some true)) R E s := by
  refine wpAny_bind (wpAny_storeSet_of ho hd ?_ (fits_of_scanBound b1))
  have q1 := store_at (es' := es1) (t' := t2) ho hd
  have k1 := Heap.SameBut.update s.heap a (Obj.putSet es1 t2)
  by_cases hc : (!wasD && t2.tooFull) = true
  · rw [if_pos hc]
    have pm := relayAll_perm t2 es1 (SetTable.grown es1.size)
    have f3 := relayAll_fits t2 es1 (SetTable.grown es1.size)
    have r3 := relayAll_ris t2 es1 (SetTable.grown es1.size)
    have l3 := relayAll_led t2 es1 (SetTable.grown es1.size)
    generalize relayAll t2 es1 (SetTable.grown es1.size) = Z at pm f3 r3 l3 ⊢
    obtain ⟨es2, t3, gv⟩ := Z
    dsimp only at pm f3 r3 l3 ⊢
    have z2 : es2.size = es1.size := by rw [← Array.length_toList, pm.length_eq, Array.length_toList]
    have b2 : es2.size < scanBound := z2 ▸ b1
    refine wpAny_bind (hg _ _ _ ?_)
    refine wpAny_bind (wpAny_storeSet_of q1 rfl ?_ (fits_of_scanBound b2))
    have q2 := store_at (es' := es2) (t' := t3) q1 rfl
    have m2 : ∀ k, S' k = true ↔ ∃ e ∈ es2.toList, kd.is k e.2 = true := fun k => (m1 k).trans ⟨fun ⟨e, he, q⟩ => ⟨e, pm.mem_iff.mpr he, q⟩, fun ⟨e, he, q⟩ => ⟨e, pm.mem_iff.mp he, q⟩⟩
    exact wpAny_pure (hR _ (k1.trans (Heap.SameBut.update _ a _)) ⟨_, es2, _, t3, ⟨q2, hex, rfl, el1.perm pm, m2, b2, f3, z2, r3, l2.imp id fun z => l3 ▸ z, (pm.pairwise_iff (fun h => Apart.symm h)).mpr nd1⟩⟩)
  · rw [if_neg hc]
    exact wpAny_pure (hR _ k1 ⟨_, es1, _, t2, ⟨q1, hex, rfl, el1, m1, b1, f2, rfl, r2, l2, nd1⟩⟩)

theorem addG {k : κ} {x : Value} {Q : Bool → Shared → Prop} (hk : kd.is k x = true) (hx : x.scannable = true) (R : SetAtG kd s.heap a S n) (hroom : n + 1 < scanBound)
    (hQ : ∀ h', Heap.SameBut a s.heap h' → SetAtG kd h' a (fun j => S j || decide (j = k)) (if S k = true then n else n + 1) → Q (!S k) { s with heap := h' }) :
    wpAny (model P w) A (setAddHashed a x (kd.hash k)) Q E s := by
  obtain ⟨o, es, ep, t, R⟩ := R
  have bz : es.size + 1 < scanBound := by rw [R.num]; exact hroom
  unfold setAddHashed setAddHashedIn
  refine wpAny_holding (wpAny_bind (wpAny_setState_of R.at_ R.dat R.fit ?_))
  dsimp only
  rw [byScan_of hx R.room R.els]
  simp only [↓reduceIte]
  unfold setAddByScan
  refine wpAny_bind (wpAny_bind (wpAny_rule (wpAny_bind (wpAny_setScan_of hk R.at_ R.dat R.fit R.els ?_))))
  cases hfi : List.findIdx? (fun e => kd.is k e.2) es.toList with
  | some j =>
    obtain ⟨hj, pj, _⟩ := List.findIdx?_eq_some_iff_getElem.mp hfi
    have hS : S k = true := (R.mem k).mpr ⟨_, List.getElem_mem hj, pj⟩
    refine wpAny_pure (wpAny_pure ?_)
    have q := hQ s.heap (Heap.SameBut.refl a s.heap) ⟨o, es, ep, t, ⟨R.at_, R.ex, R.dat, R.els, fun i => (by
      rw [Bool.or_eq_true, decide_eq_true_eq, ← R.mem i]
      exact ⟨fun z => z.elim id (fun e => e ▸ hS), .inl⟩), R.room, R.fit, (by rw [if_pos hS]; exact R.num), R.ris, R.led, R.nd⟩⟩
    rw [hS] at q
    exact q
  | none =>
    have hno : ∀ e ∈ es.toList, kd.is k e.2 = false := fun e he => by
      have c := List.findIdx?_eq_none_iff.mp hfi e he
      cases q : kd.is k e.2 with
      | false => rfl
      | true => rw [q] at c; cases c
    have hS : S k = false := by
      cases q : S k with
      | false => rfl
      | true =>
        obtain ⟨e, he, z⟩ := (R.mem k).mp q
        rw [hno e he] at z; cases z
    have pm := layNew_perm t es (kd.hash k) x
    have f1 := layNew_fits t es (kd.hash k) x
    have r1 := layNew_ris t es (kd.hash k) x R.ris
    have l1 := layNew_led t es (kd.hash k) x
    dsimp only
    generalize layNew t es (kd.hash k) x = Z at pm f1 r1 l1 ⊢
    obtain ⟨es1, t1, wasD, gv⟩ := Z
    dsimp only at pm f1 r1 l1 ⊢
    rw [Array.toList_push] at pm
    have el1 : ElemsOf kd es1.toList := (R.els.push hk hx).perm pm
    have m1 : ∀ i, (S i || decide (i = k)) = true ↔ ∃ e ∈ es1.toList, kd.is i e.2 = true := mem_push_iff hk R.mem pm
    have nd1 : es1.toList.Pairwise (Apart kd) := by
      refine (pm.pairwise_iff (fun h => Apart.symm h)).mpr (List.pairwise_append.mpr ⟨R.nd, List.pairwise_singleton _ _, fun e he f hf => ?_⟩)
      rw [List.mem_singleton.mp hf]
      refine Apart.symm fun j hj => ?_
      have : j = k := kd.inj x j k hj hk
      rw [this]; exact hno e he
    have z1 : es1.size = n + 1 := by rw [← Array.length_toList, pm.length_eq, List.length_append, Array.length_toList, R.num]; rfl
    have b1 : es1.size < scanBound := by rw [z1]; exact hroom
    have ld : w.params.followText "set-order" = true ∨ t1.led = true := R.led.imp id fun z => by rw [l1]; exact z
    have fin : ∀ h', Heap.SameBut a s.heap h' → SetAtG kd h' a (fun j => S j || decide (j = k)) es1.size → Q true { s with heap := h' } := fun h' sb r => by
      have q := hQ h' sb
      rw [hS] at q
      rw [z1] at r
      exact q r
    have gw : ∀ (b : Bool) {s₁ : Shared} {Q' : Unit → Shared → Prop}, Q' () s₁ → wpAny (model P w) A (match b with | true => rule "set.scan.the-table-gave-way" | false => pure ()) Q' E s₁ :=
      fun b s₁ Q' q => by cases b <;> first | exact wpAny_pure q | exact wpAny_rule q
    refine wpAny_bind (gw _ ?_)
    split
    · refine wpAny_bind ?_
      rw [hashByValue_scannable 8 hx]
      refine wpAny_pure (addG_tail (fun b s₁ Q' q => by cases b <;> first | exact wpAny_pure q | exact wpAny_rule q) R.at_ R.ex R.dat el1 m1 nd1 b1 ?_ ?_ ?_ ?_)
      · split <;> first | exact f1 | exact SetTable.fits_plain_off f1
      · split <;> exact r1
      · split <;> exact ld
      · intro h' sb r; dsimp only; exact wpAny_pure (fin h' sb r)
    · refine wpAny_bind (wpAny_pure ?_)
      simp only [↓reduceIte]
      refine addG_tail (fun b s₁ Q' q => by cases b <;> first | exact wpAny_pure q | exact wpAny_rule q) R.at_ R.ex R.dat el1 m1 nd1 b1 f1 r1 ld ?_
      intro h' sb r; dsimp only; exact wpAny_pure (fin h' sb r)
end gen
end Ag

set_option Elab.async false
set_option linter.all false
set_option maxRecDepth 100000
set_option maxHeartbeats 4000000
namespace Ag
open PySem PySem.Spec PyProof.Rows L2
section
variable {P : Program} {w : World} {A : Around} {E : Value → Shared → Prop}

/-- set.update's loop over texts -/
theorem upd_loop {I : Addr} {fp wr : List Addr} {G : Array GenState → Array GenState → Prop} {n : Nat} {Pv : Nat → Value → Prop} {St : Nat → Shared → Prop} {R : Result → Shared → Prop}
    (W : WalksS P w A.in1 I fp wr G n Pv St) (C : Addr) (hC : C ∉ fp) (xs : List Str) (hn : n = xs.length) (hb : xs.length + 1 < scanBound) (hv : ∀ i v, Pv i v → ∃ x t, xs[i]? = some x ∧ v = .str x t) :
    ∀ (j i : Nat) (s : Shared), n - i = j → i ≤ n → St i s → (∃ S m, SetAtG (PySem.strKind P w) s.heap C S m ∧ m ≤ i ∧ ∀ k, S k = true ↔ k ∈ xs.take i) →
      (∀ s' S m, Moved (C :: wr) G s s' → SetAtG (PySem.strKind P w) s'.heap C S m → m ≤ n → (∀ k, S k = true ↔ k ∈ xs) → R (.ok (.ret .none)) s') →
      codeAny (model P w) A (.builtin "set.update.loop" ⟨[.ref C, .ref I], []⟩) R s := by
  have hCw : C ∉ wr := fun z => hC (W.sub _ z)
  have wide : ∀ b ∈ wr, b ∈ C :: wr := fun b z => List.mem_cons_of_mem _ z
  intro j
  induction j with
  | zero =>
    intro i s hj hi st ⟨S, m, hS, hm, hk⟩ hR
    obtain rfl : i = n := by omega
    refine codeAny_builtin F.entry_set_update_loop ?_
    rw [Around.under_plainId F.plain_set_update_loop _]
    show wpAny _ A.in1 (pyNext (.ref I) >>= _) _ _ s
    refine wpAny_bind (W.done s _ _ st fun s' mv => ?_)
    show wpAny _ A.in1 (ret Value.none) _ _ s'
    refine wpAny_pure (hR s' S m (mv.mono wide) (hS.keep fun o e => mv.heap C o hCw e) hm fun k => ?_)
    rw [hk k, hn, List.take_length]
  | succ j ih =>
    intro i s hj hi st ⟨S, m, hS, hm, hk⟩ hR
    have lt : i < n := by omega
    refine codeAny_builtin F.entry_set_update_loop ?_
    rw [Around.under_plainId F.plain_set_update_loop _]
    show wpAny _ A.in1 (pyNext (.ref I) >>= _) _ _ s
    refine wpAny_bind (W.item i s _ _ lt st fun v s' pv st' mv => ?_)
    obtain ⟨x, tk, hx, rfl⟩ := hv i v pv
    have hS' := hS.keep (h' := s'.heap) fun o e => mv.heap C o hCw e
    show wpAny _ A.in1 (holding [Value.str x tk] (setAdd C (.str x tk)) >>= _) _ _ s'
    refine wpAny_bind (wpAny_holding ?_)
    unfold setAdd
    refine wpAny_holding (wpAny_bind ((PySem.strKind P w).pyHash (k := x) (strKind_is _ _ _ _) ?_))
    refine addG (kd := PySem.strKind P w) (s := { s' with toks := s'.toks + 1 }) (strKind_is _ _ _ _) rfl hS' (by omega) fun h' sb hS2 => ?_
    have tk1 : xs.take (i + 1) = xs.take i ++ [x] := by rw [List.take_succ, hx]; rfl
    refine wpAny_pure ⟨plainId_quiet F.plain_set_update_loop _, ih (i + 1) _ (by omega) lt (W.frame _ s' _ _ st' (Nat.le_succ _) fun b z o e => ?_) ⟨_, _, hS2, ?_, fun k => ?_⟩ fun s2 S2 m2 mv2 h2 l2 k2 => hR s2 S2 m2 ?_ h2 l2 k2⟩
    · rw [sb.2 b (fun q => hC (q ▸ z))]; exact e
    · split <;> omega
    · rw [tk1, Bool.or_eq_true, hk k, List.mem_append, List.mem_singleton, decide_eq_true_eq]
    · refine Moved.trans W.gtrans ((mv.mono wide).then_heap (Nat.le_succ _) fun b o z e => ?_) mv2
      rw [sb.2 b (fun q => z (q ▸ List.mem_cons_self))]; exact e

set_option maxHeartbeats 4000000 in
theorem set_of_strs {s : Shared} {l : Addr} {items : Array Value} {xs : List Str} {Q : Value → Shared → Prop} (hh : A.handled = none) (hl : s.heap.IsList l items) (hi : StrsAre items.toList xs) (hb : xs.length + 1 < scanBound)
    (hQ : ∀ (h' : Heap) (tk : Nat) S m, SetAtG (PySem.strKind P w) h' s.heap.objs.size S m → m ≤ xs.length → (∀ k, S k = true ↔ k ∈ xs) → (∀ b o, s.heap.get? b = some o → h'.get? b = some o) → Q (.ref s.heap.objs.size) { s with heap := h', toks := tk }) :
    wpAny (model P w) A (call (.type "set") [.ref l]) Q E s := by
  have isz : items.size = xs.length := by rw [← StrsAre.len_eq hi, Array.length_toList]
  obtain ⟨c, tl, hmro⟩ := F.called_set.mro
  have hmade := F.called_set.made
  have hsub := F.called_set.sub
  refine wpAny_call (codeAny_of_tree ?_)
  show wpAny _ _ (callAny (.type "set") _) _ _ _
  refine wpAny_pure ⟨Code.quiet_builtin _ (by decide +kernel), codeAny_builtin F.entry_type_call ?_⟩
  rw [Around.under_plain (weight_type_call_type "set" [.ref l] []) rfl]
  have h1 := F.called_set.notType
  have h2 := F.called_set.canCreate
  have hct := F.typeCall_set_1 (.ref l)
  repeat (any_goals (first | assumption | wp_step))
  refine codeAny_mono (code_set_led1 (.ref l) (E := E) (Q₁ := fun obj s₁ => obj = .ref s.heap.objs.size ∧ s₁ = { s with heap := s.heap.push ({ cls := .type "set", dict := none, data := .set #[] 0 (.fresh 0 0 (!w.params.followText "set-order")) } : Obj) }) ⟨rfl, rfl⟩) fun r s₁ hr => ?_
  cases r with
  | error e => exact hr
  | ok fl =>
    cases fl with
    | ret obj =>
      obtain ⟨rfl, rfl⟩ := hr
      have hS : (s.heap.push ({ cls := .type "set", dict := none, data := .set #[] 0 (.fresh 0 0 (!w.params.followText "set-order")) } : Obj)).get? s.heap.objs.size = some ({ cls := .type "set", dict := none, data := .set #[] 0 (.fresh 0 0 (!w.params.followText "set-order")) } : Obj) := Heap.get?_push_size _ rfl
      have hT : Shared.TypeIs { s with heap := s.heap.push ({ cls := .type "set", dict := none, data := .set #[] 0 (.fresh 0 0 (!w.params.followText "set-order")) } : Obj) } (.ref s.heap.objs.size) "set" := ⟨_, hS, rfl⟩
      have hli := F.called_set.init.lookup
      have hbi := F.called_set.init.bind (.ref s.heap.objs.size)
      repeat (any_goals (first | assumption | wp_step))
      refine codeAny_mono (codeAny_call_builtin (R := wants (fun r s₂ => r = .none ∧ ∃ h' tk S m, s₂ = { s with heap := h', toks := tk } ∧ SetAtG (PySem.strKind P w) h' s.heap.objs.size S m ∧ m ≤ xs.length ∧ (∀ k, S k = true ↔ k ∈ xs) ∧
          (∀ b o, s.heap.get? b = some o → h'.get? b = some o)) E) F.called_set.init.plain F.entry_set_init (check_set_init_1 hT ?_)) fun r₂ s₂ hr₂ => ?_
      · obtain ⟨ol, hol, hcl, nl, hdl⟩ := hl
        obtain ⟨ocls, odict, odata, oslots⟩ := ol
        simp only at hcl hdl
        subst hcl; subst hdl
        have hol1 : (s.heap.push ({ cls := .type "set", dict := none, data := .set #[] 0 (.fresh 0 0 (!w.params.followText "set-order")) } : Obj)).get? l = some { cls := .type "list", dict := odict, data := .seq items nl, slots := oslots } := Heap.get?_push_of_some _ hol
        have hsls := F.sub_list_set
        have hslf := F.sub_list_frozenset
        have hne : (Value.type "list" == Value.type "dict") = false := by decide
        have hl1 : (s.heap.push ({ cls := .type "set", dict := none, data := .set #[] 0 (.fresh 0 0 (!w.params.followText "set-order")) } : Obj)).IsList l items := ⟨_, hol1, rfl, nl, rfl⟩
        unfold Builtin.«set.__init__» noKeywords Builtin.Frozenset.updateFrom
        generalize hPI : pyIter = PI
        wp_walk
        subst hPI
        refine wpAny_pyIter_list hl1 ?_
        refine wpAny_bind (wpAny_runValue ?_)
        have llt : l < s.heap.objs.size := Heap.lt_size hol
        have hh3 : A.in1.in1.in1.handled = none := by simp [hh]
        have z1 : (s.heap.push ({ cls := .type "set", dict := none, data := .set #[] 0 (.fresh 0 0 (!w.params.followText "set-order")) } : Obj)).objs.size = s.heap.objs.size + 1 := Heap.size_push ..
        have ne1 : l ≠ (s.heap.push ({ cls := .type "set", dict := none, data := .set #[] 0 (.fresh 0 0 (!w.params.followText "set-order")) } : Obj)).objs.size := by rw [z1]; exact Nat.ne_of_lt (Nat.lt_succ_of_lt llt)
        have hnf : s.heap.objs.size ∉ [(s.heap.push ({ cls := .type "set", dict := none, data := .set #[] 0 (.fresh 0 0 (!w.params.followText "set-order")) } : Obj)).objs.size, l] := by
          rw [z1]; intro z
          rcases List.mem_cons.mp z with z | z
          · exact Nat.ne_of_lt (Nat.lt_succ_self _) z
          · exact Nat.ne_of_gt llt (List.mem_singleton.mp z)
        have hval : ∀ (i : Nat) (v : Value), items[i]? = some v → ∃ x t, xs[i]? = some x ∧ v = .str x t := fun i v q => by
          have q2 : items.toList[i]? = some v := by rw [Array.getElem?_toList]; exact q
          obtain ⟨t, e⟩ := SS.strs_at hi i v q2
          have il : i < xs.length := by rw [← isz, ← Array.length_toList]; exact (List.getElem?_eq_some_iff.mp q2).1
          refine ⟨_, t, ?_, e⟩
          rw [List.getD_eq_getElem?_getD, List.getElem?_eq_getElem il]; rfl
        refine upd_loop ((Walks.list hh3 _ l ne1 items).toS) s.heap.objs.size hnf xs isz hb hval (items.size - 0) 0 _ (by omega) (Nat.zero_le _)
          ⟨⟨_, Heap.get?_push_size _ rfl, rfl, rfl⟩, (hl1.push _)⟩ ⟨_, 0, SetAtG.fresh (kd := PySem.strKind P w) (Heap.get?_push_of_some _ hS), Nat.le_refl _, fun k => (by simp)⟩ fun s' S m mv hS' hm hk => ?_
        obtain ⟨h', g2, d', tk', os'⟩ := s'
        have eg : g2 = s.gens := mv.gens
        have ed : d' = s.drawn := mv.drawn
        have eo : os' = s.os := mv.os
        subst eg; subst ed; subst eo
        show wpAny _ _ _ _ _ _
        refine wpAny_pure ?_
        show wpAny _ _ (ret Value.none) _ _ _
        refine wpAny_pure ⟨rfl, h', tk', S, m, rfl, hS', by rw [← isz]; exact hm, hk, fun b o e => mv.heap b o (fun z => ?_) (Heap.get?_push_of_some _ (Heap.get?_push_of_some _ e))⟩
        have lb := Heap.lt_size e
        rcases List.mem_cons.mp z with z | z
        · exact Nat.ne_of_lt lb z
        · exact Nat.ne_of_lt (Nat.lt_succ_of_lt lb) ((List.mem_singleton.mp z).trans z1)
      · cases r₂ with
        | error e => exact hr₂
        | ok fl₂ =>
          cases fl₂ with
          | ret r =>
            obtain ⟨rfl, h', tk, S, m, rfl, hS', hm, hk, kp⟩ := hr₂
            repeat (any_goals (first | assumption | wp_step))
            exact hQ _ _ _ _ hS' hm hk kp
          | _ => exact hr₂.elim
    | _ => exact hr.elim
end
end Ag

set_option Elab.async false
set_option linter.all false
set_option maxRecDepth 100000
set_option maxHeartbeats 4000000
namespace Ag
open PySem PySem.Spec PyProof.Rows L2
section
variable {P : Program} {w : World} {A : Around} {E : Value → Shared → Prop} {s : Shared}

theorem strs_pick : ∀ (l : List (Int × Value)), ElemsOf (PySem.strKind P w) l → ∃ xs : List Str, StrsAre (l.map (·.2)) xs ∧ ∀ k, k ∈ xs ↔ ∃ e ∈ l, (PySem.strKind P w).is k e.2 = true
  | [], _ => ⟨[], .nil, fun k => by simp⟩
  | e :: l, h => by
    obtain ⟨xs, r, m⟩ := strs_pick l h.tail
    obtain ⟨⟨k, hk, _⟩, _⟩ := h.head
    obtain ⟨t, q⟩ := Value.isStrOf_shape (x := k) (v := e.2) hk
    refine ⟨k :: xs, ?_, fun j => ?_⟩
    · show StrsAre (e.2 :: l.map (·.2)) _
      rw [q]; exact .cons k t r
    · rw [List.mem_cons, m j]
      constructor
      · rintro (rfl | ⟨f, hf, z⟩)
        · exact ⟨e, List.mem_cons_self, hk⟩
        · exact ⟨f, List.mem_cons_of_mem _ hf, z⟩
      · rintro ⟨f, hf, z⟩
        rcases List.mem_cons.mp hf with rfl | hf
        · exact .inl ((PySem.strKind P w).inj _ _ _ z hk)
        · exact .inr ⟨f, hf, z⟩

theorem strs_of_perm : ∀ {us vs : List Value} {xs : List Str}, us.Perm vs → StrsAre vs xs → ∃ ys : List Str, StrsAre us ys ∧ ys.Perm xs := by
  intro us vs xs p
  induction p generalizing xs with
  | nil => intro h; cases h; exact ⟨[], .nil, .nil⟩
  | cons v _ ih =>
    intro h
    cases h with
    | cons x t r =>
      obtain ⟨ys, a, b⟩ := ih r
      exact ⟨x :: ys, .cons x t a, b.cons x⟩
  | swap v u l =>
    intro h
    cases h with
    | cons x t r =>
      cases r with
      | cons y t' r' => exact ⟨y :: x :: _, .cons y t' (.cons x t r'), .swap x y _⟩
  | trans _ _ ih1 ih2 =>
    intro h
    obtain ⟨ys, a, b⟩ := ih2 h
    obtain ⟨zs, c, d⟩ := ih1 a
    exact ⟨zs, c, d.trans b⟩

theorem strsAre_inj : ∀ {us : List Value} {xs ys : List Str}, StrsAre us xs → StrsAre us ys → xs = ys
  | _, _, _, .nil, h => by cases h; rfl
  | _, _, _, .cons x t r, h => by
    cases h with
    | cons y t' r' => rw [strsAre_inj r r']

theorem strs_nodup : ∀ {l : List (Int × Value)} {xs : List Str}, StrsAre (l.map (·.2)) xs → l.Pairwise (Apart (PySem.strKind P w)) → ElemsOf (PySem.strKind P w) l → xs.Nodup
  | [], _, .nil, _, _ => List.nodup_nil
  | e :: l, _, h, nd, el => by
    obtain ⟨v, hv⟩ : ∃ v, e.2 = v := ⟨_, rfl⟩
    rw [List.map_cons, hv] at h
    cases h with
    | cons x t r =>
      obtain ⟨n1, n2⟩ := List.pairwise_cons.mp nd
      refine List.nodup_cons.mpr ⟨fun hx => ?_, strs_nodup r n2 el.tail⟩
      obtain ⟨ys, r', m⟩ := strs_pick (P := P) (w := w) l el.tail
      have same : ys = _ := strsAre_inj r' r
      subst same
      obtain ⟨f, hf, z⟩ := (m x).mp hx
      have := n1 f hf x (by rw [hv]; exact strKind_is _ _ _ _)
      rw [z] at this; cases this

theorem sorted_of_strset {a : Addr} {S : Str → Bool} {m : Nat} {Q : Value → Shared → Prop} (R : SetAtG (PySem.strKind P w) s.heap a S m) (hh : A.handled = none)
    (hQ : ∀ s' p (out : Array Value) (c : Nat) (ys : List Str), (∀ b o, s.heap.get? b = some o → s'.heap.get? b = some o) → s'.gens = s.gens → s'.os = s.os → s.heap.objs.size ≤ p →
      s'.heap.get? p = some (seqObj "list" out c) → StrsAre out.toList ys → sortedS ys = true → ys.Nodup → (∀ k, k ∈ ys ↔ S k = true) → ys.length = m → Q (.ref p) s') :
    wpAny (model P w) A (call (.builtin "sorted") [.ref a]) Q E s := by
  obtain ⟨o, es, ep, t, R⟩ := R
  obtain ⟨xs, hxs, mx⟩ := strs_pick (P := P) (w := w) es.toList R.els
  have nx := strs_nodup hxs R.nd R.els
  refine Calls.call_function_entry kind_sorted plain_sorted entry_sorted (args_sorted1 _) ?_
  unfold Builtin.«sorted»
  refine wpAny_bind (m := checkCount "sorted" 1 1 _) (wpAny_pure ?_)
  refine wpAny_bind (collect_set (A := A.in1) hh ⟨o, R.at_, R.ex.1, R.dat⟩ R.fit R.room R.ris R.led fun s1 vs k1 hz g1 o1 pm => ?_)
  have vl : vs.length = m := by rw [pm.length_eq, List.length_map, Array.length_toList]; exact R.num
  obtain ⟨zs, hzs, pz⟩ := strs_of_perm pm hxs
  have mb : m < scanBound := R.num ▸ R.room
  have small : vs.length ≤ sizeLine := by rw [vl]; exact fits_of_scanBound mb
  refine wpAny_bind (wpAny_newList ?_ small)
  have hoL : (s1.heap.push (seqObj "list" vs.toArray 0)).get? s1.heap.objs.size = some (seqObj "list" vs.toArray 0) := Heap.get?_push_size _ rfl
  refine wpAny_bind (wpAny_holding (wpAny_call_entry slot_list_sort ⟨_, hoL, rfl⟩ entry_list_sort (list_sort_treeKAny strKind_oneLt hoL hzs.keysOf (fun v₁ v₂ rest e => keyKind_strs (by rw [← e]; exact hzs)) small fun st' hp hs => ⟨_, rfl, ?_⟩) (args_list_sort _)))
  obtain ⟨ys, a1, a2, a3⟩ := sorted_out_str hzs hp hs
  obtain ⟨c, hc⟩ := sortedHeap_at (vs := vs) (out := (arrOf st').map (·.2)) hoL
  have py : ys.Perm xs := a2.trans pz
  refine wpAny_pure ⟨_, rfl, hQ _ s1.heap.objs.size _ c ys (fun b u e => ?_) g1 o1 hz hc a1 a3 (py.nodup_iff.mpr nx) (fun k => by rw [py.mem_iff, mx k, ← R.mem k]) ?_⟩
  · have q := k1 b u e
    have lt := Heap.lt_size q
    show (sortedHeap (s1.heap.push (seqObj "list" vs.toArray 0)) s1.heap.objs.size vs _).get? b = some u
    rw [sortedHeap_old (Nat.ne_of_lt lt) (by rw [size_push']; exact Nat.lt_succ_of_lt lt)]
    exact Heap.get?_push_of_some _ q
  · have h1 := StrsAre.len_eq hzs
    rw [a2.length_eq, ← h1, vl]
end

/-! ### over the layer -/
/-- the set of the texts xs, at a -/
def StrSet (P : Program) (w : World) (a : Addr) (xs : List Str) : HO := .ext fun h => ∃ S m, SetAtG (PySem.strKind P w) h a S m ∧ m ≤ xs.length ∧ ∀ k, S k = true ↔ k ∈ xs
def rSetS (K : PySem.W.Frag) (P : Program) (w : World) : List V → Hp → VK → Prop := fun vs H Q => ∃ (a : Addr) (xs : List Str), vs = [V.ref a] ∧ (SqL K H a (xs.map V.str)) ∧ xs.length < 4000 ∧
  ∀ p, H p = none → Q (.ref p) (upd H p (StrSet P w p xs))
def rSortSetS (P : Program) (w : World) : List V → Hp → VK → Prop := fun vs H Q => ∃ (a : Addr) (xs : List Str), vs = [V.ref a] ∧ H a = some (StrSet P w a xs) ∧
  ∀ ys p, sortedS ys = true → ys.Nodup → (∀ k, k ∈ ys ↔ k ∈ xs) → H p = none → Q (.ref p) (upd H p (.lst (ys.map V.str)))
theorem cr_setS {X : Cx} (hc : X.calm = true) : CallR X (.type "set") (rSetS X.K X.prog X.w) := by
  intro pins s σ H vs us Q I r h
  obtain ⟨a, xs, rfl, hs, hb, q⟩ := h
  obtain ⟨its, rv, hl, _⟩ := I.list hs
  rw [Vals.ref1 r]
  have hn : H s.heap.objs.size = none := I.hok.fresh (Nat.le_refl _)
  refine set_of_strs (P := X.prog) (w := X.w) (I.ok.hd hc) hl.isList rv.strs (by unfold scanBound; omega) fun h' tk S m hS hm hk kp => ?_
  refine ⟨.ref s.heap.objs.size, upd H s.heap.objs.size (StrSet X.prog X.w s.heap.objs.size xs), I.laid (t' := tk) kp (Nat.le_refl _) ?_, rfl, q _ hn⟩
  refine ⟨⟨S, m, hS, hm, hk⟩, ?_, ?_⟩
  · obtain ⟨o, es, ep, t, R⟩ := hS
    exact ⟨o, R.at_⟩
  · rintro h1 h2 ⟨S, m, hS, hm, hk⟩ e
    exact ⟨S, m, hS.keep e, hm, hk⟩
theorem cr_sortSetS {X : Cx} (hc : X.calm = true) : CallR X (.builtin "sorted") (rSortSetS X.prog X.w) := by
  intro pins s σ H vs us Q I r h
  obtain ⟨a, xs, rfl, ha, q⟩ := h
  obtain ⟨⟨S, m, hS, hm, hk⟩, _⟩ := I.hok a _ ha
  rw [Vals.ref1 r]
  refine sorted_of_strset hS (I.ok.hd hc) fun s' p out c ys kp g o hp hg hout srt nd mem hlen => ?_
  have hn : H p = none := I.hok.fresh hp
  have mb : m < scanBound := by
    obtain ⟨o, es, ep, t, R⟩ := hS
    exact R.num ▸ R.room
  have small : (ys.map V.str).length ≤ sizeLine := by rw [List.length_map, hlen]; exact fits_of_scanBound mb
  have J : Inv X pins σ (upd H p (.lst (ys.map V.str))) { s with heap := s'.heap, gens := s'.gens, drawn := s'.drawn, toks := s'.toks } :=
    I.call (ch := []) (Un.laid kp hp hn) (I.hok.laid kp hp ⟨small, out.toList, c, vals_of_strs hout, hg⟩) (by rw [g]; exact I.bare) (fun _ z => nomatch z)
  have e : s' = { s with heap := s'.heap, gens := s'.gens, drawn := s'.drawn, toks := s'.toks } := by
    cases s'; cases s; cases o; rfl
  rw [e]
  exact ⟨.ref p, _, J, rfl, q ys p srt nd (fun k => (mem k).trans (hk k)) hn⟩
end Ag

set_option Elab.async false
set_option linter.all false
set_option maxRecDepth 100000
set_option maxHeartbeats 1000000
/-! Data: what a reading of an expression over plain values gives, with the heap only growing. -/
namespace Ag
open PySem PySem.Spec PyProof.Rows L2

/-! ### heaps that keep -/
theorem _root_.L2.Same.newA {H : Hp} {p : Addr} {o : HO} (h : H p = none) : Same H (upd H p o) := fun a u e => by
  rw [upd_ne (ne_of_none e h)]; exact e
theorem _root_.L2.Same.rdA {H H' : Hp} {a : Addr} {u : HO} (e : Same H H') (h : Rd H a u) : Rd H' a u :=
  h.elim (fun z => .inl (e _ _ z)) fun ⟨o, z⟩ => .inr ⟨o, e _ _ z⟩
theorem _root_.L2.Same.slA {K : PySem.W.Frag} {H H' : Hp} {a : Addr} {xs : List V} (e : Same H H') (h : SqL K H a xs) : SqL K H' a xs := h.imp e.rdA id
theorem _root_.L2.Same.stA {K : PySem.W.Frag} {H H' : Hp} {a : Addr} {xs : List V} (e : Same H H') (h : SqT K H a xs) : SqT K H' a xs := h.imp e.rdA id
theorem _root_.L2.Same.freshA {H H' : Hp} {p : Addr} (e : Same H H') (h : H' p = none) : H p = none := e.free h

/-! ### plain data -/
mutual
theorem dp_mono {K : PySem.W.Frag} {H H' : Hp} (e : Same H H') : ∀ {v : V} {d : PyData}, Dp K H v d → Dp K H' v d
  | _, _, .non => .non
  | _, _, .bl b => .bl b
  | _, _, .int i => .int i
  | _, _, .str x => .str x
  | _, _, .lst h r => .lst (e.slA h) (dps_mono e r)
  | _, _, .tup h r => .tup (e.stA h) (dps_mono e r)
theorem dps_mono {K : PySem.W.Frag} {H H' : Hp} (e : Same H H') : ∀ {vs : List V} {ds : List PyData}, DpAll K H vs ds → DpAll K H' vs ds
  | _, _, .nil => .nil
  | _, _, .cons h r => .cons (dp_mono e h) (dps_mono e r)
end
theorem dps_len {K : PySem.W.Frag} {H : Hp} : ∀ {vs : List V} {ds : List PyData}, DpAll K H vs ds → vs.length = ds.length
  | _, _, .nil => rfl
  | _, _, .cons _ r => by rw [List.length_cons, List.length_cons, dps_len r]
theorem dps_get {K : PySem.W.Frag} {H : Hp} : ∀ {vs : List V} {ds : List PyData} {i : Nat} {d : PyData}, DpAll K H vs ds → ds[i]? = some d → ∃ v, vs[i]? = some v ∧ Dp K H v d
  | _, _, _, _, .nil, h => by simp at h
  | _, _, 0, _, .cons a r, h => by simp at h; subst h; exact ⟨_, rfl, a⟩
  | _, _, i + 1, _, .cons a r, h => by
    obtain ⟨v, e, q⟩ := dps_get (i := i) r (by simpa using h)
    exact ⟨v, by simpa using e, q⟩
theorem dps_get' {K : PySem.W.Frag} {H : Hp} : ∀ {vs : List V} {ds : List PyData} {i : Nat} {v : V}, DpAll K H vs ds → vs[i]? = some v → ∃ d, ds[i]? = some d ∧ Dp K H v d
  | _, _, _, _, .nil, h => by simp at h
  | _, _, 0, _, .cons a r, h => by simp at h; subst h; exact ⟨_, rfl, a⟩
  | _, _, i + 1, _, .cons a r, h => by
    obtain ⟨v, e, q⟩ := dps_get' (i := i) r (by simpa using h)
    exact ⟨v, by simpa using e, q⟩
theorem dps_app {K : PySem.W.Frag} {H : Hp} : ∀ {vs us : List V} {ds es : List PyData}, DpAll K H vs ds → DpAll K H us es → DpAll K H (vs ++ us) (ds ++ es)
  | _, _, _, _, .nil, q => q
  | _, _, _, _, .cons a r, q => .cons a (dps_app r q)
theorem dps_take {K : PySem.W.Frag} {H : Hp} : ∀ {vs : List V} {ds : List PyData} (n : Nat), DpAll K H vs ds → DpAll K H (vs.take n) (ds.take n)
  | _, _, 0, _ => .nil
  | _, _, _ + 1, .nil => .nil
  | _, _, n + 1, .cons a r => .cons a (dps_take n r)
theorem dps_drop {K : PySem.W.Frag} {H : Hp} : ∀ {vs : List V} {ds : List PyData} (n : Nat), DpAll K H vs ds → DpAll K H (vs.drop n) (ds.drop n)
  | _, _, 0, h => h
  | _, _, _ + 1, .nil => .nil
  | _, _, n + 1, .cons _ r => dps_drop n r
theorem dps_strs {K : PySem.W.Frag} {H : Hp} : ∀ (xs : List Str), DpAll K H (xs.map V.str) (xs.map .str)
  | [] => .nil
  | x :: xs => .cons (.str x) (dps_strs xs)
theorem strs_dps {K : PySem.W.Frag} {H : Hp} : ∀ {xs : List Str} {vs : List V}, DpAll K H vs (xs.map .str) → vs = xs.map V.str
  | [], _, h => by cases h; rfl
  | x :: xs, _, h => by
    cases h with
    | cons a r => cases a; rw [strs_dps r]; rfl
theorem ints_dps {K : PySem.W.Frag} {H : Hp} : ∀ {xs : List Int} {vs : List V}, DpAll K H vs (xs.map .int) → vs = xs.map V.int
  | [], _, h => by cases h; rfl
  | x :: xs, _, h => by
    cases h with
    | cons a r => cases a; rw [ints_dps r]; rfl
theorem bls_dps {K : PySem.W.Frag} {H : Hp} : ∀ {xs : List Bool} {vs : List V}, DpAll K H vs (xs.map .bool) → vs = xs.map V.bl
  | [], _, h => by cases h; rfl
  | x :: xs, _, h => by
    cases h with
    | cons a r => cases a; rw [bls_dps r]; rfl


/-! ### data whose lists stand where F allows -/
def KL (K : PySem.W.Frag) (a : Addr) (xs : List V) : Prop := ∃ (o : Obj) (its : Array Value) (n : Nat), K.lookup a = some o ∧ o.cls = .type "list" ∧ o.dict = none ∧ o.data = .seq its n ∧ its.size ≤ sizeLine ∧ Vals xs its.toList
mutual
inductive Df (K : PySem.W.Frag) (F : Addr → Prop) (H : Hp) : V → PyData → Prop
  | non : Df K F H .non .none
  | bl (b : Bool) : Df K F H (.bl b) (.bool b)
  | int (i : Int) : Df K F H (.int i) (.int i)
  | str (x : Str) : Df K F H (.str x) (.str x)
  | lst {a : Addr} {xs : List V} {ds : List PyData} : (Rd H a (.lst xs) ∧ F a) ∨ KL K a xs → DfAll K F H xs ds → Df K F H (.ref a) (.list ds)
  | tup {a : Addr} {xs : List V} {ds : List PyData} : SqT K H a xs → DfAll K F H xs ds → Df K F H (.ref a) (.tuple ds)
inductive DfAll (K : PySem.W.Frag) (F : Addr → Prop) (H : Hp) : List V → List PyData → Prop
  | nil : DfAll K F H [] []
  | cons {v : V} {vs : List V} {d : PyData} {ds : List PyData} : Df K F H v d → DfAll K F H vs ds → DfAll K F H (v :: vs) (d :: ds)
end
section
variable {K : PySem.W.Frag} {F G : Addr → Prop} {H H' : Hp}
mutual
theorem df_dp : ∀ {v : V} {d : PyData}, Df K F H v d → Dp K H v d
  | _, _, .non => .non
  | _, _, .bl b => .bl b
  | _, _, .int i => .int i
  | _, _, .str x => .str x
  | _, _, .lst h r => .lst (h.imp (fun z => z.1) id) (dfs_dps r)
  | _, _, .tup h r => .tup h (dfs_dps r)
theorem dfs_dps : ∀ {vs : List V} {ds : List PyData}, DfAll K F H vs ds → DpAll K H vs ds
  | _, _, .nil => .nil
  | _, _, .cons h r => .cons (df_dp h) (dfs_dps r)
end
mutual
theorem dp_df : ∀ {v : V} {d : PyData}, Dp K H v d → Df K (fun a => H a ≠ none) H v d
  | _, _, .non => .non
  | _, _, .bl b => .bl b
  | _, _, .int i => .int i
  | _, _, .str x => .str x
  | _, _, .lst h r => .lst (h.imp (fun z => ⟨z, by rcases z with z | ⟨o, z⟩ <;> (rw [z]; exact fun q => nomatch q)⟩) id) (dps_dfs r)
  | _, _, .tup h r => .tup h (dps_dfs r)
theorem dps_dfs : ∀ {vs : List V} {ds : List PyData}, DpAll K H vs ds → DfAll K (fun a => H a ≠ none) H vs ds
  | _, _, .nil => .nil
  | _, _, .cons h r => .cons (dp_df h) (dps_dfs r)
end
mutual
theorem df_mono (e : Same H H') (f : ∀ a, F a → G a) : ∀ {v : V} {d : PyData}, Df K F H v d → Df K G H' v d
  | _, _, .non => .non
  | _, _, .bl b => .bl b
  | _, _, .int i => .int i
  | _, _, .str x => .str x
  | _, _, .lst h r => .lst (h.imp (fun z => ⟨e.rdA z.1, f _ z.2⟩) id) (dfs_mono e f r)
  | _, _, .tup h r => .tup (e.stA h) (dfs_mono e f r)
theorem dfs_mono (e : Same H H') (f : ∀ a, F a → G a) : ∀ {vs : List V} {ds : List PyData}, DfAll K F H vs ds → DfAll K G H' vs ds
  | _, _, .nil => .nil
  | _, _, .cons h r => .cons (df_mono e f h) (dfs_mono e f r)
end
theorem rd_other {a D : Addr} {u o : HO} (h : Rd H a u) (n : a ≠ D) : Rd (upd H D o) a u := by
  rcases h with h | ⟨x, h⟩
  · exact .inl (by rw [upd_ne n]; exact h)
  · exact .inr ⟨x, by rw [upd_ne n]; exact h⟩
mutual
/-- a list that the data does not hold is changed -/
theorem df_upd {D : Addr} {ys : List V} {o : HO} (hD : H D = some (.lst ys)) (nf : ¬ F D) : ∀ {v : V} {d : PyData}, Df K F H v d → Df K F (upd H D o) v d
  | _, _, .non => .non
  | _, _, .bl b => .bl b
  | _, _, .int i => .int i
  | _, _, .str x => .str x
  | _, _, .lst h r => .lst (h.imp (fun z => ⟨rd_other z.1 (fun q => nf (q ▸ z.2)), z.2⟩) id) (dfs_upd hD nf r)
  | _, _, .tup h r => .tup (h.imp (fun z => rd_other z (fun q => by
      subst q
      rcases z with z | ⟨x, z⟩ <;> (rw [hD] at z; cases z))) id) (dfs_upd hD nf r)
theorem dfs_upd {D : Addr} {ys : List V} {o : HO} (hD : H D = some (.lst ys)) (nf : ¬ F D) : ∀ {vs : List V} {ds : List PyData}, DfAll K F H vs ds → DfAll K F (upd H D o) vs ds
  | _, _, .nil => .nil
  | _, _, .cons h r => .cons (df_upd hD nf h) (dfs_upd hD nf r)
end
theorem dfs_len : ∀ {vs : List V} {ds : List PyData}, DfAll K F H vs ds → vs.length = ds.length
  | _, _, .nil => rfl
  | _, _, .cons _ r => by rw [List.length_cons, List.length_cons, dfs_len r]
theorem dfs_get : ∀ {vs : List V} {ds : List PyData} {i : Nat} {d : PyData}, DfAll K F H vs ds → ds[i]? = some d → ∃ v, vs[i]? = some v ∧ Df K F H v d
  | _, _, _, _, .nil, h => by simp at h
  | _, _, 0, _, .cons a r, h => by simp at h; subst h; exact ⟨_, rfl, a⟩
  | _, _, i + 1, _, .cons a r, h => by
    obtain ⟨v, e, q⟩ := dfs_get (i := i) r (by simpa using h)
    exact ⟨v, by simpa using e, q⟩
theorem dfs_get' : ∀ {vs : List V} {ds : List PyData} {i : Nat} {v : V}, DfAll K F H vs ds → vs[i]? = some v → ∃ d, ds[i]? = some d ∧ Df K F H v d
  | _, _, _, _, .nil, h => by simp at h
  | _, _, 0, _, .cons a r, h => by simp at h; subst h; exact ⟨_, rfl, a⟩
  | _, _, i + 1, _, .cons a r, h => by
    obtain ⟨d, e, q⟩ := dfs_get' (i := i) r (by simpa using h)
    exact ⟨d, by simpa using e, q⟩
theorem dfs_app : ∀ {vs us : List V} {ds es : List PyData}, DfAll K F H vs ds → DfAll K F H us es → DfAll K F H (vs ++ us) (ds ++ es)
  | _, _, _, _, .nil, q => q
  | _, _, _, _, .cons a r, q => .cons a (dfs_app r q)
theorem dfs_take : ∀ {vs : List V} {ds : List PyData} (n : Nat), DfAll K F H vs ds → DfAll K F H (vs.take n) (ds.take n)
  | _, _, 0, _ => .nil
  | _, _, _ + 1, .nil => .nil
  | _, _, n + 1, .cons a r => .cons a (dfs_take n r)
theorem dfs_drop : ∀ {vs : List V} {ds : List PyData} (n : Nat), DfAll K F H vs ds → DfAll K F H (vs.drop n) (ds.drop n)
  | _, _, 0, h => h
  | _, _, _ + 1, .nil => .nil
  | _, _, n + 1, .cons _ r => dfs_drop n r
theorem dfs_strs : ∀ (xs : List Str), DfAll K F H (xs.map V.str) (xs.map .str)
  | [] => .nil
  | x :: xs => .cons (.str x) (dfs_strs xs)
end
/-- what F allows, or is younger than H1 -/
def Fr (F : Addr → Prop) (H1 : Hp) : Addr → Prop := fun a => F a ∨ H1 a = none
theorem Fr.to {F : Addr → Prop} {H1 H2 : Hp} (s : Same H1 H2) : ∀ a, Fr F H2 a → Fr F H1 a := fun a z => z.imp id fun q => s.freshA q
theorem Fr.base {F : Addr → Prop} {H1 : Hp} : ∀ a, F a → Fr F H1 a := fun a z => .inl z
/-- what stands -/
def nn (H : Hp) : Addr → Prop := fun a => H a ≠ none
/-- all but lists that F does not allow are kept -/
def isLst : HO → Bool | .lst _ => true | _ => false
def SameF (F : Addr → Prop) (H H' : Hp) : Prop := ∀ a u, H a = some u → (F a ∨ isLst u = false) → H' a = some u
theorem SameF.refl {F : Addr → Prop} {H : Hp} : SameF F H H := fun _ _ h _ => h
theorem SameF.trans {F : Addr → Prop} {H H1 H2 : Hp} (a : SameF F H H1) (b : SameF F H1 H2) : SameF F H H2 := fun x u h z => b x u (a x u h z) z
theorem SameF.sub {F G : Addr → Prop} {H H1 : Hp} (a : SameF F H H1) (f : ∀ x, G x → F x) : SameF G H H1 := fun x u h z => a x u h (z.imp (f x) id)
theorem _root_.L2.Same.F {F : Addr → Prop} {H H1 : Hp} (a : Same H H1) : SameF F H H1 := fun x u h _ => a x u h
theorem SameF.upd {F : Addr → Prop} {H : Hp} {D : Addr} {ys : List V} {o : HO} (hD : H D = some (.lst ys)) (nf : ¬ F D) : SameF F H (upd H D o) := fun x u h z => by
  rw [upd_ne (fun q => ?_)]
  · exact h
  · subst q
    rw [hD] at h; cases h
    exact z.elim nf (fun q => nomatch q)
theorem rd_lstF {F : Addr → Prop} {H H1 : Hp} {a : Addr} {xs : List V} (s : SameF F H H1) (h : Rd H a (.lst xs)) (f : F a) : Rd H1 a (.lst xs) := h.elim (fun z => .inl (s _ _ z (.inl f))) fun ⟨o, z⟩ => .inr ⟨o, s _ _ z (.inl f)⟩
theorem sqt_F {K : PySem.W.Frag} {F : Addr → Prop} {H H1 : Hp} {a : Addr} {xs : List V} (s : SameF F H H1) (h : SqT K H a xs) : SqT K H1 a xs := h.imp (fun z => z.elim (fun z => .inl (s _ _ z (.inr rfl))) fun ⟨o, z⟩ => .inr ⟨o, s _ _ z (.inr rfl)⟩) id
mutual
theorem df_monoF {K : PySem.W.Frag} {F : Addr → Prop} {H H1 : Hp} (s : SameF F H H1) : ∀ {v : V} {d : PyData}, Df K F H v d → Df K F H1 v d
  | _, _, .non => .non
  | _, _, .bl b => .bl b
  | _, _, .int i => .int i
  | _, _, .str x => .str x
  | _, _, .lst h r => .lst (h.imp (fun z => ⟨rd_lstF s z.1 z.2, z.2⟩) id) (dfs_monoF s r)
  | _, _, .tup h r => .tup (sqt_F s h) (dfs_monoF s r)
theorem dfs_monoF {K : PySem.W.Frag} {F : Addr → Prop} {H H1 : Hp} (s : SameF F H H1) : ∀ {vs : List V} {ds : List PyData}, DfAll K F H vs ds → DfAll K F H1 vs ds
  | _, _, .nil => .nil
  | _, _, .cons h r => .cons (df_monoF s h) (dfs_monoF s r)
end
/-- a later heap, whose lists allow what stood -/
structure Ext (F : Addr → Prop) (H : Hp) (F2 : Addr → Prop) (H2 : Hp) : Prop where
  same : SameF F H H2
  ok : ∀ a, F a → H a ≠ none → F2 a
theorem Ext.refl {F : Addr → Prop} {H : Hp} : Ext F H F H := ⟨SameF.refl, fun _ h _ => h⟩
mutual
theorem df_in {K : PySem.W.Frag} {F : Addr → Prop} {H : Hp} : ∀ {v : V} {d : PyData}, Df K F H v d → Df K (fun a => F a ∧ H a ≠ none) H v d
  | _, _, .non => .non
  | _, _, .bl b => .bl b
  | _, _, .int i => .int i
  | _, _, .str x => .str x
  | _, _, .lst h r => .lst (h.imp (fun z => ⟨z.1, z.2, by rcases z.1 with z | ⟨o, z⟩ <;> (rw [z]; exact fun q => nomatch q)⟩) id) (dfs_in r)
  | _, _, .tup h r => .tup h (dfs_in r)
theorem dfs_in {K : PySem.W.Frag} {F : Addr → Prop} {H : Hp} : ∀ {vs : List V} {ds : List PyData}, DfAll K F H vs ds → DfAll K (fun a => F a ∧ H a ≠ none) H vs ds
  | _, _, .nil => .nil
  | _, _, .cons h r => .cons (df_in h) (dfs_in r)
end
theorem df_ext {K : PySem.W.Frag} {F F2 : Addr → Prop} {H H2 : Hp} {v : V} {d : PyData} (e : Ext F H F2 H2) (h : Df K F H v d) : Df K F2 H2 v d := df_mono (Same.refl _) (fun a z => e.ok a z.1 z.2) (df_monoF (e.same.sub fun _ z => z.1) (df_in h))
theorem dfs_ext {K : PySem.W.Frag} {F F2 : Addr → Prop} {H H2 : Hp} {v : List V} {d : List PyData} (e : Ext F H F2 H2) (h : DfAll K F H v d) : DfAll K F2 H2 v d := dfs_mono (Same.refl _) (fun a z => e.ok a z.1 z.2) (dfs_monoF (e.same.sub fun _ z => z.1) (dfs_in h))

theorem small5 {n : Nat} (h : n ≤ 100000) : n ≤ sizeLine := Nat.le_trans h (by decide)
theorem lt5 {n : Nat} (h : n < 100000) : n < sizeLine := Nat.lt_of_lt_of_le h (by decide)

/-! ### what evaluates to what, the heap growing -/
def ED (K : PySem.W.Frag) (te : TE) (σ : L2.St) (F : Addr → Prop) (H : Hp) (d : PyData) : Prop := ∀ H1, Same H H1 → ∀ Q : VK, (∀ v H2, Same H1 H2 → Df K (Fr F H1) H2 v d → Q v H2) → te σ H1 Q
def ET (tt : TT) (σ : L2.St) (H : Hp) (b : Bool) : Prop := ∀ H1, Same H H1 → ∀ Q : Bool → Hp → Prop, (∀ H2, Same H1 H2 → Q b H2) → tt σ H1 Q
def EA (K : PySem.W.Frag) (ta : TA) (σ : L2.St) (F : Addr → Prop) (H : Hp) (ds : List PyData) : Prop := ∀ H1, Same H H1 → ∀ Q : List V → Hp → Prop, (∀ vs H2, Same H1 H2 → DfAll K (Fr F H1) H2 vs ds → Q vs H2) → ta σ H1 Q
def EO (to : TO) (σ : L2.St) (H : Hp) (o : Option Int) : Prop := ∀ H1, Same H H1 → ∀ Q : Option Int → Hp → Prop, (∀ H2, Same H1 H2 → Q o H2) → to σ H1 Q

section
variable {K : PySem.W.Frag} {σ : L2.St} {F : Addr → Prop} {H H' : Hp} {ta tb te tc : TE} {t u : TT} {d e : PyData}
theorem ED.mono (s : Same H H') (h : ED K te σ F H d) : ED K te σ F H' d := fun H1 a Q q => h H1 (s.trans a) Q q
theorem ET.mono {b : Bool} (s : Same H H') (h : ET t σ H b) : ET t σ H' b := fun H1 a Q q => h H1 (s.trans a) Q q
theorem ed_var {i : Nat} {v : V} (h : σ[i]? = some (some v)) (hd : Df K F H v d) : ED K (tVar i) σ F H d := fun H1 s Q q => ⟨v, h, q v H1 (Same.refl _) (df_mono s Fr.base hd)⟩
theorem ed_c {v : V} (hd : ∀ F H, Df K F H v d) : ED K (tC v) σ F H d := fun H1 _ _ q => q v H1 (Same.refl _) (hd _ H1)
theorem ed_int {i : Int} : ED K (tC (.int i)) σ F H (.int i) := ed_c fun _ _ => .int i
theorem ed_str {x : Str} : ED K (tC (.str x)) σ F H (.str x) := ed_c fun _ _ => .str x
theorem ed_bl {b : Bool} : ED K (tC (.bl b)) σ F H (.bool b) := ed_c fun _ _ => .bl b
theorem ed_non : ED K (tC .non) σ F H .none := ed_c fun _ _ => .non
theorem ea_nil : EA K tNil σ F H [] := fun H1 _ _ q => q [] H1 (Same.refl _) .nil
theorem ea_cons {tr : TA} {ds : List PyData} (h : ED K te σ F H d) (r : EA K tr σ F H ds) : EA K (tCons te tr) σ F H (d :: ds) := fun H1 s Q q =>
  h H1 s _ fun v H2 s2 hv => r H2 (s.trans s2) _ fun vs H3 s3 hvs => q (v :: vs) H3 (s2.trans s3) (.cons (df_mono s3 (fun _ z => z) hv) (dfs_mono (Same.refl _) (Fr.to s2) hvs))
theorem ed_tup {ta : TA} {ds : List PyData} (h : EA K ta σ F H ds) (hl : ds.length ≤ 100000) : ED K (tTup ta) σ F H (.tuple ds) := fun H1 s Q q =>
  h H1 s _ fun vs H2 s2 hv => ⟨by rw [dfs_len hv]; exact small5 hl, fun p hp => q _ _ (s2.trans (Same.newA hp)) (.tup (.of upd_same) (dfs_mono (Same.newA hp) (fun _ z => z) hv))⟩
theorem ed_lst {ta : TA} {ds : List PyData} (h : EA K ta σ F H ds) (hl : ds.length ≤ 100000) : ED K (tLst ta) σ F H (.list ds) := fun H1 s Q q =>
  h H1 s _ fun vs H2 s2 hv => ⟨by rw [dfs_len hv]; exact small5 hl, fun p hp => q _ _ (s2.trans (Same.newA hp)) (.lst (.inl ⟨.inl upd_same, .inr (s2.freshA hp)⟩) (dfs_mono (Same.newA hp) (fun _ z => z) hv))⟩

/-- an operation of two values, read by its rule -/
def RD (K : PySem.W.Frag) (r : R2) (d e f : PyData) : Prop := ∀ (F : Addr → Prop) x y H1, Df K F H1 x d → Df K F H1 y e → ∀ Q : VK, (∀ v H2, Same H1 H2 → Df K (fun a => F a ∨ H1 a = none) H2 v f → Q v H2) → r x y H1 Q
theorem ed_op {r : R2} {f : PyData} (ha : ED K ta σ F H d) (hb : ED K tb σ F H e) (hr : RD K r d e f) : ED K (tOp r ta tb) σ F H f := fun H1 s Q q =>
  ha H1 s _ fun x H2 s2 hx => hb H2 (s.trans s2) _ fun y H3 s3 hy => hr (Fr F H1) x y H3 (df_mono s3 (fun _ z => z) hx) (df_mono (Same.refl _) (Fr.to s2) hy) Q fun v H4 s4 hv =>
    q v H4 ((s2.trans s3).trans s4) (df_mono (Same.refl _) (fun _ z => z.elim id fun e => .inr ((s2.trans s3).freshA e)) hv)
theorem rd_int {C : Int → Int → Prop} {g : Int → Int → Int} {i j : Int} (hc : C i j) : RD K (rI C fun i j => .int (g i j)) (.int i) (.int j) (.int (g i j)) := fun F x y H1 hx hy Q q => by
  cases hx; cases hy; exact ⟨i, j, rfl, rfl, hc, q _ _ (Same.refl _) (.int _)⟩
theorem rd_int0 {g : Int → Int → Int} {i j : Int} : RD K (rI0 fun i j => .int (g i j)) (.int i) (.int j) (.int (g i j)) := fun F x y H1 hx hy Q q => by
  cases hx; cases hy; exact ⟨i, j, rfl, rfl, q _ _ (Same.refl _) (.int _)⟩
theorem rd_cmp {g : Int → Int → Bool} {i j : Int} : RD K (rI0 fun i j => .bl (g i j)) (.int i) (.int j) (.bool (g i j)) := fun F x y H1 hx hy Q q => by
  cases hx; cases hy; exact ⟨i, j, rfl, rfl, q _ _ (Same.refl _) (.bl _)⟩
theorem ed_add {i j : Int} (ha : ED K ta σ F H (.int i)) (hb : ED K tb σ F H (.int j)) : ED K (tOp (rI0 fun i j => .int (i + j)) ta tb) σ F H (.int (i + j)) := ed_op ha hb rd_int0
theorem ed_sub {i j : Int} (ha : ED K ta σ F H (.int i)) (hb : ED K tb σ F H (.int j)) : ED K (tOp (rI0 fun i j => .int (i - j)) ta tb) σ F H (.int (i - j)) := ed_op ha hb rd_int0
theorem ed_lt {i j : Int} (ha : ED K ta σ F H (.int i)) (hb : ED K tb σ F H (.int j)) : ED K (tOp (rI0 fun i j => .bl (decide (i < j))) ta tb) σ F H (.bool (decide (i < j))) := ed_op ha hb rd_cmp
theorem ed_le {i j : Int} (ha : ED K ta σ F H (.int i)) (hb : ED K tb σ F H (.int j)) : ED K (tOp (rI0 fun i j => .bl (decide (i ≤ j))) ta tb) σ F H (.bool (decide (i ≤ j))) := ed_op ha hb rd_cmp
theorem ed_gt {i j : Int} (ha : ED K ta σ F H (.int i)) (hb : ED K tb σ F H (.int j)) : ED K (tOp (rI0 fun i j => .bl (decide (j < i))) ta tb) σ F H (.bool (decide (j < i))) := ed_op ha hb rd_cmp
theorem ed_ge {i j : Int} (ha : ED K ta σ F H (.int i)) (hb : ED K tb σ F H (.int j)) : ED K (tOp (rI0 fun i j => .bl (decide (j ≤ i))) ta tb) σ F H (.bool (decide (j ≤ i))) := ed_op ha hb rd_cmp
theorem ed_eqD (ha : ED K ta σ F H d) (hb : ED K tb σ F H e) (h1 : SeqAt.shaped d = true) (h2 : SeqAt.shaped e = true) : ED K (tOp (rEqD K) ta tb) σ F H (.bool (PyData.eqv d e)) :=
  ed_op ha hb fun F x y H1 hx hy Q q => ⟨d, e, df_dp hx, df_dp hy, h1, h2, q _ _ (Same.refl _) (.bl _)⟩
theorem ed_neD (ha : ED K ta σ F H d) (hb : ED K tb σ F H e) (h1 : SeqAt.shaped d = true) (h2 : SeqAt.shaped e = true) : ED K (tOp (rNeD K) ta tb) σ F H (.bool (!PyData.eqv d e)) :=
  ed_op ha hb fun F x y H1 hx hy Q q => ⟨d, e, df_dp hx, df_dp hy, h1, h2, q _ _ (Same.refl _) (.bl _)⟩
theorem ed_eqS {x y : Str} (ha : ED K ta σ F H (.str x)) (hb : ED K tb σ F H (.str y)) : ED K (tOp rEq ta tb) σ F H (.bool (decide (x = y))) :=
  ed_op ha hb fun F a b H1 hx hy Q q => by
    cases hx; cases hy
    refine ⟨rfl, ?_⟩
    have e : decide (V.str x = V.str y) = decide (x = y) := by
      by_cases z : x = y
      · rw [decide_eq_true z, decide_eq_true (congrArg V.str z)]
      · rw [decide_eq_false z, decide_eq_false (fun q => z (V.str.inj q))]
    rw [e]; exact q _ _ (Same.refl _) (.bl _)
theorem ed_eqI {x y : Int} (ha : ED K ta σ F H (.int x)) (hb : ED K tb σ F H (.int y)) : ED K (tOp rEq ta tb) σ F H (.bool (decide (x = y))) :=
  ed_op ha hb fun F a b H1 hx hy Q q => by
    cases hx; cases hy
    refine ⟨rfl, ?_⟩
    have e : decide (V.int x = V.int y) = decide (x = y) := by
      by_cases z : x = y
      · rw [decide_eq_true z, decide_eq_true (congrArg V.int z)]
      · rw [decide_eq_false z, decide_eq_false (fun q => z (V.int.inj q))]
    rw [e]; exact q _ _ (Same.refl _) (.bl _)
theorem ed_neS {x y : Str} (ha : ED K ta σ F H (.str x)) (hb : ED K tb σ F H (.str y)) : ED K (tOp rNe ta tb) σ F H (.bool (!decide (x = y))) :=
  ed_op ha hb fun F a b H1 hx hy Q q => by
    cases hx; cases hy
    refine ⟨rfl, ?_⟩
    have e : decide (V.str x = V.str y) = decide (x = y) := by
      by_cases z : x = y
      · rw [decide_eq_true z, decide_eq_true (congrArg V.str z)]
      · rw [decide_eq_false z, decide_eq_false (fun q => z (V.str.inj q))]
    rw [e]; exact q _ _ (Same.refl _) (.bl _)
theorem ed_neI {x y : Int} (ha : ED K ta σ F H (.int x)) (hb : ED K tb σ F H (.int y)) : ED K (tOp rNe ta tb) σ F H (.bool (!decide (x = y))) :=
  ed_op ha hb fun F a b H1 hx hy Q q => by
    cases hx; cases hy
    refine ⟨rfl, ?_⟩
    have e : decide (V.int x = V.int y) = decide (x = y) := by
      by_cases z : x = y
      · rw [decide_eq_true z, decide_eq_true (congrArg V.int z)]
      · rw [decide_eq_false z, decide_eq_false (fun q => z (V.int.inj q))]
    rw [e]; exact q _ _ (Same.refl _) (.bl _)
theorem ed_catS {x y : Str} (ha : ED K ta σ F H (.str x)) (hb : ED K tb σ F H (.str y)) (hl : x.length + y.length ≤ 100000) :
    ED K (tOp (fun x y H Q => ∃ i j, x = .str i ∧ y = .str j ∧ i.length + j.length ≤ sizeLine ∧ Q (.str (i ++ j)) H) ta tb) σ F H (.str (x ++ y)) :=
  ed_op ha hb fun F a b H1 hx hy Q q => by
    cases hx; cases hy; exact ⟨x, y, rfl, rfl, small5 hl, q _ _ (Same.refl _) (.str _)⟩
/-- x is None -/
def isNone : PyData → Bool | .none => true | _ => false
theorem isN_of {F : Addr → Prop} {H : Hp} {x : V} (h : Df K F H x d) : decide (x = .non) = isNone d := by cases h <;> rfl
theorem ed_isN (ha : ED K ta σ F H d) : ED K (tOp (fun x y H Q => y = .non ∧ Q (.bl (decide (x = .non))) H) ta (tC .non)) σ F H (.bool (isNone d)) :=
  ed_op ha ed_non fun F a b H1 hx hy Q q => by
    cases hy; refine ⟨rfl, ?_⟩; rw [isN_of hx]; exact q _ _ (Same.refl _) (.bl _)
/-- a written item of a list, a tuple, a text -/
theorem ed_ixT {ds : List PyData} {j : Nat} (ha : ED K ta σ F H (.tuple ds)) (hb : ED K tb σ F H (.int j)) (h : ds[j]? = some d) : ED K (tOp (rIx K) ta tb) σ F H d :=
  ed_op ha hb fun F a b H1 hx hy Q q => by
    cases hy
    cases hx with
    | tup hs r =>
      obtain ⟨v, e, hv⟩ := dfs_get r h
      exact .inr (.inl ⟨_, _, _, v, rfl, rfl, hs, atI_nat e, q _ _ (Same.refl _) (df_mono (Same.refl _) (fun _ z => .inl z) hv)⟩)
theorem ed_ixL {ds : List PyData} {j : Nat} (ha : ED K ta σ F H (.list ds)) (hb : ED K tb σ F H (.int j)) (h : ds[j]? = some d) : ED K (tOp (rIx K) ta tb) σ F H d :=
  ed_op ha hb fun F a b H1 hx hy Q q => by
    cases hy
    cases hx with
    | lst hs r =>
      obtain ⟨v, e, hv⟩ := dfs_get r h
      exact .inl ⟨_, _, _, v, rfl, rfl, hs.imp (fun z => z.1) id, atI_nat e, q _ _ (Same.refl _) (df_mono (Same.refl _) (fun _ z => .inl z) hv)⟩
theorem ed_ixS {x : Str} {j c : Nat} (ha : ED K ta σ F H (.str x)) (hb : ED K tb σ F H (.int j)) (hl : x.length ≤ 100000) (h : x.cps.toList[j]? = some c) : ED K (tOp (rIx K) ta tb) σ F H (.str ⟨#[c]⟩) :=
  ed_op ha hb fun F a b H1 hx hy Q q => by
    cases hy; cases hx
    exact .inr (.inr ⟨_, _, c, rfl, rfl, small5 hl, atI_nat h, q _ _ (Same.refl _) (.str _)⟩)

/-! ### tests -/
theorem et_test {b : Bool} (h : ED K te σ F H (.bool b)) : ET (tTest te) σ H b := fun H1 s Q q => h H1 s _ fun v H2 s2 hv => by
  cases hv; exact ⟨b, rfl, q H2 s2⟩
theorem et_B {b : Bool} (h : ED K te σ F H (.bool b)) : ET (tB te) σ H b := fun H1 s Q q => h H1 s _ fun v H2 s2 hv => by
  cases hv; exact ⟨b, rfl, q H2 s2⟩
theorem et_and {a b : Bool} (h1 : ET t σ H a) (h2 : a = true → ET u σ H b) : ET (tAnd t u) σ H (a && b) := fun H1 s Q q => h1 H1 s _ fun H2 s2 => by
  cases a with
  | true => exact h2 rfl H2 (s.trans s2) Q fun H3 s3 => q H3 (s2.trans s3)
  | false => exact q H2 s2
theorem et_or {a b : Bool} (h1 : ET t σ H a) (h2 : a = false → ET u σ H b) : ET (tOr t u) σ H (a || b) := fun H1 s Q q => h1 H1 s _ fun H2 s2 => by
  cases a with
  | true => exact q H2 s2
  | false => exact h2 rfl H2 (s.trans s2) Q fun H3 s3 => q H3 (s2.trans s3)
theorem et_not {a : Bool} (h1 : ET t σ H a) : ET (tNot t) σ H (!a) := fun H1 s Q q => h1 H1 s _ fun H2 s2 => q H2 s2
theorem et_is {a b : Bool} (h : ET t σ H a) (e : a = b) : ET t σ H b := e ▸ h
theorem ed_is (h : ED K te σ F H d) (z : d = e) : ED K te σ F H e := z ▸ h
theorem ed_andV {a b : Bool} (h1 : ED K ta σ F H (.bool a)) (h2 : a = true → ED K tb σ F H (.bool b)) : ED K (tAndV ta tb) σ F H (.bool (a && b)) := fun H1 s Q q => h1 H1 s _ fun v H2 s2 hv => by
  cases hv
  refine ⟨a, rfl, ?_⟩
  cases a with
  | true => exact h2 rfl H2 (s.trans s2) Q fun v H3 s3 hv => q v H3 (s2.trans s3) (df_mono (Same.refl _) (Fr.to s2) hv)
  | false => exact q _ H2 s2 (.bl _)
theorem ed_orV {a b : Bool} (h1 : ED K ta σ F H (.bool a)) (h2 : a = false → ED K tb σ F H (.bool b)) : ED K (tOrV ta tb) σ F H (.bool (a || b)) := fun H1 s Q q => h1 H1 s _ fun v H2 s2 hv => by
  cases hv
  refine ⟨a, rfl, ?_⟩
  cases a with
  | true => exact q _ H2 s2 (.bl _)
  | false => exact h2 rfl H2 (s.trans s2) Q fun v H3 s3 hv => q v H3 (s2.trans s3) (df_mono (Same.refl _) (Fr.to s2) hv)
theorem ed_notV {a : Bool} (h1 : ED K ta σ F H (.bool a)) : ED K (tNotV ta) σ F H (.bool (!a)) := fun H1 s Q q => h1 H1 s _ fun v H2 s2 hv => by
  cases hv; exact ⟨a, rfl, q _ H2 s2 (.bl _)⟩
theorem ed_if {b : Bool} (h : ET t σ H b) (h1 : b = true → ED K ta σ F H d) (h2 : b = false → ED K tb σ F H d) : ED K (tIf t ta tb) σ F H d := fun H1 s Q q => h H1 s _ fun H2 s2 => by
  cases b with
  | true => exact h1 rfl H2 (s.trans s2) Q fun v H3 s3 hv => q v H3 (s2.trans s3) (df_mono (Same.refl _) (Fr.to s2) hv)
  | false => exact h2 rfl H2 (s.trans s2) Q fun v H3 s3 hv => q v H3 (s2.trans s3) (df_mono (Same.refl _) (Fr.to s2) hv)
theorem ed_chain {r r' : R2} {a b : Bool} {f : PyData} (ha : ED K ta σ F H d) (hb : ED K tb σ F H e) (hc : ED K tc σ F H f) (h1 : RD K r d e (.bool a)) (h2 : a = true → RD K r' e f (.bool b)) :
    ED K (tChain r r' ta tb tc) σ F H (.bool (a && b)) := fun H1 s Q q =>
  ha H1 s _ fun x H2 s2 hx => hb H2 (s.trans s2) _ fun y H3 s3 hy => h1 (fun _ => True) x y H3 (df_mono s3 (fun _ _ => trivial) hx) (df_mono (Same.refl _) (fun _ _ => trivial) hy) _ fun z H4 s4 hz => by
    cases hz
    refine ⟨a, rfl, ?_⟩
    cases a with
    | true =>
      refine hc H4 (((s.trans s2).trans s3).trans s4) _ fun w H5 s5 hw => h2 rfl (fun _ => True) y w H5 (df_mono (s4.trans s5) (fun _ _ => trivial) hy) (df_mono (Same.refl _) (fun _ _ => trivial) hw) Q fun v H6 s6 hv => ?_
      cases hv
      exact q _ H6 ((((s2.trans s3).trans s4).trans s5).trans s6) (.bl _)
    | false => exact q _ H4 ((s2.trans s3).trans s4) (.bl _)

/-! ### built-in calls -/
def RDC (K : PySem.W.Frag) (r : List V → Hp → VK → Prop) (ds : List PyData) (f : PyData) : Prop := ∀ (F : Addr → Prop) vs H1, DfAll K F H1 vs ds → ∀ Q : VK, (∀ v H2, Same H1 H2 → Df K (fun a => F a ∨ H1 a = none) H2 v f → Q v H2) → r vs H1 Q
theorem ed_cb {r : List V → Hp → VK → Prop} {ta : TA} {ds : List PyData} (h : EA K ta σ F H ds) (hr : RDC K r ds d) : ED K (tCB r ta) σ F H d := fun H1 s Q q =>
  h H1 s _ fun vs H2 s2 hv => hr (Fr F H1) vs H2 hv Q fun v H3 s3 hv3 => q v H3 (s2.trans s3) (df_mono (Same.refl _) (fun _ z => z.elim id fun e => .inr (s2.freshA e)) hv3)
theorem ed_call {sp : Sp} {E : XK} {ta : TA} {ds : List PyData} (h : EA K ta σ F H ds) (hr : RDC K (fun vs H Q => sp vs H Q E) ds d) : ED K (tCall sp [] E ta) σ F H d := fun H1 s Q q =>
  h H1 s _ fun vs H2 s2 hv => by
    show sp (vs ++ []) H2 Q E
    rw [List.append_nil]
    exact hr (Fr F H1) vs H2 hv Q fun v H3 s3 hv3 => q v H3 (s2.trans s3) (df_mono (Same.refl _) (fun _ z => z.elim id fun e => .inr (s2.freshA e)) hv3)
/-- len of data -/
def lenP : PyData → Nat | .list ds => ds.length | .tuple ds => ds.length | .str x => x.length | _ => 0
def hasLen : PyData → Bool | .list _ => true | .tuple _ => true | .str x => decide (x.length ≤ 100000) | _ => false
theorem rdc_len (h : hasLen d = true) : RDC K (fun xs H Q => ∃ x n, xs = [x] ∧ LenV K x H n ∧ Q (.int n) H) [d] (.int (lenP d : Int)) := fun F vs H1 hv Q q => by
  cases hv with
  | cons a r =>
    cases r
    refine ⟨_, lenP d, rfl, ?_, q _ _ (Same.refl _) (.int _)⟩
    cases a with
    | lst hs r => exact .inl ⟨_, hs.imp (fun z => z.1) id, (dfs_len r).symm⟩
    | tup hs r => exact .inr ⟨_, hs, (dfs_len r).symm⟩
    | str x => exact ⟨small5 (of_decide_eq_true h), rfl⟩
    | _ => cases h
theorem ed_len (ha : ED K ta σ F H d) (h : hasLen d = true) : ED K (tCB (fun xs H Q => ∃ x n, xs = [x] ∧ LenV K x H n ∧ Q (.int n) H) (tCons ta tNil)) σ F H (.int (lenP d : Int)) := ed_cb (ea_cons ha ea_nil) (rdc_len h)
/-- isinstance of data -/
def tyName : PyData → String | .none => "NoneType" | .bool _ => "bool" | .int _ => "int" | .str _ => "str" | .list _ => "list" | .tuple _ => "tuple" | .dict _ => "dict"
theorem tyx_of {H : Hp} {x : V} (h : Dp K H x d) : TyX K H x (.type (tyName d)) := by
  cases h with
  | non => exact .base .non
  | bl b => exact .base (.bl b)
  | int i => exact .base (.int i)
  | str x => exact .base (.str x)
  | lst hs r =>
    rcases hs with (h | ⟨o, h⟩) | ⟨o, its, n, hk, hc, _⟩
    · exact .base (.lst h)
    · exact .base (.frz h)
    · exact .kList hk hc
  | tup hs r =>
    rcases hs with (h | ⟨o, h⟩) | ⟨o, its, n, hk, hc, _⟩
    · exact .base (.tup h)
    · exact .fTuple h
    · exact .kTuple hk hc
def isiB (T : String) : PyData → Bool
  | .none => false | .bool _ => T == "bool" || T == "int" | .int _ => T == "int" | .str _ => T == "str" | .list _ => T == "list" | .tuple _ => T == "tuple" | .dict _ => T == "dict"
theorem kit_all {T : String} (hT : T = "str" ∨ T = "tuple" ∨ T = "list" ∨ T = "int" ∨ T = "bool") {H : Hp} {x : V} (h : Dp K H x d) : PySem.W.kitOne K (.type (tyName d)) (.type T) = some (isiB T d) := by
  rcases hT with rfl | rfl | rfl | rfl | rfl
  · cases h with
    | non => exact kit_ty (show kitB "NoneType" "str" = some false by decide +kernel)
    | bl b => exact kit_ty (show kitB "bool" "str" = some false by decide +kernel)
    | int i => exact kit_ty (show kitB "int" "str" = some false by decide +kernel)
    | str x => exact kit_ty (show kitB "str" "str" = some true by decide +kernel)
    | lst hs r => exact kit_ty (show kitB "list" "str" = some false by decide +kernel)
    | tup hs r => exact kit_ty (show kitB "tuple" "str" = some false by decide +kernel)
  · cases h with
    | non => exact kit_ty (show kitB "NoneType" "tuple" = some false by decide +kernel)
    | bl b => exact kit_ty (show kitB "bool" "tuple" = some false by decide +kernel)
    | int i => exact kit_ty (show kitB "int" "tuple" = some false by decide +kernel)
    | str x => exact kit_ty (show kitB "str" "tuple" = some false by decide +kernel)
    | lst hs r => exact kit_ty (show kitB "list" "tuple" = some false by decide +kernel)
    | tup hs r => exact kit_ty (show kitB "tuple" "tuple" = some true by decide +kernel)
  · cases h with
    | non => exact kit_ty (show kitB "NoneType" "list" = some false by decide +kernel)
    | bl b => exact kit_ty (show kitB "bool" "list" = some false by decide +kernel)
    | int i => exact kit_ty (show kitB "int" "list" = some false by decide +kernel)
    | str x => exact kit_ty (show kitB "str" "list" = some false by decide +kernel)
    | lst hs r => exact kit_ty (show kitB "list" "list" = some true by decide +kernel)
    | tup hs r => exact kit_ty (show kitB "tuple" "list" = some false by decide +kernel)
  · cases h with
    | non => exact kit_ty (show kitB "NoneType" "int" = some false by decide +kernel)
    | bl b => exact kit_ty (show kitB "bool" "int" = some true by decide +kernel)
    | int i => exact kit_ty (show kitB "int" "int" = some true by decide +kernel)
    | str x => exact kit_ty (show kitB "str" "int" = some false by decide +kernel)
    | lst hs r => exact kit_ty (show kitB "list" "int" = some false by decide +kernel)
    | tup hs r => exact kit_ty (show kitB "tuple" "int" = some false by decide +kernel)
  · cases h with
    | non => exact kit_ty (show kitB "NoneType" "bool" = some false by decide +kernel)
    | bl b => exact kit_ty (show kitB "bool" "bool" = some true by decide +kernel)
    | int i => exact kit_ty (show kitB "int" "bool" = some false by decide +kernel)
    | str x => exact kit_ty (show kitB "str" "bool" = some false by decide +kernel)
    | lst hs r => exact kit_ty (show kitB "list" "bool" = some false by decide +kernel)
    | tup hs r => exact kit_ty (show kitB "tuple" "bool" = some false by decide +kernel)
theorem ed_isi {T : String} (ha : ED K ta σ F H d) (hT : T = "str" ∨ T = "tuple" ∨ T = "list" ∨ T = "int" ∨ T = "bool") : ED K (tCB (rIsi K) (tCons ta (tCons (tC (.ty T)) tNil))) σ F H (.bool (isiB T d)) := fun H1 s Q q =>
  ha H1 s _ fun x H2 s2 hx => ⟨x, .ty T, _, _, _, rfl, .ty T, tyx_of (df_dp hx), kit_all hT (df_dp hx), q _ _ s2 (.bl _)⟩
/-- all, any of bools -/
theorem ed_all {bs : List Bool} (ha : ED K ta σ F H (.list (bs.map .bool))) : ED K (tCB (rAll K) (tCons ta tNil)) σ F H (.bool (bs.all id)) := ed_cb (ea_cons ha ea_nil) fun F vs H1 hv Q q => by
  cases hv with
  | cons a r =>
    cases r
    cases a with
    | lst hs r => rw [bls_dps (dfs_dps r)] at hs; exact ⟨_, bs, rfl, hs.imp (fun z => z.1) id, q _ _ (Same.refl _) (.bl _)⟩
theorem ed_sum {ns : List Int} (ha : ED K ta σ F H (.list (ns.map .int))) : ED K (tCB (rSum K) (tCons ta tNil)) σ F H (.int ns.sum) := ed_cb (ea_cons ha ea_nil) fun F vs H1 hv Q q => by
  cases hv with
  | cons a r =>
    cases r
    cases a with
    | lst hs r => rw [ints_dps (dfs_dps r)] at hs; exact ⟨_, ns, rfl, hs.imp (fun z => z.1) id, q _ _ (Same.refl _) (.int _)⟩
/-- tuple(xs), list(xs) -/
def seqOf : PyData → List PyData | .list ds => ds | .tuple ds => ds | _ => []
def isSeq : PyData → Bool | .list _ => true | .tuple _ => true | _ => false
theorem ed_tupleOf (ha : ED K ta σ F H d) (h : isSeq d = true) : ED K (tCB (fun xs H Q => ∃ p ys, xs = [.ref p] ∧ ((SqL K H p ys ∧ ∀ l, H l = none → Q (.ref l) (upd H l (.tup ys))) ∨ (SqT K H p ys ∧ Q (.ref p) H))) (tCons ta tNil)) σ F H (.tuple (seqOf d)) := ed_cb (ea_cons ha ea_nil) fun F vs H1 hv Q q => by
  cases hv with
  | cons a r =>
    cases r
    cases a with
    | lst hs r => exact ⟨_, _, rfl, .inl ⟨hs.imp (fun z => z.1) id, fun l hl => q _ _ (Same.newA hl) (.tup (.of upd_same) (dfs_mono (Same.newA hl) (fun _ z => .inl z) r))⟩⟩
    | tup hs r => exact ⟨_, _, rfl, .inr ⟨hs, q _ _ (Same.refl _) (.tup hs (dfs_mono (Same.refl _) (fun _ z => .inl z) r))⟩⟩
    | _ => cases h
theorem ed_listOf (ha : ED K ta σ F H d) (h : isSeq d = true) : ED K (tCB (fun xs H Q => ∃ p ys, xs = [.ref p] ∧ (SqL K H p ys ∨ SqT K H p ys) ∧ ∀ l, H l = none → Q (.ref l) (upd H l (.lst ys))) (tCons ta tNil)) σ F H (.list (seqOf d)) := ed_cb (ea_cons ha ea_nil) fun F vs H1 hv Q q => by
  cases hv with
  | cons a r =>
    cases r
    cases a with
    | lst hs r => exact ⟨_, _, rfl, .inl (hs.imp (fun z => z.1) id), fun l hl => q _ _ (Same.newA hl) (.lst (.inl ⟨.inl upd_same, .inr hl⟩) (dfs_mono (Same.newA hl) (fun _ z => .inl z) r))⟩
    | tup hs r => exact ⟨_, _, rfl, .inr hs, fun l hl => q _ _ (Same.newA hl) (.lst (.inl ⟨.inl upd_same, .inr hl⟩) (dfs_mono (Same.newA hl) (fun _ z => .inl z) r))⟩
    | _ => cases h
end
end Ag

set_option Elab.async false
set_option linter.all false
set_option maxRecDepth 100000
set_option maxHeartbeats 1000000
/-! The end of a law row, the law run at the caller's very surroundings (so that nothing is being shown there), with tables of code objects. -/
namespace Ag
open PySem PySem.Spec PyProof.Rows L2 LamX
def emptyT : Obj := { cls := .none, data := .fields #[] }
/-- what is tracked ahead of the law: the script, unless it is written, and the tables -/
def lawH (a : Addr) (tabs : List Addr) (o : Obj) (xs : List V) (wr : Bool) : Hp := fun b => if b ∈ tabs then some (.tbl #[]) else if b = a ∧ wr = false then some (.frz o (.lst xs)) else none
section
variable {a b : Addr} {tabs : List Addr} {o : Obj} {xs : List V} {wr : Bool} {u : HO}
theorem lawH_tab (h : b ∈ tabs) : lawH a tabs o xs wr b = some (.tbl #[]) := if_pos h
theorem lawH_at (h : a ∉ tabs) : lawH a tabs o xs false a = some (.frz o (.lst xs)) := by
  unfold lawH; rw [if_neg h, if_pos ⟨rfl, rfl⟩]
theorem lawH_cases (h : lawH a tabs o xs wr b = some u) : (b ∈ tabs ∧ u = .tbl #[]) ∨ (b = a ∧ wr = false ∧ b ∉ tabs ∧ u = .frz o (.lst xs)) := by
  unfold lawH at h
  by_cases h1 : b ∈ tabs
  · rw [if_pos h1] at h; cases h; exact .inl ⟨h1, rfl⟩
  · rw [if_neg h1] at h
    by_cases h2 : b = a ∧ wr = false
    · rw [if_pos h2] at h; cases h; exact .inr ⟨h2.1, h2.2, h1, rfl⟩
    · rw [if_neg h2] at h; cases h
theorem lawH_none (h : lawH a tabs o xs wr b = none) : b ∉ tabs := fun z => by rw [lawH_tab z] at h; cases h
end
/-- the law's call: F tells what it does over a heap in which just the script and the tables are tracked -/
theorem law_callG {P : Program} {w : World} {K : PySem.W.Frag} {mg mb : Str → Option Value} {fa a : Addr} {cs : List (Addr × Addr)} {s₁ : Shared} {vs : List Value} {ns : List Int}
    (KX : K.In s₁.heap) (hns : s₁.heap.Ns mainGlobals mg) (hb : s₁.heap.Ns builtinsNs mb) (hbb : ∀ x : Str, x ≠ "__name__" → mb x = bootBuiltins x) (hlim : s₁.heap.NoLimit) (hg : s₁.gens = #[])
    (hT : ∀ p ∈ cs, s₁.heap.get? p.2 = some emptyT) (nT : ∀ p ∈ cs, K.lookup p.2 = none) (C : ∀ p ∈ cs, PySem.W.CodeHd s₁.heap p.1 p.2)
    (hbm : ∃ (bm : Addr) (ob : Obj), mg "__builtins__" = some (.ref bm) ∧ bm ≠ builtinsNs ∧ s₁.heap.get? bm = some ob ∧ ob.cls = .type "module" ∧ ob.dict = some builtinsNs ∧ ob.data = .plain)
    (ha : s₁.heap.get? a = some { cls := .type "list", data := .seq vs.toArray }) (hi : IntsAre vs ns) (hl : ns.length ≤ sizeLine)
    (F : ∀ (base : Heap) (H : Hp), K.In base → base.Ns mainGlobals mg → (∀ p ∈ cs, TabB base mg p.1 p.2) → (∀ p ∈ cs, H p.2 = some (.tbl #[])) → SqL K H a (ns.map V.int) → Env0 P w K mg base callerA [] s₁ H →
      codeAny (model P w) callerA (.call (.ref fa) ⟨[.ref a], []⟩) (CR CX0 [] P w H s₁ (fun v _ => v = .bl true) fun _ _ _ => False) s₁) :
    codeAny (model P w) callerA (.call (.ref fa) ⟨[.ref a], []⟩) (fun r s' => r = .ok (.ret (.bool true)) ∧ OldK s₁.heap s'.heap ∧ s'.os = s₁.os ∧ AllBare s'.gens) s₁ := by
  let sc : Obj := { cls := .type "list", data := .seq vs.toArray }
  let tabs := cs.map Prod.snd
  let wr : Bool := (K.lookup a).isSome
  let H : Hp := lawH a tabs sc (ns.map V.int) wr
  have tget : ∀ b ∈ tabs, s₁.heap.get? b = some emptyT := fun b hb => by
    obtain ⟨p, hp, rfl⟩ := List.mem_map.mp hb; exact hT p hp
  have tmem : ∀ p ∈ cs, p.2 ∈ tabs := fun p hp => List.mem_map_of_mem hp
  have na : a ∉ tabs := fun z => by
    have q := tget a z
    rw [ha] at q
    have := congrArg Obj.data (Option.some.inj q)
    exact nomatch this
  have nk : ∀ b ∈ tabs, K.lookup b = none := fun b hb => by
    obtain ⟨p, hp, rfl⟩ := List.mem_map.mp hb; exact nT p hp
  -- an object that is neither a list nor fields is not tracked
  have free : ∀ {b : Addr} {o : Obj}, s₁.heap.get? b = some o → (∀ z n, o.data ≠ .seq z n) → o.data ≠ .fields #[] → H b = none := fun {b o} e n1 n2 => by
    cases q : H b with
    | none => rfl
    | some u =>
      rcases lawH_cases q with ⟨m, _⟩ | ⟨m, _, _, _⟩
      · rw [tget b m] at e; cases e; exact absurd rfl n2
      · subst m; rw [ha] at e; cases e; exact absurd rfl (n1 _ _)
  have baseG : ∀ {b : Addr} {o : Obj}, s₁.heap.get? b = some o → (∀ z n, o.data ≠ .seq z n) → o.data ≠ .fields #[] → (hidT s₁.heap H).get? b = some o := fun e n1 n2 => hidT_get e (free e n1 n2)
  have nsB : ∀ {b : Addr} {m : Str → Option Value}, s₁.heap.Ns b m → (hidT s₁.heap H).Ns b m := fun ⟨o, es, ep, e, d, r⟩ =>
    ⟨o, es, ep, baseG e (fun z n q => by rw [d] at q; exact nomatch q) (fun q => by rw [d] at q; exact nomatch q), d, r⟩
  have kB : K.In (hidT s₁.heap H) := fun b o e => hidT_get (KX b o e) (by
    cases q : H b with
    | none => rfl
    | some u =>
      rcases lawH_cases q with ⟨m, _⟩ | ⟨m, wf, _, _⟩
      · rw [nk b m] at e; cases e
      · subst m
        have wf : (K.lookup b).isSome = false := wf
        rw [e] at wf; cases wf)
  have mod : L2.Mod K mg (hidT s₁.heap H) := ⟨kB, nsB hns, ⟨mb, nsB hb, hbb⟩, let ⟨mc, h1, h2⟩ := hlim; ⟨mc, nsB h1, h2⟩⟩
  have tb : ∀ p ∈ cs, TabB (hidT s₁.heap H) mg p.1 p.2 := fun p hp => by
    have hp2 := hT p hp
    obtain ⟨bm, ob, b1, b2, b3, b4, b5, b6⟩ := hbm
    refine ⟨?_, ⟨bm, ob, b1, b2, fun q => ?_, fun q => ?_, baseG b3 (fun z n q => by rw [b6] at q; exact nomatch q) (fun q => by rw [b6] at q; exact nomatch q), b4, b5, b6⟩, fun q => ?_⟩
    · obtain ⟨o, us, file, tf, flags, tg, inF, text, tt, e1, r1, r2, r3, rest⟩ := C p hp
      exact ⟨o, us, file, tf, flags, tg, inF, text, tt, baseG e1 (fun z n q => by rw [r2] at q; exact nomatch q) (fun q => by
        rw [r2] at q
        have q := Data.fields.inj q
        subst q; simp at r3), r1, r2, r3, rest⟩
    · obtain ⟨o, es, ep, e, d, _⟩ := hns
      rw [q, e] at b3; cases b3; rw [d] at b6; exact nomatch b6
    · rw [q, hp2] at b3; cases b3; exact nomatch b6
    · obtain ⟨o, es, ep, e, d, _⟩ := hns
      rw [q, hp2] at e; cases e; exact nomatch d
  have hok : HOk P w H s₁.heap := fun b u q => by
    rcases lawH_cases q with ⟨m, rfl⟩ | ⟨rfl, _, _, rfl⟩
    · exact tget b m
    · exact ⟨ha, by rw [List.length_map]; exact hl, vs, 0, vals_ints hi, ha⟩
  have e0 : Env0 P w K mg (hidT s₁.heap H) callerA [] s₁ H := ⟨rfl, mod, fun b o e => of_hidT e, Nat.le_of_eq (hidT_size _ _), trivial, fun b z => (nomatch z), hok, .of_eq hg⟩
  have sq : SqL K H a (ns.map V.int) := by
    cases q : K.lookup a with
    | none =>
      have wf : wr = false := by show (K.lookup a).isSome = false; rw [q]; rfl
      refine .inl (.inr ⟨sc, ?_⟩)
      show lawH a tabs sc (ns.map V.int) wr a = _
      rw [wf]; exact lawH_at na
    | some o =>
      have e := KX a o q
      rw [ha] at e; cases e
      exact .inr ⟨_, vs.toArray, _, q, rfl, rfl, rfl, by rw [List.size_toArray, hi.length]; exact hl, vals_ints hi⟩
  refine codeAny_mono (F _ H kB (nsB hns) tb (fun p hp => lawH_tab (tmem p hp)) sq e0) fun r s' h => ?_
  cases r with
  | error e => exact (show False from h).elim
  | ok fl =>
    cases fl with
    | ret u =>
      obtain ⟨v, H', os, bare, un, hok', rv, q⟩ := h
      cases (show v = V.bl true from q)
      obtain rfl : u = Value.bool true := rv
      have grown : ∀ b ∈ tabs, ∃ more : Array Value, s'.heap.get? b = some { cls := .none, data := .fields more } := fun b hb => by
        obtain ⟨more, z⟩ := un.tbls b #[] (lawH_tab hb)
        exact ⟨_, hok' b _ z⟩
      have kept : ∀ b o, b ∉ tabs → s₁.heap.get? b = some o → s'.heap.get? b = some o := fun b o nb e => by
        cases q : H b with
        | none => exact un.keep b o e q (fun z => nomatch z) (fun z => nomatch z)
        | some u =>
          rcases lawH_cases q with ⟨m, _⟩ | ⟨m, _, _, hu⟩
          · exact absurd m nb
          · subst m; subst hu
            have e2 := (hok' b _ (un.frzs b sc _ q)).1
            rw [ha] at e; cases e; exact e2
      refine ⟨rfl, ⟨fun b o e => ?_, fun b o e => ?_⟩, os, bare⟩
      · by_cases hb : b ∈ tabs
        · obtain ⟨p, hp, rfl⟩ := List.mem_map.mp hb
          obtain ⟨more, hm⟩ := grown _ hb
          rw [hT p hp] at e; cases e
          exact .inr (.inl ⟨((C p hp).tab (hT p hp)).isCodeTable, rfl, #[], more, rfl, by rw [Array.empty_append]; exact hm⟩)
        · exact .inl (kept b o hb e)
      · by_cases hb : b ∈ tabs
        · obtain ⟨more, hm⟩ := grown b hb; exact ⟨_, hm⟩
        · exact ⟨o, kept b o hb e⟩
    | next => exact False.elim h
    | brk => exact False.elim h
    | cont => exact False.elim h
/-- what is known of the law at the head's heap -/
def LawG (l : PySem.W.OpenLaw) (w : World) (K : PySem.W.Frag) (n : Nat) (mg : Str → Option Value) (fa : Addr) (s : Shared) : Prop :=
  ∃ cs : List (Addr × Addr), (∀ p ∈ cs, s.heap.get? p.2 = some emptyT) ∧ (∀ p ∈ cs, K.lookup p.2 = none) ∧ (∀ p ∈ cs, PySem.W.CodeHd s.heap p.1 p.2) ∧
    ∀ (a : Addr) (ns : List Int) (base : Heap) (H : Hp), ns.length ≤ n → (∀ z ∈ ns, Builtin.Int.intBits z ≤ 1048576) → K.In base → base.Ns mainGlobals mg → (∀ p ∈ cs, TabB base mg p.1 p.2) → (∀ p ∈ cs, H p.2 = some (.tbl #[])) → SqL K H a (ns.map V.int) → Env0 l.prog w K mg base callerA [] s H →
      codeAny (model l.prog w) callerA (.call (.ref fa) ⟨[.ref a], []⟩) (CR CX0 [] l.prog w H s (fun v _ => v = .bl true) fun _ _ _ => False) s
theorem walk_G {l : PySem.W.OpenLaw} {n : Nat} {q : Program} {loose : List Str} {XP : (Str → Option Value) → Heap → Prop} {YP : World → Heap → Prop} {d : DefRec} {K : Params → PySem.W.Frag}
    (hn : l.most = some n) (hn2 : n ≤ sizeLine) (hdf : d.params.defaults = []) (hY : ∀ (w : World) (h : Heap), YP w h → (K w.params).In h)
    (F : ∀ (w : World) (mg mb : Str → Option Value) (fa : Addr) (s : Shared) (mean : ExcName → Option Value), PyProof.Rows.Top q (PySem.W.looseW q loose) mean mg mb s.heap → (K w.params).In s.heap → mg d.name = some (.ref fa) → LawG l w (K w.params) n mg fa s) :
    PySem.W.WalkO q loose XP YP l.row.toRowW d [] (fun f vs => PySem.call f vs) := by
  refine Att.attach_callB hn hdf fun w s₀ s₁ mg mb fa o pm cd doc a vs ns G Y ho hd hcd hmg hobj hints hlen hbits hg => ?_
  have KX := hY w _ Y
  obtain ⟨cs, hT, nT, C, hF⟩ := F w mg mb fa s₁ _ G.T KX hmg
  exact law_callG KX G.T.g G.T.b G.T.builtins G.T.nolimit hg hT nT C G.T.bmain hobj hints (Nat.le_trans hlen hn2) fun base H h1 h2 h3 h4 h5 h6 => hF a ns base H hlen hbits h1 h2 h3 h4 h5 h6
end Ag

set_option Elab.async false
set_option linter.all false
set_option maxRecDepth 100000
set_option maxHeartbeats 2000000
/-! try with several clauses, each of which binds what it catches to a name. -/
namespace Ag
open PySem PySem.Spec PyProof.Rows L2
/-- a clause: the class, the slot of its name, and its suite's reading -/
structure Clause where
  cls : Value
  slot : Nat
  ts : Addr → Value → Option Addr → TS
/-- the ends of a suite whose name is unbound behind it -/
def endsU (i : Nat) (D : Ends) : Ends := ⟨fun σ H => D.nx (σ.set i none) H, D.rt, fun σ H => D.bk (σ.set i none) H, fun σ H => D.ct (σ.set i none) H⟩
def wNamed (K : PySem.W.Frag) (n : Nat) (Wout : WX) (D : Ends) : List Clause → WX
  | [] => Wout
  | q :: r => fun c d σ H => ∃ b, PySem.W.exmOne K c q.cls = some b ∧ (b = true → σ.length = n → ∀ a, H a = none → q.ts a c d (endsU q.slot D) (σ.set q.slot (some (.ref a))) H) ∧ (b = false → wNamed K n Wout D r c d σ H)
inductive ClausesOk (X : Cx) : List ExceptHandler → List Clause → Prop
  | nil : ClausesOk X [] []
  | cons {x n : Str} {q : Clause} {b₀ : Stmt} {suite : List Stmt} {np hp : Pos} {hds : List ExceptHandler} {l : List Clause} (names : Names X x q.cls) (hi : X.N[q.slot]? = some n) (loc : X.env.kindOf n = some .local)
      (run : ∀ (a : Addr) (oe : Obj) (c : Value) (d : Option Addr) (pn : List (Addr × Obj)), Zc c d oe → (∃ vs, oe.data = .fields vs) → PSs (X.suite a ((a, oe) :: pn)) (b₀ :: suite) (q.ts a c d)) (rest : ClausesOk X hds l) :
      ClausesOk X (.ExceptHandler (some (.Name x np)) (some n) (b₀ :: suite) hp :: hds) (q :: l)
section
variable {X : Cx} {body : List Stmt} {h₀ : ExceptHandler} {hds : List ExceptHandler} {l : List Clause} {pos : Pos} {tb : WX → TS} {Wout : WX}
theorem ps_try_named (stk : X.stack = X.env :: X.outer) (frm : X.env.frame = some X.env.locals) (nd : X.N.Nodup) (out : Takes X Wout)
    (hb : ∀ (W : WX) (pn : List (Addr × Obj)) (xe : Value → Shared → Prop), Takes (X.tr pn xe) W → PassesOwn (model X.prog X.w) X.A X.env xe → PSs (X.tr pn xe) body (tb W))
    (hh : ClausesOk X (h₀ :: hds) l) : PS X (.Try body (h₀ :: hds) [] [] pos) (fun D σ H => tb (wNamed X.K X.N.length Wout D l) D σ H) := by
  refine ⟨fun pins s σ H D I h => wpAny_Try_except ?_⟩
  have ok := I.ok
  have fr : X.A.frames = some (X.env :: X.outer) := by rw [ok.frames, stk]
  have caught : ∀ (u : Value) (s' : Shared), XE (X.tr (X.pn ++ pins) fun e z => wpAny (model X.prog X.w) X.A (noteFrame e X.env) (fun _ z2 => wpAny (model X.prog X.w) X.A (setFlight e none) (fun _ z3 =>
      wpAny (model X.prog X.w) X.A (handleBy e X.env (h₀ :: hds)) (SP X pins D) X.xe z3) X.xe z2) X.xe z) (wNamed X.K X.N.length Wout D l) u s' →
      wpAny (model X.prog X.w) X.A (noteFrame u X.env) (fun _ z2 => wpAny (model X.prog X.w) X.A (setFlight u none) (fun _ z3 => wpAny (model X.prog X.w) X.A (handleBy u X.env (h₀ :: hds)) (SP X pins D) X.xe z3) X.xe z2) X.xe s' := by
    rintro u s' ⟨a, B, sI, pins', σ1, H1, c, d, rfl, J0, nb, up, sky, na, os, ag, w⟩
    have J : Inv X pins σ1 H1 sI := J0.ofTry ok
    refine Sky.land Zc.steady fr frm (show Sky B (X.env :: X.outer) a (Zc c d) X.env.locals s'.heap by rw [← stk]; exact sky) fun g1 fl1 u1 => ?_
    have J1 : Inv X pins σ1 H1 { s' with heap := g1 } := J.landed nb fl1.1 (up.trans u1) os ag
    obtain ⟨o1, vs1, e1, z1, d1⟩ := fl1.there
    have nfr : a ∉ frs (X.env :: X.outer) := fun hm => by
      obtain ⟨_, o2, e2, no⟩ := fl1.2.2.1.mem hm
      rw [e1] at e2; cases e2
      exact no _ d1
    have nL : a ≠ X.env.locals := fun z => nfr (List.mem_filterMap.mpr ⟨X.env, .head _, by rw [frm, z]⟩)
    have nF : a ∉ X.fs := fun hm => by
      obtain ⟨e, he, q⟩ := List.mem_filterMap.mp hm
      exact nfr (List.mem_filterMap.mpr ⟨e, .tail _ he, q⟩)
    have S1 := J1.suite e1 d1 na nL nF
    have go : ∀ {hs : List ExceptHandler} {ls : List Clause}, ClausesOk X hs ls → wNamed X.K X.N.length Wout D ls c d σ1 H1 → wpAny (model X.prog X.w) X.A (handleBy (.ref a) X.env hs) (SP X pins D) X.xe { s' with heap := g1 } := by
      intro hs ls hk
      induction hk with
      | nil =>
        intro w
        refine wpAny_handleBy_nil ?_
        obtain ⟨_, _, _, o2, vs2, T, oT, ts2, e2, z2, d2, t1, _⟩ := id fl1
        unfold PySem.passOn
        refine wpAny_bind (wpAny_field e2 d2 t1 ?_)
        rw [if_neg (show ¬ (Value.ref T == Value.none) = true from fun z => nomatch z)]
        have last : wpAny (model X.prog X.w) X.A (setFlight (.ref a) X.env.frame) (fun _ z4 => wpAny (model X.prog X.w) X.A (throw (.ref a) : Sem Flow) (SP X pins D) X.xe z4) X.xe { s' with heap := g1 } := by
          rw [frm]
          exact HandSPX.setFlight_upZ fl1 fun g2 h2 u2 => wpAny_throw (out _ _ ⟨a, B, sI, pins, σ1, H1, c, d, rfl, J, nb, (up.trans u1).trans u2, .inr (.inr (by rw [stk]; exact h2)), na, os, ag, w⟩)
        first
          | exact wpAny_bind (wpAny_pure (wpAny_bind last))
          | exact wpAny_bind last
      | @cons x n q b₀ suite np hp hds2 l2 names hi loc run rest ih =>
        rintro ⟨b, hb1, yes, no⟩
        refine wpAny_handleBy_cons (codeAny_handlers_test ?_) (fun z => nomatch z)
        have looks : PySem.W.Looks (model X.prog X.w) g1 (typeOf (.ref a)) c := fun A Q E s k z => wpAny_typeOf_ref (k _ _ e1) (by rw [z1.1]; exact z)
        have tst : ∀ {Q : Value → Shared → Prop} {E : Value → Shared → Prop}, Q q.cls { s' with heap := g1 } → wpAny (model X.prog X.w) (X.A.mark (some (.ref a))) (eval (.Name x np) X.env) Q E { s' with heap := g1 } := fun z => by
          obtain ⟨hg, hdb, hm | ⟨hm, hv, hnn⟩⟩ := names
          · exact ld_glob (X := X.suite a ((a, o1) :: (X.pn ++ pins))) S1 hg hm z hdb
          · exact ld_blt (X := X.suite a ((a, o1) :: (X.pn ++ pins))) S1 hg hm hv z hnn hdb
        refine tst ((PySem.W.exm_one (M := model X.prog X.w) J1.kIn looks hb1).here ?_)
        cases b with
        | false =>
          show wpAny _ X.A (handleBy (.ref a) X.env hds2) _ _ _
          exact ih (no rfl)
        | true =>
          refine codeAny_handlers_suite_as (HandSPX.lands_againZ fl1 fun g2 fl2 u2 => ?_)
          have J2 : Inv X pins σ1 H1 { s' with heap := g2 } := J.landed nb fl2.1 ((up.trans u1).trans u2) os ag
          obtain ⟨o2, vs2, e2, z2, d2⟩ := fl2.there
          refine store_ok (X := X.suite a ((a, o2) :: (X.pn ++ pins))) (v := .ref a) (J2.suite e2 d2 na nL nF) nd hi (show Loc X.env.scope n from .inl loc) rfl (fun s5 S5 => ?_) (.inr loc)
          refine wpAny_mono ((run a o2 c d (X.pn ++ pins) z2 ⟨_, d2⟩).run [] s5 _ H1 _ S5 (yes rfl J2.len a na)) (fun f s6 r6 => ?_) (fun _ _ z => False.elim z)
          have fin : ∀ {σ6 : L2.St} {H6 : Hp} {R : Shared → Prop}, Inv (X.suite a ((a, o2) :: (X.pn ++ pins))) [] σ6 H6 s6 → (∀ s7, Inv X pins (σ6.set q.slot none) H6 s7 → R s7) →
              wpAny (model X.prog X.w) X.A (do bindName X.env n .none; unbindBehindTheSuite X.env n hp) (fun _ s7 => R s7) X.xe s6 := fun S6 r => gone_ok (S6.unsuite ok) nd hi loc r
          cases f with
          | next => obtain ⟨σ6, H6, S6, q6⟩ := r6; exact fin S6 fun s7 J7 => ⟨_, _, J7, q6⟩
          | brk => obtain ⟨σ6, H6, S6, q6⟩ := r6; exact fin S6 fun s7 J7 => ⟨_, _, J7, q6⟩
          | cont => obtain ⟨σ6, H6, S6, q6⟩ := r6; exact fin S6 fun s7 J7 => ⟨_, _, J7, q6⟩
          | ret u => obtain ⟨v6, σ6, H6, S6, v7, q6⟩ := r6; exact fin S6 fun s7 J7 => ⟨_, _, _, J7, v7, q6⟩
    exact go hh w
  refine wpAny_mono ((hb (wNamed X.K X.N.length Wout D l) (X.pn ++ pins) _ (fun u s' xx => caught u s' xx) PassesOwn.looking).run [] s σ H D (I.toTry _) h) (fun f s1 r => ?_) (fun e s1 z => z)
  cases f with
  | next => obtain ⟨σ', H', J', q⟩ := r; exact wpAny_execs_nil ⟨σ', H', J'.ofTry ok, q⟩
  | brk => obtain ⟨σ', H', J', q⟩ := r; exact ⟨σ', H', J'.ofTry ok, q⟩
  | cont => obtain ⟨σ', H', J', q⟩ := r; exact ⟨σ', H', J'.ofTry ok, q⟩
  | ret u => obtain ⟨v, σ', H', J', rv, q⟩ := r; exact ⟨v, σ', H', J'.ofTry ok, rv, q⟩
end
/-- code that is never come to -/
theorem pss_never {X : Cx} {sts : List Stmt} : PSs X sts (fun _ _ _ => False) := ⟨fun _ _ _ _ _ _ h => h.elim⟩
theorem ps_never {X : Cx} {st : Stmt} : PS X st (fun _ _ _ => False) := ⟨fun _ _ _ _ _ _ h => h.elim⟩
theorem pe_never {X : Cx} {e : Expr} : PE X e (fun _ _ _ => False) := ⟨fun _ _ _ _ _ _ h => h.elim⟩
end Ag

set_option Elab.async false
set_option linter.all false
set_option maxRecDepth 100000
set_option maxHeartbeats 1000000
/-! The pen: a dict of five written keys; what a draw leaves. -/
namespace Ag
open PySem PySem.Spec PyProof.Rows L2

abbrev ck (s : Str) : Key := Sum.inr s
def penKV (c : Addr) (at_ dig cnt fold : Int) : List (Key × V) :=
  [(ck "cells", .ref c), (ck "at", .int at_), (ck "digits", .int dig), (ck "count", .int cnt), (ck "fold", .int fold)]
theorem kn1 : ¬ ck "cells" = ck "at" := by decide +kernel
theorem kn2 : ¬ ck "cells" = ck "digits" := by decide +kernel
theorem kn3 : ¬ ck "cells" = ck "count" := by decide +kernel
theorem kn4 : ¬ ck "cells" = ck "fold" := by decide +kernel
theorem kn5 : ¬ ck "at" = ck "digits" := by decide +kernel
theorem kn6 : ¬ ck "at" = ck "count" := by decide +kernel
theorem kn7 : ¬ ck "at" = ck "fold" := by decide +kernel
theorem kn8 : ¬ ck "digits" = ck "count" := by decide +kernel
theorem kn9 : ¬ ck "digits" = ck "fold" := by decide +kernel
theorem kn0 : ¬ ck "count" = ck "fold" := by decide +kernel
theorem sn_cells_at : ¬ Str.ofString "cells" = Str.ofString "at" := by decide +kernel
theorem sn_cells_digits : ¬ Str.ofString "cells" = Str.ofString "digits" := by decide +kernel
theorem sn_cells_count : ¬ Str.ofString "cells" = Str.ofString "count" := by decide +kernel
theorem sn_cells_fold : ¬ Str.ofString "cells" = Str.ofString "fold" := by decide +kernel
theorem sn_at_cells : ¬ Str.ofString "at" = Str.ofString "cells" := by decide +kernel
theorem sn_at_digits : ¬ Str.ofString "at" = Str.ofString "digits" := by decide +kernel
theorem sn_at_count : ¬ Str.ofString "at" = Str.ofString "count" := by decide +kernel
theorem sn_at_fold : ¬ Str.ofString "at" = Str.ofString "fold" := by decide +kernel
theorem sn_digits_cells : ¬ Str.ofString "digits" = Str.ofString "cells" := by decide +kernel
theorem sn_digits_at : ¬ Str.ofString "digits" = Str.ofString "at" := by decide +kernel
theorem sn_digits_count : ¬ Str.ofString "digits" = Str.ofString "count" := by decide +kernel
theorem sn_digits_fold : ¬ Str.ofString "digits" = Str.ofString "fold" := by decide +kernel
theorem sn_count_cells : ¬ Str.ofString "count" = Str.ofString "cells" := by decide +kernel
theorem sn_count_at : ¬ Str.ofString "count" = Str.ofString "at" := by decide +kernel
theorem sn_count_digits : ¬ Str.ofString "count" = Str.ofString "digits" := by decide +kernel
theorem sn_count_fold : ¬ Str.ofString "count" = Str.ofString "fold" := by decide +kernel
theorem sn_fold_cells : ¬ Str.ofString "fold" = Str.ofString "cells" := by decide +kernel
theorem sn_fold_at : ¬ Str.ofString "fold" = Str.ofString "at" := by decide +kernel
theorem sn_fold_digits : ¬ Str.ofString "fold" = Str.ofString "digits" := by decide +kernel
theorem sn_fold_count : ¬ Str.ofString "fold" = Str.ofString "count" := by decide +kernel
section
variable {c : Addr} {a d n f x : Int}
theorem pen_cells : valV (penKV c a d n f) (ck "cells") = some (.ref c) := valV_pos rfl
theorem pen_at : valV (penKV c a d n f) (ck "at") = some (.int a) := by unfold penKV; rw [valV_neg kn1]; exact valV_pos rfl
theorem pen_dig : valV (penKV c a d n f) (ck "digits") = some (.int d) := by unfold penKV; rw [valV_neg kn2, valV_neg kn5]; exact valV_pos rfl
theorem pen_cnt : valV (penKV c a d n f) (ck "count") = some (.int n) := by unfold penKV; rw [valV_neg kn3, valV_neg kn6, valV_neg kn8]; exact valV_pos rfl
theorem pen_fold : valV (penKV c a d n f) (ck "fold") = some (.int f) := by unfold penKV; rw [valV_neg kn4, valV_neg kn7, valV_neg kn9, valV_neg kn0]; exact valV_pos rfl
theorem put_at : putK (penKV c a d n f) (ck "at") (.int x) = penKV c x d n f := by
  unfold putK; rw [valV_any, pen_at]
  simp [penKV, ck, sn_cells_at, sn_cells_digits, sn_cells_count, sn_cells_fold, sn_at_cells, sn_at_digits, sn_at_count, sn_at_fold, sn_digits_cells, sn_digits_at, sn_digits_count, sn_digits_fold, sn_count_cells, sn_count_at, sn_count_digits, sn_count_fold, sn_fold_cells, sn_fold_at, sn_fold_digits, sn_fold_count]
theorem put_dig : putK (penKV c a d n f) (ck "digits") (.int x) = penKV c a x n f := by
  unfold putK; rw [valV_any, pen_dig]
  simp [penKV, ck, sn_cells_at, sn_cells_digits, sn_cells_count, sn_cells_fold, sn_at_cells, sn_at_digits, sn_at_count, sn_at_fold, sn_digits_cells, sn_digits_at, sn_digits_count, sn_digits_fold, sn_count_cells, sn_count_at, sn_count_digits, sn_count_fold, sn_fold_cells, sn_fold_at, sn_fold_digits, sn_fold_count]
theorem put_cnt : putK (penKV c a d n f) (ck "count") (.int x) = penKV c a d x f := by
  unfold putK; rw [valV_any, pen_cnt]
  simp [penKV, ck, sn_cells_at, sn_cells_digits, sn_cells_count, sn_cells_fold, sn_at_cells, sn_at_digits, sn_at_count, sn_at_fold, sn_digits_cells, sn_digits_at, sn_digits_count, sn_digits_fold, sn_count_cells, sn_count_at, sn_count_digits, sn_count_fold, sn_fold_cells, sn_fold_at, sn_fold_digits, sn_fold_count]
theorem put_fold : putK (penKV c a d n f) (ck "fold") (.int x) = penKV c a d n x := by
  unfold putK; rw [valV_any, pen_fold]
  simp [penKV, ck, sn_cells_at, sn_cells_digits, sn_cells_count, sn_cells_fold, sn_at_cells, sn_at_digits, sn_at_count, sn_at_fold, sn_digits_cells, sn_digits_at, sn_digits_count, sn_digits_fold, sn_count_cells, sn_count_at, sn_count_digits, sn_count_fold, sn_fold_cells, sn_fold_at, sn_fold_digits, sn_fold_count]
end
/-- the pen at p, its cells at c; n bounds how often it has been drawn -/
def Pen (p c : Addr) (n : Nat) (H : Hp) : Prop :=
  ∃ (cells : List Int) (a d k f : Int), H p = some (.dK (penKV c a d k f)) ∧ Rd H c (.lst (cells.map V.int)) ∧ 0 ≤ a ∧ 0 ≤ d ∧ 0 ≤ k ∧ k ≤ n ∧ 0 ≤ f ∧ f < 2147483648
/-- all but the pen is kept -/
def But (p : Addr) (H H' : Hp) : Prop := ∀ a o, a ≠ p → H a = some o → H' a = some o
theorem But.refl (p : Addr) (H : Hp) : But p H H := fun _ _ _ h => h
theorem But.trans {p : Addr} {H H1 H2 : Hp} (a : But p H H1) (b : But p H1 H2) : But p H H2 := fun x o n h => b x o n (a x o n h)
theorem But.of {p : Addr} {H H1 : Hp} (a : Same H H1) : But p H H1 := fun x o _ h => a x o h
theorem But.free {p a : Addr} {H H1 : Hp} (b : But p H H1) (h : H1 a = none) (n : a ≠ p) : H a = none := by
  cases q : H a with
  | none => rfl
  | some o => rw [b a o n q] at h; cases h
section
variable {K : PySem.W.Frag} {p c : Addr} {n : Nat} {H H' : Hp}
theorem Pen.ne {a : Addr} {o : HO} (h : Pen p c n H) (e : H a = some o) (no : ∀ kvs, o ≠ .dK kvs) : a ≠ p := by
  obtain ⟨cells, a', d, k, f, hp, _⟩ := h
  exact ne_of e hp (no _)
theorem Pen.rd {a : Addr} {u : HO} (h : Pen p c n H) (b : But p H H') (r : Rd H a u) (no : ∀ kvs, u ≠ .dK kvs) : Rd H' a u := by
  rcases r with r | ⟨o, r⟩
  · exact .inl (b _ _ (h.ne r no) r)
  · exact .inr ⟨o, b _ _ (h.ne r (fun _ z => nomatch z)) r⟩
theorem Pen.sl {a : Addr} {xs : List V} (h : Pen p c n H) (b : But p H H') (r : SqL K H a xs) : SqL K H' a xs := r.imp (fun z => h.rd b z (fun _ z => nomatch z)) id
theorem Pen.st {a : Addr} {xs : List V} (h : Pen p c n H) (b : But p H H') (r : SqT K H a xs) : SqT K H' a xs := r.imp (fun z => h.rd b z (fun _ z => nomatch z)) id
mutual
theorem Pen.dp (h : Pen p c n H) (b : But p H H') : ∀ {v : V} {d : PyData}, Dp K H v d → Dp K H' v d
  | _, _, .non => .non
  | _, _, .bl b => .bl b
  | _, _, .int i => .int i
  | _, _, .str x => .str x
  | _, _, .lst q r => .lst (h.sl b q) (Pen.dps h b r)
  | _, _, .tup q r => .tup (h.st b q) (Pen.dps h b r)
theorem Pen.dps (h : Pen p c n H) (b : But p H H') : ∀ {vs : List V} {ds : List PyData}, DpAll K H vs ds → DpAll K H' vs ds
  | _, _, .nil => .nil
  | _, _, .cons q r => .cons (Pen.dp h b q) (Pen.dps h b r)
end
theorem Pen.same (h : Pen p c n H) (s : Same H H') : Pen p c n H' := by
  obtain ⟨cells, a, d, k, f, hp, hc, r⟩ := h
  exact ⟨cells, a, d, k, f, s _ _ hp, s.rdA hc, r⟩
theorem Pen.more {m : Nat} (h : Pen p c n H) (l : n ≤ m) : Pen p c m H := by
  obtain ⟨cells, a, d, k, f, hp, hc, h1, h2, h3, h4, r⟩ := h
  exact ⟨cells, a, d, k, f, hp, hc, h1, h2, h3, Int.le_trans h4 (by omega), r⟩
theorem Pen.some_p (h : Pen p c n H) : ∃ o, H p = some o := by
  obtain ⟨cells, a, d, k, f, hp, _⟩ := h; exact ⟨_, hp⟩
theorem Pen.some_c (h : Pen p c n H) : ∃ o, H c = some o := by
  obtain ⟨cells, a, d, k, f, hp, hc, _⟩ := h
  rcases hc with hc | ⟨o, hc⟩ <;> exact ⟨_, hc⟩
/-- an own object is changed or made: the pen stands -/
theorem Pen.upd {l : Addr} {o : HO} (h : Pen p c n H) (h1 : l ≠ p) (h2 : l ≠ c) : Pen p c n (L2.upd H l o) := by
  obtain ⟨cells, a, d, k, f, hp, hc, r⟩ := h
  refine ⟨cells, a, d, k, f, by rw [upd_ne (Ne.symm h1)]; exact hp, ?_, r⟩
  rcases hc with hc | ⟨o, hc⟩
  · exact .inl (by rw [upd_ne (Ne.symm h2)]; exact hc)
  · exact .inr ⟨o, by rw [upd_ne (Ne.symm h2)]; exact hc⟩
theorem Pen.ne_p {l : Addr} (h : Pen p c n H) (hl : H l = none) : l ≠ p := by
  obtain ⟨o, e⟩ := h.some_p
  exact Ne.symm (ne_of_none e hl)
theorem Pen.ne_c {l : Addr} (h : Pen p c n H) (hl : H l = none) : l ≠ c := by
  obtain ⟨o, e⟩ := h.some_c
  exact Ne.symm (ne_of_none e hl)
end

section
variable {H : Hp} {p c : Addr} {a d n f x : Int}
theorem pg_cells (h : H p = some (.dK (penKV c a d n f))) : DGet H p (.str "cells") (some (.ref c)) := by
  have q := DGet.k (k := ck "cells") h
  rw [pen_cells] at q; exact q
theorem pg_at (h : H p = some (.dK (penKV c a d n f))) : DGet H p (.str "at") (some (.int a)) := by
  have q := DGet.k (k := ck "at") h
  rw [pen_at] at q; exact q
theorem pg_dig (h : H p = some (.dK (penKV c a d n f))) : DGet H p (.str "digits") (some (.int d)) := by
  have q := DGet.k (k := ck "digits") h
  rw [pen_dig] at q; exact q
theorem pg_cnt (h : H p = some (.dK (penKV c a d n f))) : DGet H p (.str "count") (some (.int n)) := by
  have q := DGet.k (k := ck "count") h
  rw [pen_cnt] at q; exact q
theorem pg_fold (h : H p = some (.dK (penKV c a d n f))) : DGet H p (.str "fold") (some (.int f)) := by
  have q := DGet.k (k := ck "fold") h
  rw [pen_fold] at q; exact q
theorem pp_at (h : H p = some (.dK (penKV c a d n f))) : DPut H p (.str "at") (.int x) (upd H p (.dK (penKV c x d n f))) := by
  have q := DPut.k (k := ck "at") (v := .int x) h (by show 5 < sizeLine; decide)
  rw [put_at] at q; exact q
theorem pp_dig (h : H p = some (.dK (penKV c a d n f))) : DPut H p (.str "digits") (.int x) (upd H p (.dK (penKV c a x n f))) := by
  have q := DPut.k (k := ck "digits") (v := .int x) h (by show 5 < sizeLine; decide)
  rw [put_dig] at q; exact q
theorem pp_cnt (h : H p = some (.dK (penKV c a d n f))) : DPut H p (.str "count") (.int x) (upd H p (.dK (penKV c a d x f))) := by
  have q := DPut.k (k := ck "count") (v := .int x) h (by show 5 < sizeLine; decide)
  rw [put_cnt] at q; exact q
theorem pp_fold (h : H p = some (.dK (penKV c a d n f))) : DPut H p (.str "fold") (.int x) (upd H p (.dK (penKV c a d n x))) := by
  have q := DPut.k (k := ck "fold") (v := .int x) h (by show 5 < sizeLine; decide)
  rw [put_fold] at q; exact q
end
/-- the promise of a draw -/
def spDraw : Sp := fun vs H Q _ => ∃ (p c : Addr) (many : Int) (n : Nat), vs = [.ref p, .int many] ∧ Pen p c n H ∧ 0 < many ∧ many < 1000000 ∧ n < 1000000000000 ∧
  ∀ (d : Int) H', 0 ≤ d → d < many → But p H H' → Pen p c (n + 1) H' → Q (.int d) H'
end Ag

set_option Elab.async false
set_option linter.all false
set_option maxRecDepth 100000
set_option maxHeartbeats 1000000
/-! Comprehensions over data, statements over data. -/
namespace Ag
open PySem PySem.Spec PyProof.Rows L2
/-- a walk that hands out the data ds, as long as what stood at H stands -/
structure Wk (K : PySem.W.Frag) (F : Addr → Prop) (H : Hp) (J : It) (ds : List PyData) : Prop where
  go : ∀ i H', SameF F H H' → i < ds.length → J.go i H'
  stop : ∀ H', SameF F H H' → J.stop ds.length H'
  yld : ∀ i H' x H'', SameF F H H' → J.yld i H' x H'' → ∃ d, ds[i]? = some d ∧ Same H' H'' ∧ Df K (fun a => F a ∧ H a ≠ none) H'' x d
def EI (K : PySem.W.Frag) (wi : TI) (σ : L2.St) (F : Addr → Prop) (H : Hp) (ds : List PyData) : Prop := ∀ H1, Same H H1 → ∀ R : It → Hp → Prop, (∀ J H2, Same H1 H2 → Wk K (Fr F H1) H2 J ds → R J H2) → wi σ H1 R
section
variable {K : PySem.W.Frag} {σ : L2.St} {F : Addr → Prop} {H : Hp} {te tl : TE} {ds : List PyData}
theorem slF {a : Addr} {xs : List V} {H' : Hp} (s : SameF F H H') (h : (Rd H a (.lst xs) ∧ F a) ∨ KL K a xs) : SqL K H' a xs := h.imp (fun z => rd_lstF s z.1 z.2) id
theorem wk_list {a : Addr} {xs : List V} (h : (Rd H a (.lst xs) ∧ F a) ∨ KL K a xs) (r : DfAll K F H xs ds) : Wk K F H (Itl K a) ds where
  go := fun i H' s hi => by
    obtain ⟨d, e⟩ : ∃ d, ds[i]? = some d := ⟨_, List.getElem?_eq_getElem hi⟩
    obtain ⟨v, q, _⟩ := dfs_get r e
    exact ⟨xs, v, slF s h, q⟩
  stop := fun H' s => ⟨xs, slF s h, by rw [dfs_len r]; exact Nat.le_refl _⟩
  yld := fun i H' x H'' s y => by
    obtain ⟨rfl, y⟩ := y
    obtain ⟨d, e, hd⟩ := dfs_get' (dfs_monoF (s.sub fun _ z => z.1) (dfs_in r)) (y xs (slF s h))
    exact ⟨d, e, Same.refl _, hd⟩
theorem wk_tup {a : Addr} {xs : List V} (h : SqT K H a xs) (r : DfAll K F H xs ds) : Wk K F H (Itt K a) ds where
  go := fun i H' s hi => by
    obtain ⟨d, e⟩ : ∃ d, ds[i]? = some d := ⟨_, List.getElem?_eq_getElem hi⟩
    obtain ⟨v, q, _⟩ := dfs_get r e
    exact ⟨xs, v, sqt_F s h, q⟩
  stop := fun H' s => ⟨xs, sqt_F s h, by rw [dfs_len r]; exact Nat.le_refl _⟩
  yld := fun i H' x H'' s y => by
    obtain ⟨rfl, y⟩ := y
    obtain ⟨d, e, hd⟩ := dfs_get' (dfs_monoF (s.sub fun _ z => z.1) (dfs_in r)) (y xs (sqt_F s h))
    exact ⟨d, e, Same.refl _, hd⟩
theorem ei_list (h : ED K tl σ F H (.list ds)) : EI K (iList K tl) σ F H ds := fun H1 s R q => h H1 s _ fun v H2 s2 hv => by
  cases hv with
  | lst hs r => exact ⟨_, rfl, ⟨_, hs.imp (fun z => z.1) id⟩, q _ H2 s2 (wk_list hs r)⟩
theorem ei_tup (h : ED K tl σ F H (.tuple ds)) : EI K (iTup K tl) σ F H ds := fun H1 s R q => h H1 s _ fun v H2 s2 hv => by
  cases hv with
  | tup hs r => exact ⟨_, rfl, ⟨_, hs⟩, q _ H2 s2 (wk_tup hs r)⟩
def signs (x : Str) : List PyData := x.cps.toList.map fun c => .str ⟨#[c]⟩
theorem ei_str {x : Str} (h : ED K te σ F H (.str x)) : EI K (iStr te) σ F H (signs x) := fun H1 s R q => h H1 s _ fun v H2 s2 hv => by
  cases hv
  refine ⟨x, rfl, q _ H2 s2 ⟨fun i H' _ hi => ?_, fun H' _ => ?_, fun i H' y H'' _ z => ?_⟩⟩
  · show i < x.cps.size
    rw [← Array.length_toList]; unfold signs at hi; rw [List.length_map] at hi; exact hi
  · show x.cps.size ≤ (signs x).length
    unfold signs; rw [List.length_map, Array.length_toList]; exact Nat.le_refl _
  · obtain ⟨rfl, c, e, rfl⟩ := z
    refine ⟨.str ⟨#[c]⟩, ?_, Same.refl _, .str _⟩
    unfold signs
    rw [List.getElem?_map, Array.getElem?_toList, e]; rfl
def zipD (xs ys : List PyData) : List PyData := List.zipWith (fun a b => .tuple [a, b]) xs ys
theorem ei_zip {ta : TA} {xs ys : List PyData} (h : EA K ta σ F H [.tuple xs, .tuple ys]) : EI K (RZ.iZipA K ta) σ F H (zipD xs ys) := fun H1 s R q => h H1 s _ fun vs H2 s2 hv => by
  cases hv with
  | cons a r =>
    cases r with
    | cons b r =>
      cases r
      cases a with
      | tup ha ra =>
        cases b with
        | tup hb rb =>
          refine ⟨_, _, _, _, rfl, .inr ⟨ha, hb, q _ H2 s2 ⟨fun i H' s3 hi => ?_, fun H' s3 => ?_, fun i H' y H'' s3 z => ?_⟩⟩⟩
          · have hi' : i < xs.length ∧ i < ys.length := by
              unfold zipD at hi; rw [List.length_zipWith] at hi; omega
            obtain ⟨v, e, _⟩ := dfs_get ra (List.getElem?_eq_getElem hi'.1)
            obtain ⟨v2, e2, _⟩ := dfs_get rb (List.getElem?_eq_getElem hi'.2)
            exact ⟨_, _, v, v2, sqt_F s3 ha, sqt_F s3 hb, e, e2⟩
          · refine ⟨_, _, sqt_F s3 ha, sqt_F s3 hb, ?_⟩
            unfold zipD; rw [List.length_zipWith, dfs_len ra, dfs_len rb]; omega
          · obtain ⟨T, x, x2, rfl, hT, rfl, e1, e2⟩ := z
            obtain ⟨d, q1, hd⟩ := dfs_get' (dfs_in ra) (e1 _ (sqt_F s3 ha))
            obtain ⟨d2, q2, hd2⟩ := dfs_get' (dfs_in rb) (e2 _ (sqt_F s3 hb))
            refine ⟨.tuple [d, d2], ?_, Same.newA hT, .tup (.of upd_same) (.cons (df_mono (Same.newA hT) (fun _ z => z) (df_monoF (s3.sub fun _ z => z.1) hd)) (.cons (df_mono (Same.newA hT) (fun _ z => z) (df_monoF (s3.sub fun _ z => z.1) hd2)) .nil))⟩
            unfold zipD; rw [List.getElem?_zipWith, q1, q2]
/-- a comprehension over data: the list made -/
theorem lc_run {wi : TI} {g : TG} {tt : TT} {vs : List Nat} {f : PyData → Bool} {m : PyData → PyData} (hi : EI K wi σ F H ds) (hl : ds.length ≤ 50000)
    (ht : ∀ F2 H1, Ext F H F2 H1 → ∀ v d, d ∈ ds → Df K F2 H1 v d → ∃ σ2, (∀ Q : L2.St → Hp → Prop, Q σ2 H1 → g v (wipe σ vs) H1 Q) ∧ wipe σ2 vs = wipe σ vs ∧ ET tt σ2 H1 (f d) ∧ (f d = true → ED K te σ2 F2 H1 (m d))) :
    ∀ H1, Same H H1 → ∀ Q : VK, (∀ D ys H', Same H1 H' → H1 D = none → H' D = some (.lst ys) → DfAll K (fun a => Fr F H1 a ∧ a ≠ D) H' ys ((ds.filter f).map m) → Q (.ref D) H') → tLc wi g tt te vs σ H1 Q := fun H1 s Q q => hi H1 s _ fun J H2 s2 W D hD => by
  have out : ∀ i, i ≤ ds.length → (((ds.take i).filter f).map m).length < 100000 := fun i hi => by
    rw [List.length_map]
    have := List.length_filter_le f (ds.take i)
    rw [List.length_take] at this
    omega
  have hD1 : H1 D = none := s2.freshA hD
  -- what items may be: lists not at D
  let F2 : Addr → Prop := fun a => Fr F H1 a ∧ a ≠ D
  have nF : ¬ F2 D := fun z => z.2 rfl
  refine ⟨fun i k H' => k = ds.length - i ∧ i ≤ ds.length ∧ Same H2 H' ∧ ∃ ys, H' D = some (.lst ys) ∧ DfAll K F2 H' ys (((ds.take i).filter f).map m), ⟨ds.length, by simp, Nat.zero_le _, Same.newA hD, [], upd_same, by simp; exact .nil⟩, ?_⟩
  rintro i k H' ⟨rfl, hi, s3, ys, e, r⟩
  by_cases lt : i < ds.length
  · refine .inr ⟨W.go i H' s3.F lt, fun H5 => Same H2 H5 ∧ ∃ ys, H5 D = some (.lst ys) ∧ DfAll K F2 H5 ys (((ds.take (i + 1)).filter f).map m), fun H5 ⟨a, b⟩ => ⟨ds.length - (i + 1), by omega, rfl, lt, a, b⟩, fun x H3 y => ?_⟩
    obtain ⟨d, hd, s4, hx⟩ := W.yld i H' x H3 s3.F y
    have hx2 : Df K F2 H3 x d := df_mono (Same.refl _) (fun a z => ⟨z.1, fun q => z.2 (q ▸ hD)⟩) hx
    obtain ⟨σ2, hg, hw, htt, hte⟩ := ht F2 H3 ⟨(((s.trans s2).trans s3).trans s4).F, fun a z n => ⟨.inl z, fun q => n (s.freshA (q ▸ hD1))⟩⟩ x d (List.mem_of_getElem? hd) hx2
    have tk : ds.take (i + 1) = ds.take i ++ [d] := by rw [List.take_succ, hd]; rfl
    refine hg _ ⟨hw, htt H3 (Same.refl _) _ fun H4 s5 => ?_⟩
    cases hf : f d with
    | true =>
      refine hte hf H4 s5 _ fun v H5 s6 hv => ?_
      have e4 : H4 D = some (.lst ys) := s5 _ _ (s4 _ _ e)
      have e5 : H5 D = some (.lst ys) := s6 _ _ e4
      have s45 := (s4.trans s5).trans s6
      have r5 : DfAll K F2 H5 ys (((ds.take i).filter f).map m) := dfs_mono s45 (fun _ z => z) r
      have v5 : Df K F2 H5 v (m d) := df_mono (Same.refl _) (fun a z => by
        rcases z with z | z
        · exact z
        · exact ⟨.inr (s2.freshA (s3.freshA ((s4.trans s5).freshA z))), fun q => by rw [q, e4] at z; cases z⟩) hv
      refine ⟨ys, e5, lt5 (by rw [dfs_len r5]; exact out i hi), fun a u h => ?_, ys ++ [v], upd_same, ?_⟩
      · rw [upd_ne (ne_of_none h hD)]; exact s45 _ _ (s3 _ _ h)
      · rw [tk, List.filter_append, List.map_append]
        have e1 : ([d].filter f).map m = [m d] := by simp [hf]
        rw [e1]
        exact dfs_app (dfs_upd e5 nF r5) (.cons (df_upd e5 nF v5) .nil)
    | false =>
      refine ⟨fun a u h => s5 _ _ (s4 _ _ (s3 _ _ h)), ys, s5 _ _ (s4 _ _ e), ?_⟩
      rw [tk, List.filter_append, List.map_append]
      have e1 : ([d].filter f).map m = [] := by simp [hf]
      rw [e1, List.append_nil]
      exact dfs_mono (s4.trans s5) (fun _ z => z) r
  · have : i = ds.length := by omega
    subst this
    refine .inl ⟨W.stop H' s3.F, q D ys H' (s2.trans s3) hD1 e ?_⟩
    rw [List.take_length] at r; exact r
/-- a comprehension over data -/
theorem ed_lc {wi : TI} {g : TG} {tt : TT} {vs : List Nat} {f : PyData → Bool} {m : PyData → PyData} (hi : EI K wi σ F H ds) (hl : ds.length ≤ 50000)
    (ht : ∀ F2 H1, Ext F H F2 H1 → ∀ v d, d ∈ ds → Df K F2 H1 v d → ∃ σ2, (∀ Q : L2.St → Hp → Prop, Q σ2 H1 → g v (wipe σ vs) H1 Q) ∧ wipe σ2 vs = wipe σ vs ∧ ET tt σ2 H1 (f d) ∧ (f d = true → ED K te σ2 F2 H1 (m d))) :
    ED K (tLc wi g tt te vs) σ F H (.list ((ds.filter f).map m)) := fun H1 s Q q => lc_run hi hl ht H1 s Q fun D ys H' s2 n e r => q _ _ s2 (.lst (.inl ⟨.inl e, .inr n⟩) (dfs_mono (Same.refl _) (fun _ z => z.1) r))
theorem et_yes : ET tYes σ H true := fun H1 _ _ q => q H1 (Same.refl _)
end
/-! ### statements over data -/
section
variable {K : PySem.W.Frag} {σ : L2.St} {F : Addr → Prop} {H : Hp} {te ta tb : TE} {t : TT} {d e : PyData} {D : Ends} {tu tw : TS}
theorem s_ret (h : ED K te σ F H d) (k : ∀ v H1, Same H H1 → Df K (Fr F H) H1 v d → D.rt v H1) : tRet te D σ H := h H (Same.refl _) _ k
theorem s_set {i : Nat} (h : ED K te σ F H d) (k : ∀ v H1, Same H H1 → Df K (Fr F H) H1 v d → D.nx (σ.set i (some v)) H1) : tAsg te (gName i) D σ H := h H (Same.refl _) _ k
theorem s_if {b : Bool} (h : ET t σ H b) (h1 : b = true → ∀ H1, Same H H1 → tu D σ H1) (h2 : b = false → ∀ H1, Same H H1 → tw D σ H1) : tIfS t tu tw D σ H := h H (Same.refl _) _ fun H1 s => by
  cases b with
  | true => exact h1 rfl H1 s
  | false => exact h2 rfl H1 s
theorem ed_notInS {c : Nat} {z : Str} (ha : ED K ta σ F H (.str ⟨#[c]⟩)) (hb : ED K tb σ F H (.str z)) :
    ED K (tOp (fun x y H Q => ∃ (c : Nat) (z : Str), x = .str ⟨#[c]⟩ ∧ y = .str z ∧ Q (.bl (!decide (c ∈ z.cps.toList))) H) ta tb) σ F H (.bool (!decide (c ∈ z.cps.toList))) :=
  ed_op ha hb fun F a b H1 hx hy Q q => by
    cases hx; cases hy; exact ⟨c, z, rfl, rfl, q _ _ (Same.refl _) (.bl _)⟩
theorem ed_inS {c : Nat} {z : Str} (ha : ED K ta σ F H (.str ⟨#[c]⟩)) (hb : ED K tb σ F H (.str z)) :
    ED K (tOp (fun x y H Q => ∃ (c : Nat) (z : Str), x = .str ⟨#[c]⟩ ∧ y = .str z ∧ Q (.bl (decide (c ∈ z.cps.toList))) H) ta tb) σ F H (.bool (decide (c ∈ z.cps.toList))) :=
  ed_op ha hb fun F a b H1 hx hy Q q => by
    cases hx; cases hy; exact ⟨c, z, rfl, rfl, q _ _ (Same.refl _) (.bl _)⟩
end
end Ag

set_option Elab.async false
set_option linter.all false
set_option maxRecDepth 100000
set_option maxHeartbeats 1000000
/-! More rules over data: x is True, in of texts, slices and sums of tuples, list.extend of a tuple. -/
namespace Ag
open PySem PySem.Spec PyProof.Rows L2
/-- a value of data -/
def isDat : V → Bool | .non | .bl _ | .int _ | .str _ | .ref _ => true | _ => false
def rIsX (neg : Bool) : R2 := fun x y H Q => ∃ b, y = .bl b ∧ isDat x = true ∧ Q (.bl (if neg then !decide (x = .bl b) else decide (x = .bl b))) H
theorem is_dat {v : Value} {x : V} {b : Bool} (r : RelV x v) (h : isDat x = true) : plainIs v (.bool b) = true ∧ (v == Value.bool b) = decide (x = .bl b) := by
  cases x with
  | non => cases r; exact ⟨rfl, by rw [decide_eq_false (fun z => nomatch z)]; rfl⟩
  | bl c => cases r; exact ⟨rfl, by cases c <;> cases b <;> decide⟩
  | int i => obtain ⟨t, rfl⟩ := r; exact ⟨rfl, by rw [decide_eq_false (fun z => nomatch z)]; rfl⟩
  | str i => obtain ⟨t, rfl⟩ := r; exact ⟨rfl, by rw [decide_eq_false (fun z => nomatch z)]; rfl⟩
  | ref a => cases r; exact ⟨rfl, by rw [decide_eq_false (fun z => nomatch z)]; rfl⟩
  | _ => cases h
theorem op_isB {X : Cx} : OpR X (compareOp .Is) (rIsX false) := by
  intro pins s σ H x y v u Q I rx ry h
  obtain ⟨b, rfl, hd, q⟩ := h
  cases (show u = Value.bool b from ry)
  obtain ⟨h1, h2⟩ := is_dat (b := b) rx hd
  exact wpAny_is_plain h1 ⟨.bl _, H, I, rfl, by rw [h2]; exact q⟩
theorem op_isnotB {X : Cx} : OpR X (compareOp .IsNot) (rIsX true) := by
  intro pins s σ H x y v u Q I rx ry h
  obtain ⟨b, rfl, hd, q⟩ := h
  cases (show u = Value.bool b from ry)
  obtain ⟨h1, h2⟩ := is_dat (b := b) rx hd
  exact wpAny_isNot_plain h1 ⟨.bl _, H, I, rfl, by rw [h2]; exact q⟩
end Ag
namespace PySem.AutoSeq1
open PySem PySem.Spec PyProof.Rows
set_option maxRecDepth 8000 in
theorem list_extend_tup (l : Addr) (items : Array Value) (n : Nat) (b : Addr) (items2 : Array Value) (n2 : Nat) (dd : Option Addr) (sl : Array (Option Value)) (hs0 : ¬(!items.isEmpty && Builtin.List.listTooLong (items.size + items2.size)) = true) (hs1 : items.size ≤ sizeLine) (hs2 : items.size + items2.size ≤ sizeLine + 1) :
    Meets (Builtin.«list.extend» ⟨[.ref l, .ref b], []⟩) (fun _ R s => s.heap.get? l = some { cls := .type "list", dict := none, data := .seq items n, slots := #[] } ∧ s.heap.get? b = some { cls := .type "tuple", dict := dd, data := .seq items2 n2, slots := sl } ∧ R (.ok (.ret Value.none)) { s with heap := s.heap.update l (Obj.mapSeq fun x => x ++ items2), toks := s.toks }) :=
  .of_wp fun prog w A R s h => by
    obtain ⟨hp, g, d, tk, os⟩ := s; obtain ⟨hl, hb, h⟩ := h; have f1 := idx_int; have f2 := sub_tuple_tuple; have f3 := sub_list_list; have f4 := sub_tuple_list; have f5 := sub_list_tuple;
    have hz' : (items ++ items2).size ≤ sizeLine + 1 := by rw [Array.size_append]; exact hs2
    wp_walk using (wpAny_updateSeq hl rfl (hz := hs1) (_hz' := hz')), wpAny_loadPart' hl, wpAny_loadPart' hb; exact ⟨_, rfl, h⟩
end PySem.AutoSeq1
namespace Ag
open PySem PySem.Spec PyProof.Rows L2
/-- l.extend(tuple) -/
def rExtendT (K : PySem.W.Frag) : V → List V → Hp → VK → Prop := fun x vs H Q => ∃ l b xs zs, x = .ref l ∧ vs = [.ref b] ∧ H l = some (.lst xs) ∧ SqT K H b zs ∧ xs.length + zs.length ≤ sizeLine ∧ Q .non (upd H l (.lst (xs ++ zs)))
theorem mt_extendT {X : Cx} : MtM X "list.extend" (rExtendT X.K) := by
  intro pins s σ H x vs v us Q I rx rv h
  obtain ⟨l, b, xs, zs, rfl, rfl, hH, hB, hz, q⟩ := h
  cases rx
  obtain ⟨u, rfl, ru⟩ := rv.one
  cases ru
  obtain ⟨z, its, n, r, hl, e⟩ := I.lstM hH
  obtain ⟨its2, r2, ⟨⟨oc, od, odt, osl⟩, e2, ec, n2, ed⟩, hz2⟩ := I.tuple hB
  simp only at ec ed
  subst ec ed
  have hl2 := r2.length
  have hsz : its.toArray.size + its2.toArray.size ≤ sizeLine := by rw [List.size_toArray, List.size_toArray]; omega
  have hlong : ¬ (!its.toArray.isEmpty && Builtin.List.listTooLong (its.toArray.size + its2.toArray.size)) = true := by
    rw [notLongL hsz, Bool.and_false]
    exact Bool.false_ne_true
  refine call_meets F.slot_list_extend ⟨_, e, rfl⟩ F.entry_list_extend (F.args_list_extend_2 _ _)
    (PySem.AutoSeq1.list_extend_tup l its.toArray n b its2.toArray n2 od osl hlong (by rw [List.size_toArray]; omega) (by omega)) ⟨e, e2, ?_⟩
  refine ⟨.non, _, I.lset (its' := its ++ its2) hH e (by simp) (r.append r2) ?_, rfl, q⟩
  rw [List.length_append]
  omega

section
variable {K : PySem.W.Frag} {σ : L2.St} {F : Addr → Prop} {H : Hp} {te ta tb : TE} {d e : PyData}
theorem df_isDat {x : V} (h : Df K F H x d) : isDat x = true := by cases h <;> rfl
def isB (b : Bool) : PyData → Bool | .bool c => c == b | _ => false
theorem isB_of {b : Bool} {x : V} (h : Df K F H x d) : decide (x = .bl b) = isB b d := by
  cases h with
  | bl c => cases c <;> cases b <;> decide
  | _ => exact decide_eq_false (fun z => nomatch z)
theorem ed_isB {b : Bool} (ha : ED K ta σ F H d) : ED K (tOp (rIsX false) ta (tC (.bl b))) σ F H (.bool (isB b d)) :=
  ed_op ha ed_bl fun F x y H1 hx hy Q q => by
    cases hy; refine ⟨b, rfl, df_isDat hx, ?_⟩
    show Q (.bl (decide (x = .bl b))) H1
    rw [isB_of hx]; exact q _ _ (Same.refl _) (.bl _)
theorem ed_isnotB {b : Bool} (ha : ED K ta σ F H d) : ED K (tOp (rIsX true) ta (tC (.bl b))) σ F H (.bool (!isB b d)) :=
  ed_op ha ed_bl fun F x y H1 hx hy Q q => by
    cases hy; refine ⟨b, rfl, df_isDat hx, ?_⟩
    show Q (.bl (!decide (x = .bl b))) H1
    rw [isB_of hx]; exact q _ _ (Same.refl _) (.bl _)
theorem inV_strs (x : Str) : ∀ (xs : List Str), inV (.str x) (xs.map V.str) = decide (x ∈ xs)
  | [] => rfl
  | y :: ys => by
    have ih := inV_strs x ys
    unfold inV at ih ⊢
    rw [List.map_cons, List.any_cons, ih]
    have e : eqV (.str y) (.str x) = decide (y = x) := rfl
    rw [e]
    by_cases h : x = y
    · subst h; simp
    · have h' : ¬ y = x := fun q => h q.symm
      simp [h, h']
theorem flat_strs : ∀ (xs : List Str), (xs.map V.str).all flatV = true
  | [] => rfl
  | y :: ys => by rw [List.map_cons, List.all_cons, flat_strs ys]; rfl
theorem ed_inSeq {x : Str} {xs : List Str} (ha : ED K ta σ F H (.str x)) (hb : ED K tb σ F H e) (he : e = .tuple (xs.map .str) ∨ e = .list (xs.map .str)) : ED K (tOp (rIn K false) ta tb) σ F H (.bool (decide (x ∈ xs))) :=
  ed_op ha hb fun F a b H1 hx hy Q q => by
    cases hx
    have h : ∃ p, b = .ref p ∧ (SqL K H1 p (xs.map V.str) ∨ SqT K H1 p (xs.map V.str)) := by
      rcases he with rfl | rfl
      · cases hy with
        | tup h r => rw [strs_dps (dfs_dps r)] at h; exact ⟨_, rfl, .inr h⟩
      · cases hy with
        | lst h r => rw [strs_dps (dfs_dps r)] at h; exact ⟨_, rfl, .inl (h.imp (fun z => z.1) id)⟩
    obtain ⟨p, rfl, h⟩ := h
    refine ⟨p, _, rfl, h, rfl, flat_strs xs, ?_⟩
    show Q (.bl (inV (.str x) (xs.map V.str))) H1
    rw [inV_strs]; exact q _ _ (Same.refl _) (.bl _)
theorem ed_notInSeq {x : Str} {xs : List Str} (ha : ED K ta σ F H (.str x)) (hb : ED K tb σ F H e) (he : e = .tuple (xs.map .str) ∨ e = .list (xs.map .str)) : ED K (tOp (rIn K true) ta tb) σ F H (.bool (!decide (x ∈ xs))) :=
  ed_op ha hb fun F a b H1 hx hy Q q => by
    cases hx
    have h : ∃ p, b = .ref p ∧ (SqL K H1 p (xs.map V.str) ∨ SqT K H1 p (xs.map V.str)) := by
      rcases he with rfl | rfl
      · cases hy with
        | tup h r => rw [strs_dps (dfs_dps r)] at h; exact ⟨_, rfl, .inr h⟩
      · cases hy with
        | lst h r => rw [strs_dps (dfs_dps r)] at h; exact ⟨_, rfl, .inl (h.imp (fun z => z.1) id)⟩
    obtain ⟨p, rfl, h⟩ := h
    refine ⟨p, _, rfl, h, rfl, flat_strs xs, ?_⟩
    show Q (.bl (!inV (.str x) (xs.map V.str))) H1
    rw [inV_strs]; exact q _ _ (Same.refl _) (.bl _)
theorem ed_catT {xs ys : List PyData} (ha : ED K ta σ F H (.tuple xs)) (hb : ED K tb σ F H (.tuple ys)) (hl : xs.length + ys.length ≤ 100000) : ED K (tOp (rCatA K) ta tb) σ F H (.tuple (xs ++ ys)) :=
  ed_op ha hb fun F a b H1 hx hy Q q => by
    cases hx with
    | tup h r =>
      cases hy with
      | tup h2 r2 =>
        refine ⟨_, _, _, _, rfl, rfl, h, h2, by rw [dfs_len r, dfs_len r2]; exact small5 hl, fun z => ?_, fun _ z => ?_, fun _ _ p hp => ?_⟩
        · subst z; cases r; exact q _ _ (Same.refl _) (.tup h2 (dfs_mono (Same.refl _) (fun _ z => .inl z) r2))
        · subst z; cases r2; exact q _ _ (Same.refl _) (by rw [List.append_nil]; exact .tup h (dfs_mono (Same.refl _) (fun _ z => .inl z) r))
        · exact q _ _ (Same.newA hp) (.tup (.of upd_same) (dfs_mono (Same.newA hp) (fun _ z => .inl z) (dfs_app r r2)))
def cutD (xs : List PyData) (lo hi : Option Int) : List PyData := (xs.drop (HT.sIx xs.length 0 lo)).take (HT.sIx xs.length xs.length hi - HT.sIx xs.length 0 lo)
theorem dfs_cut {vs : List V} {ds : List PyData} {lo hi : Option Int} (h : DfAll K F H vs ds) : DfAll K F H (cutV vs lo hi) (cutD ds lo hi) := by
  unfold cutV cutD; rw [dfs_len h]; exact dfs_take _ (dfs_drop _ h)
theorem cutD_all {ds : List PyData} {lo hi : Option Int} (h : HT.sIx ds.length 0 lo = 0 ∧ HT.sIx ds.length ds.length hi = ds.length) : cutD ds lo hi = ds := by
  unfold cutD; rw [h.1, h.2, List.drop_zero, Nat.sub_zero, List.take_length]
theorem eo_none : EO tNoPart σ H none := fun H1 s Q q => q H1 (Same.refl _)
theorem eo_some {i : Int} (h : ED K te σ F H (.int i)) : EO (tPart te) σ H (some i) := fun H1 s Q q => h H1 s _ fun v H2 s2 hv => by
  cases hv; exact ⟨i, rfl, q H2 s2⟩
theorem ed_slT {xs : List PyData} {tl th : TO} {lo hi : Option Int} (h : ED K te σ F H (.tuple xs)) (hl : EO tl σ H lo) (hh : EO th σ H hi) : ED K (tSl (rSlA K) te tl th) σ F H (.tuple (cutD xs lo hi)) := fun H1 s Q q =>
  h H1 s _ fun v H2 s2 hv => hl H2 (s.trans s2) _ fun H3 s3 => hh H3 ((s.trans s2).trans s3) _ fun H4 s4 => by
    cases hv with
    | tup ht r =>
      have s34 := s3.trans s4
      have s24 := s2.trans s34
      refine ⟨_, _, rfl, s34.stA ht, fun z => ?_, fun _ p hp => ?_⟩
      · rw [dfs_len r] at z
        exact q _ _ s24 (by rw [cutD_all z]; exact .tup (s34.stA ht) (dfs_mono s34 (fun _ z => z) r))
      · exact q _ _ (s24.trans (Same.newA hp)) (.tup (.of upd_same) (dfs_mono (s34.trans (Same.newA hp)) (fun _ z => z) (dfs_cut r)))
theorem ed_slL {xs : List PyData} {tl th : TO} {lo hi : Option Int} (h : ED K te σ F H (.list xs)) (hl : EO tl σ H lo) (hh : EO th σ H hi) : ED K (tSl (rSlL K) te tl th) σ F H (.list (cutD xs lo hi)) := fun H1 s Q q =>
  h H1 s _ fun v H2 s2 hv => hl H2 (s.trans s2) _ fun H3 s3 => hh H3 ((s.trans s2).trans s3) _ fun H4 s4 => by
    cases hv with
    | lst ht r =>
      have s34 := s3.trans s4
      have s24 := s2.trans s34
      refine ⟨_, _, rfl, s34.slA (ht.imp (fun z => z.1) id), fun p hp => ?_⟩
      exact q _ _ (s24.trans (Same.newA hp)) (.lst (.inl ⟨.inl upd_same, .inr (s24.freshA hp)⟩) (dfs_mono (s34.trans (Same.newA hp)) (fun _ z => z) (dfs_cut r)))
theorem filt_tt {α : Type} (l : List α) : l.filter (fun _ => true) = l := List.filter_eq_self.mpr fun _ _ => rfl
end
end Ag

set_option Elab.async false
set_option linter.all false
set_option maxRecDepth 100000
set_option maxHeartbeats 1000000
/-! A list beside the empty list, whatever its depth. -/
namespace Ag
open PySem PySem.Spec PyProof.Rows L2
def rNeE (K : PySem.W.Frag) : R2 := fun x y H Q => ∃ ds, Dp K H x (.list ds) ∧ Dp K H y (.list []) ∧ PyData.canLayAll0 ds = true ∧ Q (.bl (!ds.isEmpty)) H
def rEqE (K : PySem.W.Frag) : R2 := fun x y H Q => ∃ ds, Dp K H x (.list ds) ∧ Dp K H y (.list []) ∧ PyData.canLayAll0 ds = true ∧ Q (.bl ds.isEmpty) H
theorem eqv_empty : ∀ (ds : List PyData), PyData.eqv (.list ds) (.list []) = ds.isEmpty
  | [] => by simp [PyData.eqv, PyData.eqvAll]
  | _ :: _ => by simp [PyData.eqv, PyData.eqvAll]
theorem room_empty {A : Around} {d : PyData} (hu : A.units + 64 < cLine) : A.units + min d.depth (PyData.list []).depth < cLine := by
  have h : (PyData.list []).depth ≤ 64 := by decide
  have h2 : min d.depth (PyData.list []).depth ≤ (PyData.list []).depth := Nat.min_le_right _ _
  omega
theorem op_neE {X : Cx} (hu : X.A.units + 64 < cLine) : OpR X (compareOp .NotEq) (rNeE X.K) := by
  intro pins s σ H x y v u Q I rx ry h
  obtain ⟨ds, hd, he, sd, q⟩ := h
  obtain ⟨as, r1⟩ := Dp.reads I (.list ds) x v hd rx
  obtain ⟨bs, r2⟩ := Dp.reads I (.list []) y u he ry
  exact SeqAt.compareNe_reads r1 r2 (by simpa [PyData.canLay0] using sd) (by simp [PyData.canLay0, PyData.canLayAll0]) (room_empty hu) ⟨.bl _, H, I, rfl, by rw [eqv_empty]; exact q⟩
theorem op_eqE {X : Cx} (hu : X.A.units + 64 < cLine) : OpR X (compareOp .Eq) (rEqE X.K) := by
  intro pins s σ H x y v u Q I rx ry h
  obtain ⟨ds, hd, he, sd, q⟩ := h
  obtain ⟨as, r1⟩ := Dp.reads I (.list ds) x v hd rx
  obtain ⟨bs, r2⟩ := Dp.reads I (.list []) y u he ry
  exact SeqAt.compareEq_reads r1 r2 (by simpa [PyData.canLay0] using sd) (by simp [PyData.canLay0, PyData.canLayAll0]) (room_empty hu) ⟨.bl _, H, I, rfl, by rw [eqv_empty]; exact q⟩
section
variable {K : PySem.W.Frag} {σ : L2.St} {F : Addr → Prop} {H : Hp} {te ta tb : TE} {ds : List PyData}
theorem ed_neE (ha : ED K ta σ F H (.list ds)) (hb : ED K tb σ F H (.list [])) (hl : PyData.canLayAll0 ds = true) : ED K (tOp (rNeE K) ta tb) σ F H (.bool (!ds.isEmpty)) :=
  ed_op ha hb fun F a b H1 hx hy Q q => ⟨ds, df_dp hx, df_dp hy, hl, q _ _ (Same.refl _) (.bl _)⟩
theorem ed_eqE (ha : ED K ta σ F H (.list ds)) (hb : ED K tb σ F H (.list [])) (hl : PyData.canLayAll0 ds = true) : ED K (tOp (rEqE K) ta tb) σ F H (.bool ds.isEmpty) :=
  ed_op ha hb fun F a b H1 hx hy Q q => ⟨ds, df_dp hx, df_dp hy, hl, q _ _ (Same.refl _) (.bl _)⟩
theorem ed_emp : ED K (tLst tNil) σ F H (.list []) := ed_lst ea_nil (by decide)
/-- a comprehension of two clauses over data: the list made -/
theorem lc2_run {wi wi1 : TI} {g g1 : TG} {tt tt1 : TT} {vs vs1 : List Nat} {es : PyData → List PyData} {m : PyData → PyData} (hi : EI K wi σ F H ds) (hl : (ds.flatMap es).length ≤ 50000)
    (ht : ∀ F2 H1, Ext F H F2 H1 → ∀ v d, d ∈ ds → Df K F2 H1 v d → ∃ σ2, (∀ Q : L2.St → Hp → Prop, Q σ2 H1 → g v (wipe σ vs) H1 Q) ∧ wipe σ2 vs = wipe σ vs ∧ ET tt σ2 H1 true ∧ EI K wi1 σ2 F2 H1 (es d) ∧
      ∀ F3 H2, Ext F2 H1 F3 H2 → ∀ v2 d2, d2 ∈ es d → Df K F3 H2 v2 d2 → ∃ σ3, (∀ Q : L2.St → Hp → Prop, Q σ3 H2 → g1 v2 (wipe σ2 vs1) H2 Q) ∧ wipe σ3 vs1 = wipe σ2 vs1 ∧ ET tt1 σ3 H2 true ∧ ED K te σ3 F3 H2 (m d2)) :
    ∀ H1, Same H H1 → ∀ Q : VK, (∀ D ys H', Same H1 H' → H1 D = none → H' D = some (.lst ys) → DfAll K (fun a => Fr F H1 a ∧ a ≠ D) H' ys ((ds.flatMap es).map m) → Q (.ref D) H') → tLc2 wi g tt wi1 g1 tt1 te vs vs1 σ H1 Q := fun H1 s Q q => hi H1 s _ fun J H2 s2 W D hD => by
  have hD1 : H1 D = none := s2.freshA hD
  let F2 : Addr → Prop := fun a => Fr F H1 a ∧ a ≠ D
  have nF : ¬ F2 D := fun z => z.2 rfl
  refine ⟨fun i k H' => k = ds.length - i ∧ i ≤ ds.length ∧ Same H2 H' ∧ ∃ ys, H' D = some (.lst ys) ∧ DfAll K F2 H' ys (((ds.take i).flatMap es).map m), ⟨ds.length, by simp, Nat.zero_le _, Same.newA hD, [], upd_same, by simp; exact .nil⟩, ?_⟩
  rintro i k H' ⟨rfl, hi, s3, ys, e, r⟩
  by_cases lt : i < ds.length
  · refine .inr ⟨W.go i H' s3.F lt, fun H5 => Same H2 H5 ∧ ∃ ys, H5 D = some (.lst ys) ∧ DfAll K F2 H5 ys (((ds.take (i + 1)).flatMap es).map m), fun H5 ⟨a, b⟩ => ⟨ds.length - (i + 1), by omega, rfl, lt, a, b⟩, fun x H3 y => ?_⟩
    obtain ⟨d, hd, s4, hx⟩ := W.yld i H' x H3 s3.F y
    have hx2 : Df K F2 H3 x d := df_mono (Same.refl _) (fun a z => ⟨z.1, fun q => z.2 (q ▸ hD)⟩) hx
    obtain ⟨σ2, hg, hw, htt, hin, hte⟩ := ht F2 H3 ⟨(((s.trans s2).trans s3).trans s4).F, fun a z n => ⟨.inl z, fun q => n (s.freshA (q ▸ hD1))⟩⟩ x d (List.mem_of_getElem? hd) hx2
    have tk : ds.take (i + 1) = ds.take i ++ [d] := by rw [List.take_succ, hd]; rfl
    have tkf : (ds.take (i + 1)).flatMap es = (ds.take i).flatMap es ++ es d := by rw [tk, List.flatMap_append]; simp
    have bnd : ((ds.take i).flatMap es ++ es d).length ≤ 50000 := by
      rw [← tkf]
      refine Nat.le_trans ?_ hl
      conv => rhs; rw [← List.take_append_drop (i + 1) ds, List.flatMap_append, List.length_append]
      exact Nat.le_add_right _ _
    refine hg _ ⟨hw, htt H3 (Same.refl _) _ fun H4 s5 => ?_⟩
    have e4 : H4 D = some (.lst ys) := s5 _ _ (s4 _ _ e)
    refine hin H4 s5 _ fun J1 H6 s6 W1 => ?_
    have e6 := s6 _ _ e4
    have s36 := (s4.trans s5).trans s6
    have nF4 : ¬ Fr F2 H4 D := fun z => z.elim nF (fun z => by rw [e4] at z; cases z)
    have to2 : ∀ a, Fr F2 H4 a → F2 a := fun a z => z.elim id fun z => ⟨.inr (s2.freshA (s3.freshA ((s4.trans s5).freshA z))), fun q => by rw [q, e4] at z; cases z⟩
    refine ⟨fun j k H' => k = (es d).length - j ∧ j ≤ (es d).length ∧ Same H2 H' ∧ SameF (Fr F2 H4) H6 H' ∧ ∃ ys, H' D = some (.lst ys) ∧ DfAll K F2 H' ys (((ds.take i).flatMap es ++ (es d).take j).map m), ⟨(es d).length, by simp, Nat.zero_le _, s3.trans s36, SameF.refl, ys, e6, by simp only [List.take_zero, List.append_nil]; exact dfs_mono s36 (fun _ z => z) r⟩, ?_⟩
    rintro j k H' ⟨rfl, hj, t3, tF, zs, ez, rz⟩
    by_cases lj : j < (es d).length
    · refine .inr ⟨W1.go j H' tF lj, fun H5 => Same H2 H5 ∧ SameF (Fr F2 H4) H6 H5 ∧ ∃ ys, H5 D = some (.lst ys) ∧ DfAll K F2 H5 ys (((ds.take i).flatMap es ++ (es d).take (j + 1)).map m), fun H5 ⟨a, b, c⟩ => ⟨(es d).length - (j + 1), by omega, rfl, lj, a, b, c⟩, fun x2 H7 y2 => ?_⟩
      obtain ⟨d2, hd2, t4, hx3⟩ := W1.yld j H' x2 H7 tF y2
      have hx4 : Df K F2 H7 x2 d2 := df_mono (Same.refl _) (fun a z => to2 a z.1) hx3
      have F37 : SameF F2 H3 H7 := ((s5.trans s6).F.trans (tF.sub fun a z => .inl z)).trans t4.F
      obtain ⟨σ3, hg3, hw3, htt3, hte3⟩ := hte F2 H7 ⟨F37, fun a z _ => z⟩ x2 d2 (List.mem_of_getElem? hd2) hx4
      have tk2 : (es d).take (j + 1) = (es d).take j ++ [d2] := by rw [List.take_succ, hd2]; rfl
      refine hg3 _ ⟨hw3, htt3 H7 (Same.refl _) _ fun H8 t5 => ?_⟩
      refine hte3 H8 t5 _ fun v H9 t6 hv => ?_
      have t46 := (t4.trans t5).trans t6
      have e9 : H9 D = some (.lst zs) := t46 _ _ ez
      have r9 : DfAll K F2 H9 zs (((ds.take i).flatMap es ++ (es d).take j).map m) := dfs_mono t46 (fun _ z => z) rz
      have v9 : Df K F2 H9 v (m d2) := df_mono (Same.refl _) (fun a z => by
        rcases z with z | z
        · exact z
        · exact ⟨.inr (s2.freshA (t3.freshA ((t4.trans t5).freshA z))), fun q => by
            have := (t4.trans t5) _ _ ez
            rw [q, this] at z; cases z⟩) hv
      have len9 := dfs_len r9
      rw [List.length_map, List.length_append, List.length_take] at len9
      rw [List.length_append] at bnd
      refine ⟨zs, e9, lt5 (by omega), fun a u h => ?_, (tF.trans t46.F).trans (SameF.upd e9 nF4), zs ++ [v], upd_same, ?_⟩
      · rw [upd_ne (ne_of_none h hD)]; exact t46 _ _ (t3 _ _ h)
      · rw [tk2, ← List.append_assoc, List.map_append]
        exact dfs_app (dfs_upd e9 nF r9) (.cons (df_upd e9 nF v9) .nil)
    · have : j = (es d).length := by omega
      subst this
      refine .inl ⟨W1.stop H' tF, t3, zs, ez, ?_⟩
      rw [tkf]; rw [List.take_length] at rz; exact rz
  · have : i = ds.length := by omega
    subst this
    refine .inl ⟨W.stop H' s3.F, q D ys H' (s2.trans s3) hD1 e ?_⟩
    rw [List.take_length] at r; exact r
end
end Ag

set_option Elab.async false
set_option linter.all false
set_option maxRecDepth 100000
set_option maxHeartbeats 1000000
/-! A text times an int; data that is good, made without naming it. -/
namespace Ag
open PySem PySem.Spec PyProof.Rows L2
def rRepS : R2 := fun x y H Q => ∃ (z : Str) (n : Nat), x = .str z ∧ y = .int (n : Int) ∧ z.length ≤ 1000 ∧ n ≤ 1000 ∧ Q (.str (Txt.mul z n)) H
theorem op_repS {X : Cx} : OpR X (binaryOp .Mult) rRepS := by
  intro pins s σ H x y v u Q I rx ry h
  obtain ⟨z, n, rfl, rfl, h1, h2, q⟩ := h
  obtain ⟨t, rfl⟩ := rx
  obtain ⟨t', rfl⟩ := ry
  exact SB.mul (mulOk_of 1000 1000 h1 (by omega) (by omega) (by decide) (by decide)) fun t' k => ⟨.str _, H, I.tok _, ⟨_, rfl⟩, q⟩
end Ag

set_option Elab.async false
set_option linter.all false
set_option maxRecDepth 100000
set_option maxHeartbeats 1000000
/-! sorted(list of alike data) over the layer: texts, ints, tuples of such. -/
namespace Ag
open PySem PySem.Spec PyProof.Rows L2
open PySem.W (EachIs AllAlike Sortable dataKind sortLe dataLt keyToks)
/-- a is not behind b -/
def leD (a b : PyData) : Bool := !dataLt b a
theorem each_of {h : Heap} : ∀ {xs : List V} {us : List Value} {ds : List PyData} {as : List Addr}, Vals xs us → ReadsAll h us ds as → EachIs (fun (u : Value) (b : V × PyData) => RelV b.1 u ∧ (∃ as, Reads h u b.2 as) ∧ b.2 ∈ ds) us (xs.zip ds)
  | [], _, _, _, .nil, .nil => .nil
  | x :: xs, u :: us, _, _, .cons r t, .cons (d := d) (ds := ds) h1 h2 => by
    rw [List.zip_cons_cons]
    refine .cons ⟨r, ⟨_, h1⟩, List.mem_cons_self⟩ (EachIs.mono (fun u b z => ⟨z.1, z.2.1, List.mem_cons_of_mem _ z.2.2⟩) (each_of t h2))
theorem vals_each {us : List Value} {zs : List (V × PyData)} (h : EachIs (fun (u : Value) (b : V × PyData) => RelV b.1 u) us zs) : Vals (zs.map Prod.fst) us := by
  induction h with
  | nil => exact .nil
  | cons a _ ih => exact .cons a ih
theorem each_reads {h : Heap} : ∀ {us : List Value} {ds : List PyData} {as : List Addr}, ReadsAll h us ds as → EachIs (fun v d => ∃ as, Reads h v d as) us ds
  | [], _, _, .nil => .nil
  | _ :: _, _, _, .cons a r => .cons ⟨_, a⟩ (each_reads r)
/-- sorted(xs): the data in their order, equal ones as they stood; zs: the items beside their data -/
def rSortD (K : PySem.W.Frag) : List V → Hp → VK → Prop := fun vs H Q => ∃ (a : Addr) (xs : List V) (ds : List PyData), vs = [V.ref a] ∧ SqL K H a xs ∧ DpAll K H xs ds ∧ AllAlike ds ∧ Sortable ds ∧ (∀ d ∈ ds, d.depth ≤ 50) ∧
  ∀ (zs : List (V × PyData)) p, zs.Perm (xs.zip ds) → zs.map Prod.snd = ds.mergeSort leD → H p = none → Q (.ref p) (upd H p (.lst (zs.map Prod.fst)))
theorem cr_sortD {X : Cx} (hu : X.A.units + 64 < cLine) : CallR X (.builtin "sorted") (rSortD X.K) := by
  intro pins s σ H vs us Q I r h
  obtain ⟨a, xs, ds, rfl, hs, hd, al, so, dp, q⟩ := h
  obtain ⟨its, rv, hl, hz⟩ := I.list hs
  rw [Vals.ref1 r]
  obtain ⟨as, hr⟩ := Dp.readsAll I ds xs its hd rv
  have len : its.length = ds.length := by rw [← rv.length, dps_len hd]
  have hr2 : ReadsAll (PySem.W.sortingHeap (PySem.W.copyHeap s.heap its) (s.heap.objs.size + 1) its) its ds as := PyProof.Rows.ReadsAll.keeps (fun b o e => PySem.W.sorting_copy_old e) hr
  refine PySem.W.sorted_vals (κ := dataKind (PySem.W.sortingHeap (PySem.W.copyHeap s.heap its) (s.heap.objs.size + 1) its) ds) hl.isList (PySem.W.SortsAt.data (each_reads hr2) al so fun d hd => ?_) (by rw [← rv.length]; exact hz) ?_
  · have := dp d hd
    show X.A.units + 1 + 1 + d.depth < cLine
    omega
  · have e1 := each_of rv hr2
    have hk : EachIs (fun (v : Value) (b : V × PyData) => (dataKind (PySem.W.sortingHeap (PySem.W.copyHeap s.heap its) (s.heap.objs.size + 1) its) ds).keyOf v = some (keyToks b.2)) its (xs.zip ds) :=
      EachIs.mono (fun u b z => by
        obtain ⟨_, ⟨as, h2⟩, h3⟩ := z
        exact PySem.W.dataKind_some al h3 h2) e1
    have e2 : EachIs (fun (u : Value) (b : V × PyData) => RelV b.1 u) its (xs.zip ds) := EachIs.mono (fun u b z => z.1) e1
    have e3 := PySem.W.sortVals_each (κ := dataKind (PySem.W.sortingHeap (PySem.W.copyHeap s.heap its) (s.heap.objs.size + 1) its) ds) (rev := false) (ks := its) (fun b : V × PyData => keyToks b.2) e2 hk
    have hn : H (s.heap.objs.size + 1) = none := I.hok.fresh (Nat.le_succ _)
    have hv := vals_each e3
    have pm : ((xs.zip ds).mergeSort (sortLe (dataKind (PySem.W.sortingHeap (PySem.W.copyHeap s.heap its) (s.heap.objs.size + 1) its) ds).toKeyOrd false fun b : V × PyData => keyToks b.2)).Perm (xs.zip ds) := List.mergeSort_perm _ _
    obtain ⟨n, hat⟩ := sortedAll_at s.heap its (PySem.W.sortVals (dataKind (PySem.W.sortingHeap (PySem.W.copyHeap s.heap its) (s.heap.objs.size + 1) its) ds) false its its).toArray
    refine ⟨.ref (s.heap.objs.size + 1), upd H (s.heap.objs.size + 1) (.lst (((xs.zip ds).mergeSort (sortLe (dataKind (PySem.W.sortingHeap (PySem.W.copyHeap s.heap its) (s.heap.objs.size + 1) its) ds).toKeyOrd false fun b : V × PyData => keyToks b.2)).map Prod.fst)),
      I.laid (t' := s.toks) (fun b o e => sortedAll_old e) (Nat.le_succ _) ⟨?_, _, n, hv, hat⟩, rfl, q _ _ pm ?_ hn⟩
    · rw [List.length_map, pm.length_eq, List.length_zip]
      have := dps_len hd
      have := rv.length
      omega
    · exact (PySem.W.sort_maps (s := leD) Prod.snd fun p _ q _ => rfl).trans (by rw [List.map_snd_zip (by have := dps_len hd; omega)])
end Ag

set_option Elab.async false
set_option linter.all false
set_option maxRecDepth 100000
set_option maxHeartbeats 1000000
/-! Texts split and joined, as data. -/
namespace Ag
open PySem PySem.Spec PyProof.Rows L2
section
variable {K : PySem.W.Frag} {σ : L2.St} {F : Addr → Prop} {H : Hp} {to te : TE} {a b : Str}
theorem ed_split (ho : ED K to σ F H (.str a)) (he : ED K te σ F H (.str b)) (hb : (b.length == 0) = false) (ha : a.length ≤ 100000) :
    ED K (tM1 (fun x xs H Q => ∃ a b, x = .str a ∧ xs = [.str b] ∧ (b.length == 0) = false ∧ a.length + 2 ≤ sizeLine ∧ rNewStrs (Txt.split a b) H Q) to te) σ F H (.list ((Txt.split a b).map .str)) := fun H1 s Q q =>
  ho H1 s _ fun v H2 s2 hv => by
    cases hv
    refine ⟨⟨a, rfl⟩, he H2 (s.trans s2) _ fun u H3 s3 hu => ?_⟩
    cases hu
    refine ⟨a, b, rfl, rfl, hb, Nat.le_trans (Nat.add_le_add_right ha 2) (by decide), fun p hp => ?_⟩
    have s23 := s2.trans s3
    exact q _ _ (s23.trans (Same.newA hp)) (.lst (.inl ⟨.inl upd_same, .inr (s23.freshA hp)⟩) (dfs_strs _))
theorem ed_join {ys : List Str} {e : PyData} (ho : ED K to σ F H (.str a)) (he : ED K te σ F H e) (h : e = .list (ys.map .str) ∨ e = .tuple (ys.map .str)) (hl : (ys.map (·.length)).sum + ys.length * a.length ≤ 16777216) :
    ED K (tM1 (fun x xs H Q => ∃ a p, ∃ ys : List Str, x = .str a ∧ xs = [.ref p] ∧ (SqL K H p (ys.map V.str) ∨ SqT K H p (ys.map V.str)) ∧ (ys.map (·.length)).sum + ys.length * a.length ≤ 16777216 ∧ Q (.str (Txt.join a ys)) H) to te) σ F H (.str (Txt.join a ys)) := fun H1 s Q q =>
  ho H1 s _ fun v H2 s2 hv => by
    cases hv
    refine ⟨⟨a, rfl⟩, he H2 (s.trans s2) _ fun u H3 s3 hu => ?_⟩
    have hq : ∃ p, u = .ref p ∧ (SqL K H3 p (ys.map V.str) ∨ SqT K H3 p (ys.map V.str)) := by
      rcases h with rfl | rfl
      · cases hu with
        | lst h r => rw [strs_dps (dfs_dps r)] at h; exact ⟨_, rfl, .inl (h.imp (fun z => z.1) id)⟩
      · cases hu with
        | tup h r => rw [strs_dps (dfs_dps r)] at h; exact ⟨_, rfl, .inr h⟩
    obtain ⟨p, rfl, hs⟩ := hq
    exact ⟨a, p, ys, rfl, rfl, hs, hl, q _ _ (s2.trans s3) (.str _)⟩
end
end Ag

set_option Elab.async false
set_option linter.all false
set_option maxRecDepth 100000
set_option maxHeartbeats 1000000
/-! repr of data, where nothing is being shown. -/
namespace Ag
open PySem PySem.Spec PyProof.Rows L2
/-- data, or an empty dict -/
def Dx (K : PySem.W.Frag) (H : Hp) (v : V) (d : PyData) : Prop := Dp K H v d ∨ (d = .dict [] ∧ ∃ a, v = .ref a ∧ H a = some (.dK []))
theorem Dx.mono {K : PySem.W.Frag} {H H' : Hp} {v : V} {d : PyData} (e : Same H H') (h : Dx K H v d) : Dx K H' v d := h.imp (dp_mono e) fun ⟨a, b, c, q⟩ => ⟨a, b, c, e _ _ q⟩
theorem Dx.dp {K : PySem.W.Frag} {H : Hp} {v : V} {d : PyData} (h : Dp K H v d) : Dx K H v d := .inl h
theorem Dx.reads {X : Cx} {pins : List (Addr × Obj)} {σ : L2.St} {H : Hp} {s : Shared} (I : Inv X pins σ H s) {d : PyData} {v : V} {u : Value} (h : Dx X.K H v d) (r : RelV v u) : ∃ as, Reads s.heap u d as ∧ (d.hasDict = true → sysModules ∉ as) := by
  rcases h with h | ⟨rfl, a, rfl, h⟩
  · obtain ⟨as, q⟩ := Dp.reads I d v u h r
    refine ⟨as, q, fun z => ?_⟩
    have nd : d.hasDict = false := by
      have key : ∀ (d : PyData) (v : V), Dp X.K H v d → d.hasDict = false := by
        intro d v h
        exact Dp.rec (motive_1 := fun _ d _ => d.hasDict = false) (motive_2 := fun _ ds _ => PyData.hasDictAll ds = false) (by simp [PyData.hasDict]) (fun _ => by simp [PyData.hasDict]) (fun _ => by simp [PyData.hasDict]) (fun _ => by simp [PyData.hasDict])
          (fun _ _ ih => by simp only [PyData.hasDict]; exact ih) (fun _ _ ih => by simp only [PyData.hasDict]; exact ih) (by simp [PyData.hasDictAll]) (fun _ _ i1 i2 => by simp only [PyData.hasDictAll]; rw [i1, i2]; rfl) h
      exact key d v h
    rw [nd] at z; cases z
  · cases r
    obtain ⟨_, ns, vs, kv, o, es, ep, e1, ⟨c1, _⟩, e3, e4, e5, _⟩ := I.hok a _ h
    cases kv
    have ez : es.toList = [] := by
      cases q : es.toList with
      | nil => rfl
      | cons x r => rw [q] at e5; cases e5
    refine ⟨_, .dict e1 c1 e3 (by rw [ez]; exact .nil) (by rw [ez]; exact .nil), fun _ m => ?_⟩
    have m : sysModules = a := by simpa using m
    rw [m] at ns; simp at ns
def rRepr (K : PySem.W.Frag) : List V → Hp → VK → Prop := fun vs H Q => ∃ x d, vs = [x] ∧ Dx K H x d ∧ d.showable = true ∧ d.depth ≤ 50 ∧ d.shown.length ≤ sizeLine ∧ Q (.str d.shown) H
theorem cr_repr {X : Cx} (hg : X.A.guards = some []) (hu : X.A.units + 64 < cLine) : CallR X (.builtin "repr") (rRepr X.K) := by
  intro pins s σ H vs us Q I r h
  obtain ⟨x, d, rfl, hd, sh, dp, sz, q⟩ := h
  obtain ⟨u, rfl, ru⟩ := r.one
  obtain ⟨as, hr, hsm⟩ := Dx.reads I hd ru
  cases hr with
  | none => exact PySem.P.repr_of_none ⟨.str _, H, I.tok _, ⟨_, rfl⟩, q⟩
  | bool b => exact PySem.P.repr_of_bool ⟨.str _, H, I.tok _, ⟨_, rfl⟩, q⟩
  | int i t => exact PySem.P.repr_of_int (by simpa [PyData.showable] using sh) ⟨.str _, H, I.tok _, ⟨_, rfl⟩, q⟩
  | str x t => exact PySem.P.repr_of_str ⟨.str _, H, I.tok _, ⟨_, rfl⟩, q⟩ sz
  | list h1 h2 h3 h4 => exact PySem.repr_of_reads' (.list h1 h2 h3 h4) sh hsm hg (by omega) (fun _ _ e => e) (fun h' u tk hk => ⟨.str _, H, I.kept hk, ⟨_, rfl⟩, q⟩) sz
  | tuple h1 h2 h3 h4 => exact PySem.repr_of_reads' (.tuple h1 h2 h3 h4) sh hsm hg (by omega) (fun _ _ e => e) (fun h' u tk hk => ⟨.str _, H, I.kept hk, ⟨_, rfl⟩, q⟩) sz
  | dict h1 h2 h3 h4 h5 => exact PySem.repr_of_reads' (.dict h1 h2 h3 h4 h5) sh hsm hg (by omega) (fun _ _ e => e) (fun h' u tk hk => ⟨.str _, H, I.kept hk, ⟨_, rfl⟩, q⟩) sz
theorem ed_repr {K : PySem.W.Frag} {σ : L2.St} {F : Addr → Prop} {H : Hp} {ta : TE} {d : PyData} (ha : ED K ta σ F H d) (h1 : d.showable = true) (h2 : d.depth ≤ 50) (h3 : d.shown.length ≤ sizeLine) : ED K (tCB (rRepr K) (tCons ta tNil)) σ F H (.str d.shown) :=
  ed_cb (ea_cons ha ea_nil) fun F vs H1 hv Q q => by
    cases hv with
    | cons a r => cases r; exact ⟨_, d, rfl, .inl (df_dp a), h1, h2, h3, q _ _ (Same.refl _) (.str _)⟩
end Ag

set_option Elab.async false
set_option linter.all false
set_option maxRecDepth 100000
set_option maxHeartbeats 1000000
/-! The order of alike data over the layer. -/
namespace Ag
open PySem PySem.Spec PyProof.Rows L2
open PySem.W (alike alikeAll dataLt)
def rLtD (K : PySem.W.Frag) : R2 := fun x y H Q => ∃ d e, Dp K H x d ∧ Dp K H y e ∧ alike d e = true ∧ d ≠ .none ∧ min d.depth e.depth ≤ 50 ∧ Q (.bl (dataLt d e)) H
def rGtD (K : PySem.W.Frag) : R2 := fun x y H Q => ∃ d e, Dp K H x d ∧ Dp K H y e ∧ alike d e = true ∧ d ≠ .none ∧ min d.depth e.depth ≤ 50 ∧ Q (.bl (dataLt e d)) H
theorem op_ltD {X : Cx} (hu : X.A.units + 64 < cLine) : OpR X (compareOp .Lt) (rLtD X.K) := by
  intro pins s σ H x y v u Q I rx ry h
  obtain ⟨d, e, hd, he, al, nn, dp, q⟩ := h
  obtain ⟨as, r1⟩ := Dp.reads I d x v hd rx
  obtain ⟨bs, r2⟩ := Dp.reads I e y u he ry
  exact PySem.W.lt_data r1 r2 al nn (by omega) ⟨.bl _, H, I, rfl, q⟩
theorem op_gtD {X : Cx} (hu : X.A.units + 64 < cLine) : OpR X (compareOp .Gt) (rGtD X.K) := by
  intro pins s σ H x y v u Q I rx ry h
  obtain ⟨d, e, hd, he, al, nn, dp, q⟩ := h
  obtain ⟨as, r1⟩ := Dp.reads I d x v hd rx
  obtain ⟨bs, r2⟩ := Dp.reads I e y u he ry
  exact PySem.W.gt_data r1 r2 al nn (by omega) ⟨.bl _, H, I, rfl, q⟩
theorem alike_strs : ∀ (xs ys : List Str), alikeAll (xs.map .str) (ys.map .str) = true
  | [], _ => by simp [alikeAll]
  | _ :: _, [] => by simp [alikeAll]
  | x :: xs, y :: ys => by
    simp only [List.map_cons, alikeAll, Bool.and_eq_true]
    exact ⟨by simp [alike], alike_strs xs ys⟩
section
variable {K : PySem.W.Frag} {σ : L2.St} {F : Addr → Prop} {H : Hp} {ta tb : TE} {d e : PyData}
theorem ed_ltD (ha : ED K ta σ F H d) (hb : ED K tb σ F H e) (h1 : alike d e = true) (h2 : d ≠ .none) (h3 : min d.depth e.depth ≤ 50) : ED K (tOp (rLtD K) ta tb) σ F H (.bool (dataLt d e)) :=
  ed_op ha hb fun F x y H1 hx hy Q q => ⟨d, e, df_dp hx, df_dp hy, h1, h2, h3, q _ _ (Same.refl _) (.bl _)⟩
theorem ed_gtD (ha : ED K ta σ F H d) (hb : ED K tb σ F H e) (h1 : alike d e = true) (h2 : d ≠ .none) (h3 : min d.depth e.depth ≤ 50) : ED K (tOp (rGtD K) ta tb) σ F H (.bool (dataLt e d)) :=
  ed_op ha hb fun F x y H1 hx hy Q q => ⟨d, e, df_dp hx, df_dp hy, h1, h2, h3, q _ _ (Same.refl _) (.bl _)⟩
end
theorem strs_depth : ∀ (xs : List Str), PyData.depthAll (xs.map .str) ≤ 1
  | [] => by simp [PyData.depthAll]
  | x :: xs => by
    have := strs_depth xs
    simp only [List.map_cons, PyData.depthAll, PyData.depth]
    omega
end Ag

set_option Elab.async false
set_option linter.all false
set_option maxRecDepth 100000
set_option maxHeartbeats 1000000
/-! Either of two promises; the empty dict asked for its kind. -/
namespace Ag
open PySem PySem.Spec PyProof.Rows L2
/-- a promise that holds where one of two does -/
def spOr (sp sp' : Sp) : Sp := fun vs H Q E => sp vs H Q E ∨ sp' vs H Q E
theorem fn_or {P : Program} {w : World} {K : PySem.W.Frag} {mg : Str → Option Value} {base : Heap} {CX : CXT} {k : Nat} {f : Addr} {fd : FuncData} {ps : List Str} {sp sp' : Sp} (F : FnOk P w K mg base CX k f fd ps sp) (G : FnOk P w K mg base CX k f fd ps sp') :
    FnOk P w K mg base CX k f fd ps (spOr sp sp') :=
  ⟨fun vs H Q E q => q.elim (F.len vs H Q E) (G.len vs H Q E), fun A outer s H args us vs Q E hr he hb hv hs => hs.elim (fun z => F.run A outer s H args us vs Q E hr he hb hv z) (fun z => G.run A outer s H args us vs Q E hr he hb hv z)⟩
section
variable {K : PySem.W.Frag} {σ : L2.St} {F : Addr → Prop} {H : Hp}
theorem kit_dict {T : String} (hT : T = "str" ∨ T = "tuple" ∨ T = "list" ∨ T = "int" ∨ T = "bool") : PySem.W.kitOne K (.type "dict") (.type T) = some false := by
  rcases hT with rfl | rfl | rfl | rfl | rfl
  · exact kit_ty (show kitB "dict" "str" = some false by decide +kernel)
  · exact kit_ty (show kitB "dict" "tuple" = some false by decide +kernel)
  · exact kit_ty (show kitB "dict" "list" = some false by decide +kernel)
  · exact kit_ty (show kitB "dict" "int" = some false by decide +kernel)
  · exact kit_ty (show kitB "dict" "bool" = some false by decide +kernel)
theorem ed_isiE {i : Nat} {a : Addr} {T : String} (h : σ[i]? = some (some (.ref a))) (ha : H a = some (.dK [])) (hT : T = "str" ∨ T = "tuple" ∨ T = "list" ∨ T = "int" ∨ T = "bool") :
    ED K (tCB (rIsi K) (tCons (tVar i) (tCons (tC (.ty T)) tNil))) σ F H (.bool false) := fun H1 s Q q =>
  ⟨_, h, .ref a, .ty T, _, _, _, rfl, .ty T, .base (.dK (s _ _ ha)), kit_dict hT, q _ _ (Same.refl _) (.bl _)⟩
theorem dp_strsF {v : V} {xs : List Str} (h : Dp K H v (.tuple (xs.map .str))) : Df K F H v (.tuple (xs.map .str)) := by
  cases h with
  | tup hs r => have := strs_dps r; subst this; exact .tup hs (dfs_strs xs)
end
end Ag

set_option Elab.async false
set_option linter.all false
set_option maxRecDepth 100000
set_option maxHeartbeats 1000000
/-! Texts of plain signs and how long they may be; lists of texts, made and joined anew. -/
namespace Ag
open PySem PySem.Spec PyProof.Rows L2
/-- plain signs, at most n of them -/
def As (n : Nat) (x : Str) : Prop := (∀ c ∈ x.cps.toList, c < 128) ∧ x.length ≤ n
theorem As.more {m n : Nat} {x : Str} (h : As m x) (l : m ≤ n) : As n x := ⟨h.1, Nat.le_trans h.2 l⟩
theorem as_cat {m n : Nat} {x y : Str} (h : As m x) (k : As n y) : As (m + n) (x ++ y) := by
  refine ⟨fun c hc => ?_, by rw [Str.length_append]; exact Nat.add_le_add h.2 k.2⟩
  have e : (x ++ y).cps.toList = x.cps.toList ++ y.cps.toList := TL.tl_append x y
  rw [e] at hc
  exact (List.mem_append.mp hc).elim (h.1 c) (k.1 c)
theorem as_cut {n : Nat} {x : Str} {lo hi : Option Int} (h : As n x) : As n (cutS x lo hi) := by
  have e : (cutS x lo hi).cps.toList = (x.cps.toList.drop (HT.sIx x.length 0 lo)).take (HT.sIx x.length x.length hi - HT.sIx x.length 0 lo) := by
    unfold cutS; simp
  refine ⟨fun c hc => h.1 c ?_, ?_⟩
  · rw [e] at hc; exact List.mem_of_mem_drop (List.mem_of_mem_take hc)
  · show (cutS x lo hi).cps.size ≤ n
    rw [← Array.length_toList, e, List.length_take, List.length_drop, Array.length_toList]
    have : x.cps.size ≤ n := h.2
    omega
theorem up1_lt : ∀ c, c < 128 → PyProof.Rows.up1 c < 128 := by decide +kernel
theorem as_upper {n : Nat} {x : Str} (h : As n x) : As n (Txt.upper x) := by
  rw [PyProof.Rows.upper_ascii h.1]
  refine ⟨fun c hc => ?_, ?_⟩
  · have hc : c ∈ (x.cps.map PyProof.Rows.up1).toList := hc
    rw [Array.toList_map] at hc
    obtain ⟨b, hb, rfl⟩ := List.mem_map.mp hc
    exact up1_lt b (h.1 b hb)
  · show (x.cps.map PyProof.Rows.up1).size ≤ n
    rw [Array.size_map]; exact h.2
/-- a checked text -/
def asB (n : Nat) (x : Str) : Bool := x.cps.toList.all (fun c => decide (c < 128)) && decide (x.length ≤ n)
theorem as_of {n : Nat} {x : Str} (h : asB n x = true) : As n x := by
  unfold asB at h
  obtain ⟨h1, h2⟩ := Bool.and_eq_true_iff.mp h
  exact ⟨fun c hc => of_decide_eq_true (List.all_eq_true.mp h1 c hc), of_decide_eq_true h2⟩
theorem as_join {s : Str} {n m : Nat} (hs : As m s) : ∀ {xs : List Str}, (∀ x ∈ xs, As n x) → As (xs.length * (n + m)) (Str.join s xs)
  | [], _ => ⟨fun c hc => absurd hc (List.not_mem_nil), (Nat.zero_le _)⟩
  | [x], h => ((h x List.mem_cons_self).more (by simp))
  | x :: y :: r, h => by
    have i := as_join hs (xs := y :: r) fun z hz => h z (List.mem_cons_of_mem _ hz)
    have e : Str.join s (x :: y :: r) = x ++ s ++ Str.join s (y :: r) := rfl
    rw [e]
    refine (as_cat (as_cat (h x List.mem_cons_self) hs) i).more ?_
    simp only [List.length_cons, Nat.add_mul, Nat.one_mul]; omega
section
variable {K : PySem.W.Frag} {σ : L2.St} {F : Addr → Prop} {H : Hp} {te ta tb : TE} {d e : PyData}
theorem ed_slS {x : Str} {tl th : TO} {lo hi : Option Int} (h : ED K te σ F H (.str x)) (hx : x.length ≤ 100000) (hl : EO tl σ H lo) (hh : EO th σ H hi) : ED K (tSl rSlS te tl th) σ F H (.str (cutS x lo hi)) := fun H1 s Q q =>
  h H1 s _ fun v H2 s2 hv => by
    cases hv
    refine hl H2 (s.trans s2) _ fun H3 s3 => hh H3 ((s.trans s2).trans s3) _ fun H4 s4 => ?_
    exact ⟨x, rfl, small5 hx, q _ _ ((s2.trans s3).trans s4) (.str _)⟩
theorem ed_upper {x : Str} (h : ED K te σ F H (.str x)) (hx : x.length ≤ 100000) : ED K (tM0 (fun x xs H Q => ∃ a, x = .str a ∧ xs = [] ∧ a.length ≤ 5592405 ∧ Q (.str (Txt.upper a)) H) te) σ F H (.str (Txt.upper x)) := fun H1 s Q q =>
  h H1 s _ fun v H2 s2 hv => by
    cases hv
    exact ⟨⟨x, rfl⟩, x, rfl, rfl, by omega, q _ _ s2 (.str _)⟩
/-- gives a list of these texts -/
def EL (te : TE) (σ : L2.St) (H : Hp) (xs : List Str) : Prop := ∀ H1, Same H H1 → ∀ Q : VK, (∀ p H2, Same H1 H2 → H2 p = some (.lst (xs.map V.str)) → Q (.ref p) H2) → te σ H1 Q
theorem EL.mono {H' : Hp} {xs : List Str} (s : Same H H') (h : EL te σ H xs) : EL te σ H' xs := fun H1 a Q q => h H1 (s.trans a) Q q
theorem el_var {i : Nat} {p : Addr} {xs : List Str} (h : σ[i]? = some (some (.ref p))) (hp : H p = some (.lst (xs.map V.str))) : EL (tVar i) σ H xs := fun H1 s Q q => ⟨_, h, q p H1 (Same.refl _) (s _ _ hp)⟩
theorem el_cat {xs ys : List Str} (ha : EL ta σ H xs) (hb : EL tb σ H ys) (hl : xs.length + ys.length ≤ 100000) : EL (tOp rCat ta tb) σ H (xs ++ ys) := fun H1 s Q q =>
  ha H1 s _ fun p H2 s2 hp => hb H2 (s.trans s2) _ fun b H3 s3 hb3 =>
    ⟨p, b, _, _, rfl, rfl, s3 _ _ hp, hb3, by rw [List.length_map, List.length_map]; exact small5 hl, fun l hn => q l _ ((s2.trans s3).trans (Same.newA hn)) (by rw [upd_same, List.map_append])⟩
theorem el_lst {t : TA} {xs : List Str} (h : EA K t σ F H (xs.map .str)) (hl : xs.length ≤ 100000) : EL (tLst t) σ H xs := fun H1 s Q q =>
  h H1 s _ fun vs H2 s2 hv => by
    have e := strs_dps (dfs_dps hv)
    subst e
    exact ⟨by rw [List.length_map]; exact small5 hl, fun p hp => q p _ (s2.trans (Same.newA hp)) upd_same⟩
def cutW (xs : List Str) (lo hi : Option Int) : List Str := (xs.drop (HT.sIx xs.length 0 lo)).take (HT.sIx xs.length xs.length hi - HT.sIx xs.length 0 lo)
theorem cutW_map (xs : List Str) (lo hi : Option Int) : cutV (xs.map V.str) lo hi = (cutW xs lo hi).map V.str := by
  unfold cutV cutW; rw [List.length_map, List.map_take, List.map_drop]
theorem cutW_mem {xs : List Str} {lo hi : Option Int} {x : Str} (h : x ∈ cutW xs lo hi) : x ∈ xs := List.mem_of_mem_drop (List.mem_of_mem_take h)
theorem cutW_len {xs : List Str} {lo hi : Option Int} : (cutW xs lo hi).length ≤ xs.length := by
  unfold cutW; rw [List.length_take, List.length_drop]; omega
theorem el_slice {xs : List Str} {tl th : TO} {lo hi : Option Int} (h : EL te σ H xs) (hl : EO tl σ H lo) (hh : EO th σ H hi) : EL (tSl (rSlL K) te tl th) σ H (cutW xs lo hi) := fun H1 s Q q =>
  h H1 s _ fun p H2 s2 hp => hl H2 (s.trans s2) _ fun H3 s3 => hh H3 ((s.trans s2).trans s3) _ fun H4 s4 =>
    ⟨p, _, rfl, .inl (.inl (s4 _ _ (s3 _ _ hp))), fun l hn => q l _ (((s2.trans s3).trans s4).trans (Same.newA hn)) (by rw [upd_same, cutW_map])⟩
theorem el_rep2 {xs : List Str} {tb : TE} (ha : EL ta σ H xs) (hb : ED K tb σ F H (.int 2)) (hl : xs.length ≤ 50000) : EL (tOp rRep ta tb) σ H (xs ++ xs) := fun H1 s Q q =>
  ha H1 s _ fun p H2 s2 hp => hb H2 (s.trans s2) _ fun b H3 s3 hb3 => by
    cases hb3
    refine ⟨p, 2, _, rfl, rfl, s3 _ _ hp, by decide, by decide, ?_, fun l hn => q l _ ((s2.trans s3).trans (Same.newA hn)) ?_⟩
    · rw [List.length_map]; refine small5 ?_
      show xs.length * 2 ≤ _
      omega
    · rw [upd_same]
      show some (HO.lst (List.replicate 2 (xs.map V.str)).flatten) = _
      rw [List.map_append]; simp [List.replicate]
theorem el_if {t : TT} {b : Bool} {xs ys : List Str} (h : ET t σ H b) (h1 : b = true → EL ta σ H xs) (h2 : b = false → EL tb σ H ys) : EL (tIf t ta tb) σ H (if b then xs else ys) := fun H1 s Q q => h H1 s _ fun H2 s2 => by
  cases b with
  | true => exact h1 rfl H2 (s.trans s2) _ fun p H3 s3 hp => q p H3 (s2.trans s3) hp
  | false => exact h2 rfl H2 (s.trans s2) _ fun p H3 s3 hp => q p H3 (s2.trans s3) hp
end
end Ag

set_option Elab.async false
set_option linter.all false
set_option maxRecDepth 100000
set_option maxHeartbeats 1000000
/-! What stays where the pen is drawn and tables of code objects grow. -/
namespace Ag
open PySem PySem.Spec PyProof.Rows L2 LamX
/-- all but the pen and the tables is kept -/
def Kp (p : Addr) (H H' : Hp) : Prop := ∀ a o, a ≠ p → (∀ ps, o ≠ .tbl ps) → H a = some o → H' a = some o
theorem Kp.refl (p : Addr) (H : Hp) : Kp p H H := fun _ _ _ _ h => h
theorem Kp.trans {p : Addr} {H H1 H2 : Hp} (a : Kp p H H1) (b : Kp p H1 H2) : Kp p H H2 := fun x o n t h => b x o n t (a x o n t h)
theorem Kp.but {p : Addr} {H H1 : Hp} (b : But p H H1) : Kp p H H1 := fun x o n _ h => b x o n h
theorem Kp.of {p : Addr} {H H1 : Hp} (b : Same H H1) : Kp p H H1 := fun x o _ _ h => b x o h
theorem Kp.ext {p : Addr} {H H1 : Hp} (b : ExtN H H1) : Kp p H H1 := fun x o _ t h => b x o h t
section
variable {K : PySem.W.Frag} {p c : Addr} {n : Nat} {H H' : Hp}
theorem Pen.rdK {a : Addr} {u : HO} (h : Pen p c n H) (b : Kp p H H') (r : Rd H a u) (no : ∀ kvs, u ≠ .dK kvs) (nt : ∀ ps, u ≠ .tbl ps) : Rd H' a u := by
  rcases r with r | ⟨o, r⟩
  · exact .inl (b _ _ (h.ne r no) nt r)
  · exact .inr ⟨o, b _ _ (h.ne r (fun _ z => nomatch z)) (fun _ z => nomatch z) r⟩
theorem Pen.slK {a : Addr} {xs : List V} (h : Pen p c n H) (b : Kp p H H') (r : SqL K H a xs) : SqL K H' a xs := r.imp (fun z => h.rdK b z (fun _ z => nomatch z) (fun _ z => nomatch z)) id
theorem Pen.stK {a : Addr} {xs : List V} (h : Pen p c n H) (b : Kp p H H') (r : SqT K H a xs) : SqT K H' a xs := r.imp (fun z => h.rdK b z (fun _ z => nomatch z) (fun _ z => nomatch z)) id
mutual
theorem Pen.dpK (h : Pen p c n H) (b : Kp p H H') : ∀ {v : V} {d : PyData}, Dp K H v d → Dp K H' v d
  | _, _, .non => .non
  | _, _, .bl b => .bl b
  | _, _, .int i => .int i
  | _, _, .str x => .str x
  | _, _, .lst q r => .lst (h.slK b q) (Pen.dpsK h b r)
  | _, _, .tup q r => .tup (h.stK b q) (Pen.dpsK h b r)
theorem Pen.dpsK (h : Pen p c n H) (b : Kp p H H') : ∀ {vs : List V} {ds : List PyData}, DpAll K H vs ds → DpAll K H' vs ds
  | _, _, .nil => .nil
  | _, _, .cons q r => .cons (Pen.dpK h b q) (Pen.dpsK h b r)
end
theorem Pen.ext (h : Pen p c n H) (b : ExtN H H') : Pen p c n H' := by
  obtain ⟨cells, a, d, k, f, hp, hc, r⟩ := h
  refine ⟨cells, a, d, k, f, b _ _ hp (fun _ z => nomatch z), ?_, r⟩
  rcases hc with hc | ⟨o, hc⟩
  · exact .inl (b _ _ hc (fun _ z => nomatch z))
  · exact .inr ⟨o, b _ _ hc (fun _ z => nomatch z)⟩
/-- the tables stand where but the pen is changed -/
theorem tabs_but {T : List (Addr × Str)} (h : Pen p c n H) (b : But p H H') (t : Tabs T H) : Tabs T H' := fun q hq => by
  obtain ⟨ps, e, tr, co⟩ := t q hq
  refine ⟨ps, b _ _ (h.ne e (fun _ z => nomatch z)) e, tr, fun pos cv hcv => ?_⟩
  obtain ⟨cc, rfl, hc⟩ := co pos cv hcv
  exact ⟨cc, rfl, b _ _ (h.ne hc (fun _ z => nomatch z)) hc⟩
end
end Ag

set_option Elab.async false
set_option linter.all false
set_option maxRecDepth 100000
set_option maxHeartbeats 1000000
namespace Ag
open PySem PySem.Spec PyProof.Rows L2
/-! ### the text by places -/
def top (i : Nat) : Stmt := PySem.Challenge.pw_againnotes_k02_names_and_words.main.body.getD i (.Pass ⟨0, 0, 0, 0⟩)
abbrev s_wall : Stmt := top 0
abbrev s_BadText___init__ : Stmt := inClass (top 3) 0
abbrev s_BadNumber___init__ : Stmt := inClass (top 4) 0
abbrev s_BadRow___init__ : Stmt := inClass (top 5) 0
abbrev s_NoName___init__ : Stmt := inClass (top 6) 0
abbrev s_Unlike___init__ : Stmt := inClass (top 7) 0
abbrev s_TooMany___init__ : Stmt := inClass (top 8) 0
abbrev s_rows_of : Stmt := top 11
abbrev s_Cursor___init__ : Stmt := inClass (top 12) 0
abbrev s_Cursor_seen : Stmt := inClass (top 12) 1
abbrev s_Cursor_refuse : Stmt := inClass (top 12) 2
abbrev s_Cursor_take : Stmt := inClass (top 12) 3
abbrev s_Cursor_need : Stmt := inClass (top 12) 4
abbrev s_Cursor_need_number : Stmt := inClass (top 12) 5
abbrev s_Cursor_need_end : Stmt := inClass (top 12) 6
abbrev s_Cursor_is_last : Stmt := inClass (top 12) 7
abbrev s_Cursor_goes_on : Stmt := inClass (top 12) 8
abbrev s_is_name : Stmt := top 17
abbrev s_is_word : Stmt := top 18
abbrev s_order_of_word : Stmt := top 19
abbrev s_precedes : Stmt := top 20
abbrev s_word_text : Stmt := top 21
abbrev s_word_read : Stmt := top 22
abbrev s_law_pen : Stmt := top 24
abbrev s_law_draw : Stmt := top 25
abbrev s_law_pick : Stmt := top 26
abbrev s_law_shuffled : Stmt := top 27
abbrev s_law_name : Stmt := top 28
abbrev s_law_names : Stmt := top 29
abbrev s_law_same : Stmt := top 30
abbrev s_law_is_name : Stmt := top 31
abbrev s_law_calls : Stmt := top 32
abbrev s_law_some_word : Stmt := top 33
abbrev s_law_odd_name : Stmt := top 34
abbrev s_law_before : Stmt := top 35
abbrev s_law_why : Stmt := top 36
abbrev s_law_bent_words : Stmt := top 37
abbrev s_law_first_wrong : Stmt := top 38
abbrev s_law_is_word : Stmt := top 39
abbrev s_law : Stmt := top 40
structure DefAt (K : PySem.W.Frag) (mg : Str → Option Value) (x : Str) (st : Stmt) (ps : List Str) (a : Addr) (fd : FuncData) : Prop where
  fn : Fun K x x st a fd
  mg : mg x = some (.ref a)
  bd : Binds K fd ps []
structure MethAt (K : PySem.W.Frag) (x qual : Str) (st : Stmt) (ps : List Str) (a : Addr) (fd : FuncData) : Prop where
  fn : Fun K x qual st a fd
  bd : Binds K fd ps []
structure DefAtD (K : PySem.W.Frag) (mg : Str → Option Value) (x : Str) (st : Stmt) (ps : List Str) (dvs : List V) (a : Addr) (fd : FuncData) : Prop where
  fn : FunD K x x (defArgs st) (defBody st) (defScope st) dvs [] a fd
  mg : mg x = some (.ref a)
  bd : Binds K fd ps []
structure MethAtD (K : PySem.W.Frag) (x qual : Str) (st : Stmt) (ps : List Str) (dvs : List V) (a : Addr) (fd : FuncData) : Prop where
  fn : FunD K x qual (defArgs st) (defBody st) (defScope st) dvs [] a fd
  bd : Binds K fd ps []
theorem bt_all : bootBuiltins ("all" : Str) = some (.builtin "all") := by decide +kernel
theorem bt_tuple : bootBuiltins ("tuple" : Str) = some (.type "tuple") := by decide +kernel
theorem bt_range : bootBuiltins ("range" : Str) = some (.type "range") := by decide +kernel
theorem bt_isinstance : bootBuiltins ("isinstance" : Str) = some (.builtin "isinstance") := by decide +kernel
theorem bt_int : bootBuiltins ("int" : Str) = some (.type "int") := by decide +kernel
theorem bt_enumerate : bootBuiltins ("enumerate" : Str) = some (.type "enumerate") := by decide +kernel
theorem bt_str : bootBuiltins ("str" : Str) = some (.type "str") := by decide +kernel
theorem bt_len : bootBuiltins ("len" : Str) = some (.builtin "len") := by decide +kernel
theorem bt_list : bootBuiltins ("list" : Str) = some (.type "list") := by decide +kernel
theorem bt_sorted : bootBuiltins ("sorted" : Str) = some (.builtin "sorted") := by decide +kernel
theorem bt_bool : bootBuiltins ("bool" : Str) = some (.type "bool") := by decide +kernel
theorem bt_repr : bootBuiltins ("repr" : Str) = some (.builtin "repr") := by decide +kernel
theorem bt_zip : bootBuiltins ("zip" : Str) = some (.type "zip") := by decide +kernel
structure Txt (w : World) (K : PySem.W.Frag) (mg : Str → Option Value) where
  C_AgainError : Addr
  g_AgainError : mg "AgainError" = some (.ref C_AgainError)
  ox_AgainError : OexC K C_AgainError
  xf_AgainError : XfC K C_AgainError
  sb_AgainError : PySem.W.subIn K (.ref C_AgainError) (.ref C_AgainError) = some true
  C_BadText : Addr
  g_BadText : mg "BadText" = some (.ref C_BadText)
  a_BadText___init__ : Addr
  d_BadText___init__ : FuncData
  D_BadText___init__ : MethAt K "__init__" "BadText.__init__" s_BadText___init__ ["self", "line", "word"] a_BadText___init__ d_BadText___init__
  na_BadText_line : NoAttr K C_BadText "line"
  na_BadText_word : NoAttr K C_BadText "word"
  ox_BadText : OexC K C_BadText
  xf_BadText : XfC K C_BadText
  sb_BadText : PySem.W.subIn K (.ref C_BadText) (.ref C_BadText) = some true
  ic_BadText : PySem.W.findIn K (.ref C_BadText) "__init__" = some (some (.ref a_BadText___init__))
  ti_BadText : PySem.W.typeIn K (.ref a_BadText___init__) = some (.type "function")
  C_BadNumber : Addr
  g_BadNumber : mg "BadNumber" = some (.ref C_BadNumber)
  a_BadNumber___init__ : Addr
  d_BadNumber___init__ : FuncData
  D_BadNumber___init__ : MethAt K "__init__" "BadNumber.__init__" s_BadNumber___init__ ["self", "what", "number"] a_BadNumber___init__ d_BadNumber___init__
  na_BadNumber_what : NoAttr K C_BadNumber "what"
  na_BadNumber_number : NoAttr K C_BadNumber "number"
  ox_BadNumber : OexC K C_BadNumber
  xf_BadNumber : XfC K C_BadNumber
  sb_BadNumber : PySem.W.subIn K (.ref C_BadNumber) (.ref C_BadNumber) = some true
  ic_BadNumber : PySem.W.findIn K (.ref C_BadNumber) "__init__" = some (some (.ref a_BadNumber___init__))
  ti_BadNumber : PySem.W.typeIn K (.ref a_BadNumber___init__) = some (.type "function")
  C_BadRow : Addr
  g_BadRow : mg "BadRow" = some (.ref C_BadRow)
  a_BadRow___init__ : Addr
  d_BadRow___init__ : FuncData
  D_BadRow___init__ : MethAt K "__init__" "BadRow.__init__" s_BadRow___init__ ["self", "what", "row"] a_BadRow___init__ d_BadRow___init__
  na_BadRow_what : NoAttr K C_BadRow "what"
  na_BadRow_row : NoAttr K C_BadRow "row"
  ox_BadRow : OexC K C_BadRow
  xf_BadRow : XfC K C_BadRow
  sb_BadRow : PySem.W.subIn K (.ref C_BadRow) (.ref C_BadRow) = some true
  ic_BadRow : PySem.W.findIn K (.ref C_BadRow) "__init__" = some (some (.ref a_BadRow___init__))
  ti_BadRow : PySem.W.typeIn K (.ref a_BadRow___init__) = some (.type "function")
  C_NoName : Addr
  g_NoName : mg "NoName" = some (.ref C_NoName)
  a_NoName___init__ : Addr
  d_NoName___init__ : FuncData
  D_NoName___init__ : MethAt K "__init__" "NoName.__init__" s_NoName___init__ ["self", "name"] a_NoName___init__ d_NoName___init__
  na_NoName_name : NoAttr K C_NoName "name"
  ox_NoName : OexC K C_NoName
  xf_NoName : XfC K C_NoName
  sb_NoName : PySem.W.subIn K (.ref C_NoName) (.ref C_NoName) = some true
  ic_NoName : PySem.W.findIn K (.ref C_NoName) "__init__" = some (some (.ref a_NoName___init__))
  ti_NoName : PySem.W.typeIn K (.ref a_NoName___init__) = some (.type "function")
  C_Unlike : Addr
  g_Unlike : mg "Unlike" = some (.ref C_Unlike)
  a_Unlike___init__ : Addr
  d_Unlike___init__ : FuncData
  D_Unlike___init__ : MethAt K "__init__" "Unlike.__init__" s_Unlike___init__ ["self", "what"] a_Unlike___init__ d_Unlike___init__
  na_Unlike_what : NoAttr K C_Unlike "what"
  ox_Unlike : OexC K C_Unlike
  xf_Unlike : XfC K C_Unlike
  sb_Unlike : PySem.W.subIn K (.ref C_Unlike) (.ref C_Unlike) = some true
  ic_Unlike : PySem.W.findIn K (.ref C_Unlike) "__init__" = some (some (.ref a_Unlike___init__))
  ti_Unlike : PySem.W.typeIn K (.ref a_Unlike___init__) = some (.type "function")
  C_TooMany : Addr
  g_TooMany : mg "TooMany" = some (.ref C_TooMany)
  a_TooMany___init__ : Addr
  d_TooMany___init__ : FuncData
  D_TooMany___init__ : MethAt K "__init__" "TooMany.__init__" s_TooMany___init__ ["self", "what", "many", "limit"] a_TooMany___init__ d_TooMany___init__
  na_TooMany_what : NoAttr K C_TooMany "what"
  na_TooMany_many : NoAttr K C_TooMany "many"
  na_TooMany_limit : NoAttr K C_TooMany "limit"
  ox_TooMany : OexC K C_TooMany
  xf_TooMany : XfC K C_TooMany
  sb_TooMany : PySem.W.subIn K (.ref C_TooMany) (.ref C_TooMany) = some true
  ic_TooMany : PySem.W.findIn K (.ref C_TooMany) "__init__" = some (some (.ref a_TooMany___init__))
  ti_TooMany : PySem.W.typeIn K (.ref a_TooMany___init__) = some (.type "function")
  C_Cursor : Addr
  g_Cursor : mg "Cursor" = some (.ref C_Cursor)
  a_Cursor___init__ : Addr
  d_Cursor___init__ : FuncData
  D_Cursor___init__ : MethAt K "__init__" "Cursor.__init__" s_Cursor___init__ ["self", "rows"] a_Cursor___init__ d_Cursor___init__
  a_Cursor_seen : Addr
  d_Cursor_seen : FuncData
  D_Cursor_seen : MethAt K "seen" "Cursor.seen" s_Cursor_seen ["self"] a_Cursor_seen d_Cursor_seen
  a_Cursor_refuse : Addr
  d_Cursor_refuse : FuncData
  D_Cursor_refuse : MethAt K "refuse" "Cursor.refuse" s_Cursor_refuse ["self"] a_Cursor_refuse d_Cursor_refuse
  a_Cursor_take : Addr
  d_Cursor_take : FuncData
  D_Cursor_take : MethAt K "take" "Cursor.take" s_Cursor_take ["self", "is_right"] a_Cursor_take d_Cursor_take
  a_Cursor_need : Addr
  d_Cursor_need : FuncData
  D_Cursor_need : MethAt K "need" "Cursor.need" s_Cursor_need ["self", "some"] a_Cursor_need d_Cursor_need
  a_Cursor_need_number : Addr
  d_Cursor_need_number : FuncData
  D_Cursor_need_number : MethAt K "need_number" "Cursor.need_number" s_Cursor_need_number ["self", "least", "most"] a_Cursor_need_number d_Cursor_need_number
  a_Cursor_need_end : Addr
  d_Cursor_need_end : FuncData
  D_Cursor_need_end : MethAt K "need_end" "Cursor.need_end" s_Cursor_need_end ["self"] a_Cursor_need_end d_Cursor_need_end
  a_Cursor_is_last : Addr
  d_Cursor_is_last : FuncData
  D_Cursor_is_last : MethAt K "is_last" "Cursor.is_last" s_Cursor_is_last ["self"] a_Cursor_is_last d_Cursor_is_last
  a_Cursor_goes_on : Addr
  d_Cursor_goes_on : FuncData
  D_Cursor_goes_on : MethAt K "goes_on" "Cursor.goes_on" s_Cursor_goes_on ["self", "may_end", "may_follow"] a_Cursor_goes_on d_Cursor_goes_on
  na_Cursor_rows : NoAttr K C_Cursor "rows"
  na_Cursor_line : NoAttr K C_Cursor "line"
  na_Cursor_at : NoAttr K C_Cursor "at"
  cl_Cursor : Cls K C_Cursor
  mk_Cursor : Mk K C_Cursor a_Cursor___init__
  mt_Cursor_seen : Meth K C_Cursor "seen" a_Cursor_seen
  mt_Cursor_refuse : Meth K C_Cursor "refuse" a_Cursor_refuse
  mt_Cursor_take : Meth K C_Cursor "take" a_Cursor_take
  mt_Cursor_need : Meth K C_Cursor "need" a_Cursor_need
  mt_Cursor_need_number : Meth K C_Cursor "need_number" a_Cursor_need_number
  mt_Cursor_need_end : Meth K C_Cursor "need_end" a_Cursor_need_end
  mt_Cursor_is_last : Meth K C_Cursor "is_last" a_Cursor_is_last
  mt_Cursor_goes_on : Meth K C_Cursor "goes_on" a_Cursor_goes_on
  a_wall : Addr
  d_wall : FuncData
  D_wall : DefAt K mg "_wall" s_wall ["k"] a_wall d_wall
  a_rows_of : Addr
  d_rows_of : FuncData
  D_rows_of : DefAt K mg "rows_of" s_rows_of ["text"] a_rows_of d_rows_of
  a_is_name : Addr
  d_is_name : FuncData
  D_is_name : DefAt K mg "is_name" s_is_name ["value"] a_is_name d_is_name
  a_is_word : Addr
  d_is_word : FuncData
  D_is_word : DefAt K mg "is_word" s_is_word ["value"] a_is_word d_is_word
  a_order_of_word : Addr
  d_order_of_word : FuncData
  D_order_of_word : DefAt K mg "order_of_word" s_order_of_word ["word"] a_order_of_word d_order_of_word
  a_precedes : Addr
  d_precedes : FuncData
  D_precedes : DefAt K mg "precedes" s_precedes ["word", "other"] a_precedes d_precedes
  a_word_text : Addr
  d_word_text : FuncData
  D_word_text : DefAt K mg "word_text" s_word_text ["word"] a_word_text d_word_text
  a_word_read : Addr
  d_word_read : FuncData
  D_word_read : DefAt K mg "word_read" s_word_read ["text"] a_word_read d_word_read
  a_law_pen : Addr
  d_law_pen : FuncData
  D_law_pen : DefAt K mg "_law_pen" s_law_pen ["script"] a_law_pen d_law_pen
  a_law_draw : Addr
  d_law_draw : FuncData
  D_law_draw : DefAt K mg "_law_draw" s_law_draw ["pen", "many"] a_law_draw d_law_draw
  a_law_pick : Addr
  d_law_pick : FuncData
  D_law_pick : DefAt K mg "_law_pick" s_law_pick ["pen", "some"] a_law_pick d_law_pick
  a_law_shuffled : Addr
  d_law_shuffled : FuncData
  D_law_shuffled : DefAt K mg "_law_shuffled" s_law_shuffled ["pen", "some"] a_law_shuffled d_law_shuffled
  a_law_name : Addr
  d_law_name : FuncData
  D_law_name : DefAt K mg "_law_name" s_law_name ["pen", "index"] a_law_name d_law_name
  a_law_names : Addr
  d_law_names : FuncData
  D_law_names : DefAt K mg "_law_names" s_law_names ["pen", "many"] a_law_names d_law_names
  a_law_same : Addr
  d_law_same : FuncData
  D_law_same : DefAt K mg "_law_same" s_law_same ["told", "due"] a_law_same d_law_same
  a_law_is_name : Addr
  d_law_is_name : FuncData
  D_law_is_name : DefAt K mg "_law_is_name" s_law_is_name ["value"] a_law_is_name d_law_is_name
  a_law_calls : Addr
  d_law_calls : FuncData
  D_law_calls : DefAt K mg "_law_calls" s_law_calls ["pen", "many"] a_law_calls d_law_calls
  a_law_some_word : Addr
  d_law_some_word : FuncData
  D_law_some_word : DefAt K mg "_law_some_word" s_law_some_word ["pen", "calls", "most"] a_law_some_word d_law_some_word
  a_law_odd_name : Addr
  d_law_odd_name : FuncData
  D_law_odd_name : DefAt K mg "_law_odd_name" s_law_odd_name ["pen", "name"] a_law_odd_name d_law_odd_name
  a_law_before : Addr
  d_law_before : FuncData
  D_law_before : DefAt K mg "_law_before" s_law_before ["word"] a_law_before d_law_before
  a_law_why : Addr
  d_law_why : FuncData
  D_law_why : DefAt K mg "_law_why" s_law_why ["call"] a_law_why d_law_why
  a_law_bent_words : Addr
  d_law_bent_words : FuncData
  D_law_bent_words : DefAt K mg "_law_bent_words" s_law_bent_words ["pen", "words", "more"] a_law_bent_words d_law_bent_words
  a_law_first_wrong : Addr
  d_law_first_wrong : FuncData
  D_law_first_wrong : DefAt K mg "_law_first_wrong" s_law_first_wrong ["text"] a_law_first_wrong d_law_first_wrong
  a_law_is_word : Addr
  d_law_is_word : FuncData
  D_law_is_word : DefAt K mg "_law_is_word" s_law_is_word ["value"] a_law_is_word d_law_is_word
  a_law : Addr
  d_law : FuncData
  D_law : DefAt K mg "law" s_law ["script"] a_law d_law
  t_FIGURES : Tok
  g_FIGURES : mg "FIGURES" = some (.str "0123456789" t_FIGURES)
  t_NIL : Tok
  g_NIL : mg "NIL" = some (.str "nil" t_NIL)
  t_END : Tok
  g_END : mg "END" = some (.str ";" t_END)
  t_LETTERS : Tok
  g_LETTERS : mg "LETTERS" = some (.str "abcdefghijklmnopqrstuvwxyz" t_LETTERS)
  b_all : mg "all" = none
  b_tuple : mg "tuple" = none
  b_range : mg "range" = none
  b_isinstance : mg "isinstance" = none
  b_int : mg "int" = none
  b_enumerate : mg "enumerate" = none
  b_str : mg "str" = none
  b_len : mg "len" = none
  b_list : mg "list" = none
  b_sorted : mg "sorted" = none
  b_bool : mg "bool" = none
  b_repr : mg "repr" = none
  b_zip : mg "zip" = none
theorem sc_wall : FnScope ["k"] ["k"] (defScope s_wall) := ⟨rfl, rfl, rfl, by decide +kernel, rfl, by decide +kernel, by decide +kernel⟩
theorem sc_BadText___init__ : FnScope ["self", "line", "word"] ["self", "line", "word"] (defScope s_BadText___init__) := ⟨rfl, rfl, rfl, by decide +kernel, rfl, by decide +kernel, by decide +kernel⟩
theorem sc_BadNumber___init__ : FnScope ["self", "what", "number"] ["self", "what", "number"] (defScope s_BadNumber___init__) := ⟨rfl, rfl, rfl, by decide +kernel, rfl, by decide +kernel, by decide +kernel⟩
theorem sc_BadRow___init__ : FnScope ["self", "what", "row"] ["self", "what", "row"] (defScope s_BadRow___init__) := ⟨rfl, rfl, rfl, by decide +kernel, rfl, by decide +kernel, by decide +kernel⟩
theorem sc_NoName___init__ : FnScope ["self", "name"] ["self", "name"] (defScope s_NoName___init__) := ⟨rfl, rfl, rfl, by decide +kernel, rfl, by decide +kernel, by decide +kernel⟩
theorem sc_Unlike___init__ : FnScope ["self", "what"] ["self", "what"] (defScope s_Unlike___init__) := ⟨rfl, rfl, rfl, by decide +kernel, rfl, by decide +kernel, by decide +kernel⟩
theorem sc_TooMany___init__ : FnScope ["self", "what", "many", "limit"] ["self", "what", "many", "limit"] (defScope s_TooMany___init__) := ⟨rfl, rfl, rfl, by decide +kernel, rfl, by decide +kernel, by decide +kernel⟩
theorem sc_rows_of : FnScope ["text", "line"] ["text"] (defScope s_rows_of) := ⟨rfl, rfl, rfl, by decide +kernel, rfl, by decide +kernel, by decide +kernel⟩
theorem sc_Cursor___init__ : FnScope ["self", "rows"] ["self", "rows"] (defScope s_Cursor___init__) := ⟨rfl, rfl, rfl, by decide +kernel, rfl, by decide +kernel, by decide +kernel⟩
theorem sc_Cursor_seen : FnScope ["self", "row"] ["self"] (defScope s_Cursor_seen) := ⟨rfl, rfl, rfl, by decide +kernel, rfl, by decide +kernel, by decide +kernel⟩
theorem sc_Cursor_refuse : FnScope ["self"] ["self"] (defScope s_Cursor_refuse) := ⟨rfl, rfl, rfl, by decide +kernel, rfl, by decide +kernel, by decide +kernel⟩
theorem sc_Cursor_take : FnScope ["self", "is_right", "word"] ["self", "is_right"] (defScope s_Cursor_take) := ⟨rfl, rfl, rfl, by decide +kernel, rfl, by decide +kernel, by decide +kernel⟩
theorem sc_Cursor_need : FnScope ["self", "some"] ["self", "some"] (defScope s_Cursor_need) := ⟨rfl, rfl, rfl, by decide +kernel, rfl, by decide +kernel, by decide +kernel⟩
theorem sc_Cursor_need_number : FnScope ["self", "least", "most"] ["self", "least", "most"] (defScope s_Cursor_need_number) := ⟨rfl, rfl, rfl, by decide +kernel, rfl, by decide +kernel, by decide +kernel⟩
theorem sc_Cursor_need_end : FnScope ["self"] ["self"] (defScope s_Cursor_need_end) := ⟨rfl, rfl, rfl, by decide +kernel, rfl, by decide +kernel, by decide +kernel⟩
theorem sc_Cursor_is_last : FnScope ["self"] ["self"] (defScope s_Cursor_is_last) := ⟨rfl, rfl, rfl, by decide +kernel, rfl, by decide +kernel, by decide +kernel⟩
theorem sc_Cursor_goes_on : FnScope ["self", "may_end", "may_follow"] ["self", "may_end", "may_follow"] (defScope s_Cursor_goes_on) := ⟨rfl, rfl, rfl, by decide +kernel, rfl, by decide +kernel, by decide +kernel⟩
theorem sc_is_name : FnScope ["value", "sign"] ["value"] (defScope s_is_name) := ⟨rfl, rfl, rfl, by decide +kernel, rfl, by decide +kernel, by decide +kernel⟩
theorem sc_is_word : FnScope ["value", "call"] ["value"] (defScope s_is_word) := ⟨rfl, rfl, rfl, by decide +kernel, rfl, by decide +kernel, by decide +kernel⟩
theorem sc_order_of_word : FnScope ["word"] ["word"] (defScope s_order_of_word) := ⟨rfl, rfl, rfl, by decide +kernel, rfl, by decide +kernel, by decide +kernel⟩
theorem sc_precedes : FnScope ["word", "other"] ["word", "other"] (defScope s_precedes) := ⟨rfl, rfl, rfl, by decide +kernel, rfl, by decide +kernel, by decide +kernel⟩
theorem sc_word_text : FnScope ["word"] ["word"] (defScope s_word_text) := ⟨rfl, rfl, rfl, by decide +kernel, rfl, by decide +kernel, by decide +kernel⟩
theorem sc_word_read : FnScope ["text", "cursor", "found"] ["text"] (defScope s_word_read) := ⟨rfl, rfl, rfl, by decide +kernel, rfl, by decide +kernel, by decide +kernel⟩
theorem sc_law_pen : FnScope ["script", "fold", "cell"] ["script"] (defScope s_law_pen) := ⟨rfl, rfl, rfl, by decide +kernel, rfl, by decide +kernel, by decide +kernel⟩
theorem sc_law_draw : FnScope ["pen", "many", "cell", "digit", "blend"] ["pen", "many"] (defScope s_law_draw) := ⟨rfl, rfl, rfl, by decide +kernel, rfl, by decide +kernel, by decide +kernel⟩
theorem sc_law_pick : FnScope ["pen", "some"] ["pen", "some"] (defScope s_law_pick) := ⟨rfl, rfl, rfl, by decide +kernel, rfl, by decide +kernel, by decide +kernel⟩
theorem sc_law_shuffled : FnScope ["pen", "some", "left", "found", "lap"] ["pen", "some"] (defScope s_law_shuffled) := ⟨rfl, rfl, rfl, by decide +kernel, rfl, by decide +kernel, by decide +kernel⟩
theorem sc_law_name : FnScope ["pen", "index", "word", "spot", "place"] ["pen", "index"] (defScope s_law_name) := ⟨rfl, rfl, rfl, by decide +kernel, rfl, by decide +kernel, by decide +kernel⟩
theorem sc_law_names : FnScope ["pen", "many", "index"] ["pen", "many"] (defScope s_law_names) := ⟨rfl, rfl, rfl, by decide +kernel, rfl, by decide +kernel, by decide +kernel⟩
theorem sc_law_same : FnScope ["told", "due", "one", "two"] ["told", "due"] (defScope s_law_same) := ⟨rfl, rfl, rfl, by decide +kernel, rfl, by decide +kernel, by decide +kernel⟩
theorem sc_law_is_name : FnScope ["value", "sign"] ["value"] (defScope s_law_is_name) := ⟨rfl, rfl, rfl, by decide +kernel, rfl, by decide +kernel, by decide +kernel⟩
theorem sc_law_calls : FnScope ["pen", "many"] ["pen", "many"] (defScope s_law_calls) := ⟨rfl, rfl, rfl, by decide +kernel, rfl, by decide +kernel, by decide +kernel⟩
theorem sc_law_some_word : FnScope ["pen", "calls", "most", "spot"] ["pen", "calls", "most"] (defScope s_law_some_word) := ⟨rfl, rfl, rfl, by decide +kernel, rfl, by decide +kernel, by decide +kernel⟩
theorem sc_law_odd_name : FnScope ["pen", "name"] ["pen", "name"] (defScope s_law_odd_name) := ⟨rfl, rfl, rfl, by decide +kernel, rfl, by decide +kernel, by decide +kernel⟩
theorem sc_law_before : FnScope ["word"] ["word"] (defScope s_law_before) := ⟨rfl, rfl, rfl, by decide +kernel, rfl, by decide +kernel, by decide +kernel⟩
theorem sc_law_why : FnScope ["call", "found", "error"] ["call"] (defScope s_law_why) := ⟨rfl, rfl, rfl, by decide +kernel, rfl, by decide +kernel, by decide +kernel⟩
theorem sc_law_bent_words : FnScope ["pen", "words", "more", "at", "way", "other"] ["pen", "words", "more"] (defScope s_law_bent_words) := ⟨rfl, rfl, rfl, by decide +kernel, rfl, by decide +kernel, by decide +kernel⟩
theorem sc_law_first_wrong : FnScope ["text", "lines", "words", "at", "word"] ["text"] (defScope s_law_first_wrong) := ⟨rfl, rfl, rfl, by decide +kernel, rfl, by decide +kernel, by decide +kernel⟩
theorem sc_law_is_word : FnScope ["value", "call"] ["value"] (defScope s_law_is_word) := ⟨rfl, rfl, rfl, by decide +kernel, rfl, by decide +kernel, by decide +kernel⟩
theorem sc_law : FnScope ["script", "pen", "lap", "calls", "name", "word", "at", "other", "value", "text", "words", "turn", "bent", "due", "odd"] ["script"] (defScope s_law) := ⟨rfl, rfl, rfl, by decide +kernel, rfl, by decide +kernel, by decide +kernel⟩
end Ag

set_option Elab.async false
set_option linter.all false
set_option maxRecDepth 100000
set_option maxHeartbeats 1000000
namespace Ag
open PySem PySem.Spec PyProof.Rows L2
theorem rd_but {H : Hp} {p : Addr} {o : HO} : But p H (upd H p o) := fun a u n h => by rw [upd_ne n]; exact h
theorem rd_upd {H : Hp} {p c : Addr} {o : HO} {xs : List V} {kvs : List (Key × V)} (hp : H p = some (.dK kvs)) (h : Rd H c (.lst xs)) : Rd (upd H p o) c (.lst xs) := by
  rcases h with h | ⟨u, h⟩
  · exact .inl (by rw [upd_ne (ne_of h hp (fun z => nomatch z))]; exact h)
  · exact .inr ⟨u, by rw [upd_ne (ne_of h hp (fun z => nomatch z))]; exact h⟩
section
variable {P : Program} {w : World} {K : PySem.W.Frag} {mg : Str → Option Value} {base : Heap} (T : Txt w K mg)
theorem ok_draw : FnOk P w K mg base CX0 1 T.a_law_draw T.d_law_draw ["pen", "many"] spDraw := by
  refine T.D_law_draw.fn.ok sc_law_draw (fun vs H Q E h => ?_) (fun cdv A outer s H vs Q E hr h => ?_)
  · obtain ⟨p, c, many, n, rfl, _⟩ := h; rfl
  · obtain ⟨p, c, many, n, rfl, hP, m0, m1, n1, k⟩ := h
    refine ⟨_, (pss_cons (ps_dput (hu_of hr) (pv 0) pe_str (pe_op op_add (pe_dget (hu_of hr) (pv 0) pe_str (fun _ _ => rfl)) pe_int) rfl)
      (C8.pss_cut (ps_if (PW.pt (pw_and (pt_cmpR op_eq (pe_dget (hu_of hr) (pv 0) pe_str (fun _ _ => rfl)) pe_int (nomark _)) (pw_and1 (pt_cmpR op_lt (pe_dget (hu_of hr) (pv 0) pe_str (fun _ _ => rfl)) (pe_callB call_len (by rfl) T.b_len bt_len (pa_cons (pe_dget (hu_of hr) (pv 0) pe_str (fun _ _ => rfl)) pa_nil)) (nomark _))))) (pss_cons (ps_set (i := 2) sc_law_draw.nd rfl (by first | exact Or.inl rfl | exact Or.inr rfl) (pe_ix ix_seq (pe_dget (hu_of hr) (pv 0) pe_str (fun _ _ => rfl)) (pe_dget (hu_of hr) (pv 0) pe_str (fun _ _ => rfl)) (fun _ _ => rfl)))
      (pss_cons (ps_dput (hu_of hr) (pv 0) pe_str (pe_op op_add (pe_dget (hu_of hr) (pv 0) pe_str (fun _ _ => rfl)) pe_int) rfl)
      (pss_one (ps_if (pt_cmpR op_ge (pv 2) (pe_op op_pow pe_int pe_int) (nomark _)) (pss_one (ps_dput (hu_of hr) (pv 0) pe_str (pe_op op_sub (pv 2) (pe_op op_pow pe_int pe_int)) rfl)) (pss_one (ps_dput (hu_of hr) (pv 0) pe_str (pe_op op_mod (pe_callTy call_int1 (by rfl) T.b_int bt_int (pa_cons (pe_op op_add (pe_op op_mul (pe_dget (hu_of hr) (pv 0) pe_str (fun _ _ => rfl)) pe_int) (pv 2)) pa_nil)) pe_int) rfl)))))) pss_nil)
      (pss_cons (ps_if (pt_cmpR op_gt (pe_dget (hu_of hr) (pv 0) pe_str (fun _ _ => rfl)) pe_int (nomark _)) (pss_cons (ps_set (i := 3) sc_law_draw.nd rfl (by first | exact Or.inl rfl | exact Or.inr rfl) (pe_op op_mod (pe_callTy call_int1 (by rfl) T.b_int bt_int (pa_cons (pe_dget (hu_of hr) (pv 0) pe_str (fun _ _ => rfl)) pa_nil)) (pv 1)))
      (pss_cons (ps_dput (hu_of hr) (pv 0) pe_str (pe_op op_fdiv (pe_dget (hu_of hr) (pv 0) pe_str (fun _ _ => rfl)) (pv 1)) rfl)
      (pss_one (ps_ret (pv 3))))) pss_nil)
      (pss_cons (ps_set (i := 4) sc_law_draw.nd rfl (by first | exact Or.inl rfl | exact Or.inr rfl) (pe_op op_add (pe_op op_add (pe_dget (hu_of hr) (pv 0) pe_str (fun _ _ => rfl)) (pe_op op_mul (pe_dget (hu_of hr) (pv 0) pe_str (fun _ _ => rfl)) pe_int)) pe_int))
      (pss_one (ps_ret (pe_op op_mod (pe_op op_fdiv (pe_callTy call_int1 (by rfl) T.b_int bt_int (pa_cons (pe_op op_mod (pe_op op_pow (pv 4) pe_int) pe_int) pa_nil)) pe_int) (pv 1)))))))), ?_⟩
    obtain ⟨cells, a, d, cn, f, hp, hc, a0, d0, c0, cnn, f0, f1⟩ := hP
    -- pen["count"] = pen["count"] + 1
    refine ⟨_, rfl, p, _, rfl, pg_cnt hp, _, _, rfl, rfl, _, rfl, p, _, rfl, pp_cnt hp, ?_⟩
    have b1 : But p H (upd H p (.dK (penKV c a d (cn + 1) f))) := rd_but
    have c1 := rd_upd (o := .dK (penKV c a d (cn + 1) f)) hp hc
    have p1 : (upd H p (.dK (penKV c a d (cn + 1) f))) p = some (.dK (penKV c a d (cn + 1) f)) := upd_same
    generalize upd H p (.dK (penKV c a d (cn + 1) f)) = H1 at b1 c1 p1
    refine ⟨fun σ' H' => ∃ (a' d' f' : Int) (o : Option V), σ' = [some (.ref p), some (.int many), o, none, none] ∧ 0 ≤ a' ∧ 0 ≤ d' ∧ 0 ≤ f' ∧ f' < 2147483648 ∧ H' p = some (.dK (penKV c a' d' (cn + 1) f')) ∧ Rd H' c (.lst (cells.map V.int)) ∧ But p H H', ?_, ?_⟩
    · -- if pen["digits"] == 0 and pen["at"] < len(pen["cells"]):
      refine ⟨_, rfl, p, _, rfl, pg_dig p1, rfl, _, rfl, ?_⟩
      refine ite2 (fun hz => ?_) (fun hz => ?_)
      · refine ⟨_, rfl, p, _, rfl, pg_at p1, _, rfl, p, _, rfl, pg_cells p1, _, _, rfl, .inl ⟨_, .inl c1, rfl⟩, _, _, rfl, rfl, _, rfl, ?_⟩
        refine ite2 (fun hl => ?_) (fun hl => ?_)
        · -- the next cell
          have hl := of_decide_eq_true hl
          obtain ⟨x, hx⟩ : ∃ x, cells[a.toNat]? = some x := ⟨_, List.getElem?_eq_getElem (by rw [List.length_map] at hl; omega)⟩
          have hx' : (cells.map V.int)[a.toNat]? = some (V.int x) := by rw [List.getElem?_map, hx]; rfl
          have ea : ((a.toNat : Nat) : Int) = a := by omega
          refine ⟨_, rfl, p, _, rfl, pg_cells p1, _, rfl, p, _, rfl, pg_at p1, .inl ⟨_, _, _, _, rfl, rfl, .inl c1, by rw [← ea]; exact atI_nat hx', ?_⟩⟩
          refine ⟨_, rfl, p, _, rfl, pg_at p1, _, _, rfl, rfl, _, rfl, p, _, rfl, pp_at p1, ?_⟩
          have b2 : But p H (upd H1 p (.dK (penKV c (a + 1) d (cn + 1) f))) := b1.trans rd_but
          have c2 := rd_upd (o := .dK (penKV c (a + 1) d (cn + 1) f)) p1 c1
          have p2 : (upd H1 p (.dK (penKV c (a + 1) d (cn + 1) f))) p = some (.dK (penKV c (a + 1) d (cn + 1) f)) := upd_same
          generalize upd H1 p (.dK (penKV c (a + 1) d (cn + 1) f)) = H2 at b2 c2 p2
          refine ⟨_, rfl, _, _, rfl, rfl, ⟨by decide, by decide, by decide⟩, _, _, rfl, rfl, _, rfl, ?_⟩
          refine ite2 (fun hg => ?_) (fun hg => ?_)
          · refine ⟨_, rfl, _, _, rfl, rfl, ⟨by decide, by decide, by decide⟩, _, _, rfl, rfl, _, rfl, p, _, rfl, pp_dig p2, ?_⟩
            exact ⟨a + 1, _, f, _, rfl, by omega, by have := of_decide_eq_true hg; omega, f0, f1, upd_same, rd_upd p2 c2, b2.trans rd_but⟩
          · refine ⟨_, rfl, p, _, rfl, pg_fold p2, _, _, rfl, rfl, .inl ⟨by omega, by omega⟩, _, rfl, _, _, rfl, rfl, .inl ⟨_, rfl, _, _, rfl, rfl, (by show (0 : Int) < 2147483269; decide), _, rfl, p, _, rfl, pp_fold p2, ?_⟩⟩
            exact ⟨a + 1, d, _, _, rfl, by omega, d0, Int.emod_nonneg _ (by decide), Int.lt_trans (Int.emod_lt_of_pos _ (by decide)) (by decide), upd_same, rd_upd p2 c2, b2.trans rd_but⟩
        · exact ⟨a, d, f, _, rfl, a0, d0, f0, f1, p1, c1, b1⟩
      · exact ⟨a, d, f, _, rfl, a0, d0, f0, f1, p1, c1, b1⟩
    · rintro σ' H' ⟨a', d', f', o, rfl, a0, d0, f0, f1, p1, c1, b1⟩
      refine ⟨_, rfl, p, _, rfl, pg_dig p1, _, _, rfl, rfl, _, rfl, ?_⟩
      refine ite2 (fun hg => ?_) (fun hg => ?_)
      · -- a digit
        refine ⟨_, rfl, p, _, rfl, pg_dig p1, .inl ⟨_, rfl, _, rfl, _, _, rfl, rfl, m0, ?_⟩⟩
        refine ⟨_, rfl, p, _, rfl, pg_dig p1, _, rfl, _, _, rfl, rfl, ⟨m0, by omega⟩, _, rfl, p, _, rfl, pp_dig p1, ?_⟩
        refine ⟨_, rfl, ?_⟩
        exact k _ _ (Int.emod_nonneg _ (by omega)) (Int.emod_lt_of_pos _ m0) (b1.trans rd_but) ⟨cells, a', _, cn + 1, f', upd_same, rd_upd p1 c1, a0, Int.ediv_nonneg d0 (by omega), by omega, by omega, f0, f1⟩
      · -- the mix
        refine ⟨_, rfl, p, _, rfl, pg_fold p1, _, rfl, p, _, rfl, pg_cnt p1, _, _, rfl, rfl, .inr ⟨by decide, by decide⟩, _, _, rfl, rfl, _, _, rfl, rfl, ?_⟩
        refine ⟨_, rfl, _, _, rfl, rfl, ⟨by decide, by decide, by omega⟩, _, _, rfl, rfl, (by show (0 : Int) < 2305843009213693951; decide), .inl ⟨_, rfl, _, _, rfl, rfl, ⟨by decide, by decide⟩, _, rfl, _, _, rfl, rfl, m0, ?_⟩⟩
        exact k _ _ (Int.emod_nonneg _ (by omega)) (Int.emod_lt_of_pos _ m0) b1 ⟨cells, a', d', cn + 1, f', p1, c1, a0, d0, by omega, by omega, f0, f1⟩
end
end Ag

set_option Elab.async false
set_option linter.all false
set_option maxRecDepth 100000
set_option maxHeartbeats 1000000
set_option exponentiation.threshold 2000
namespace Ag
open PySem PySem.Spec PyProof.Rows L2
theorem atI_int {α : Type} {xs : List α} {i : Int} {v : α} (h0 : 0 ≤ i) (h : xs[i.toNat]? = some v) : atI xs i = some v := by
  obtain ⟨k, rfl⟩ : ∃ k : Nat, i = k := ⟨i.toNat, by omega⟩
  exact atI_nat h

/-! ### names, as texts -/
abbrev S (l : List Nat) : Str := SX.S l
def Digs (i : Nat) : List Nat := (Str.ofString (toString (i : Int))).cps.toList
theorem digs_ok : ∀ i, i < 32 → 1 ≤ (Digs i).length ∧ (Digs i).length ≤ 2 ∧ ∀ c ∈ Digs i, 48 ≤ c ∧ c ≤ 57 := by decide +kernel
theorem digs_inj : ∀ i, i < 32 → ∀ j, j < 32 → Digs i = Digs j → i = j := by decide +kernel
def Nm (i : Nat) (s : Str) : Prop := ∃ a b : List Nat, s = S (a ++ Digs i ++ b) ∧ 1 ≤ a.length ∧ a.length + b.length ≤ 8 ∧ ∀ c ∈ a ++ b, 97 ≤ c ∧ c ≤ 122
theorem nm_filter {i : Nat} {a b : List Nat} (hi : i < 32) (h : ∀ c ∈ a ++ b, 97 ≤ c ∧ c ≤ 122) : (a ++ Digs i ++ b).filter (fun c => decide (c ≤ 57)) = Digs i := by
  have ha : a.filter (fun c => decide (c ≤ 57)) = [] := List.filter_eq_nil_iff.mpr fun c hc => by have := h c (List.mem_append_left _ hc); simp; omega
  have hb : b.filter (fun c => decide (c ≤ 57)) = [] := List.filter_eq_nil_iff.mpr fun c hc => by have := h c (List.mem_append_right _ hc); simp; omega
  have hd : (Digs i).filter (fun c => decide (c ≤ 57)) = Digs i := List.filter_eq_self.mpr fun c hc => by have := (digs_ok i hi).2.2 c hc; simp; omega
  rw [List.filter_append, List.filter_append, ha, hb, hd]; simp
theorem nm_inj {i j : Nat} {s : Str} (hi : i < 32) (hj : j < 32) (h1 : Nm i s) (h2 : Nm j s) : i = j := by
  obtain ⟨a, b, e1, _, _, h⟩ := h1
  obtain ⟨a', b', e2, _, _, h'⟩ := h2
  have e : a ++ Digs i ++ b = a' ++ Digs j ++ b' := SX.S_inj (e1.symm.trans e2)
  have q := congrArg (List.filter (fun c => decide (c ≤ 57))) e
  rw [nm_filter hi h, nm_filter hj h'] at q
  exact digs_inj i hi j hj q
/-- the names of the indices below m, in some order -/
def Nms (m : Nat) (ns : List Str) : Prop := ∃ ms : List Str, ms.length = m ∧ (∀ j s, ms[j]? = some s → Nm j s) ∧ ns.Perm ms
theorem nms_nodup {m : Nat} {ns : List Str} (hm : m ≤ 32) (h : Nms m ns) : ns.Nodup := by
  obtain ⟨ms, hl, hn, hp⟩ := h
  refine hp.nodup_iff.mpr (List.nodup_iff_pairwise_ne.mpr (List.pairwise_iff_getElem.mpr fun i j hi hj hij e => ?_))
  have h1 := hn i _ (List.getElem?_eq_getElem hi)
  have h2 := hn j _ (List.getElem?_eq_getElem hj)
  rw [e] at h1
  have := nm_inj (by omega) (by omega) h1 h2
  omega
theorem nms_mem {m : Nat} {ns : List Str} (h : Nms m ns) {s : Str} (hs : s ∈ ns) : ∃ j, j < m ∧ Nm j s := by
  obtain ⟨ms, hl, hn, hp⟩ := h
  obtain ⟨j, hj, e⟩ := List.getElem_of_mem (hp.mem_iff.mp hs)
  exact ⟨j, by omega, hn j s (by rw [List.getElem?_eq_getElem hj, e])⟩
theorem nms_len {m : Nat} {ns : List Str} (h : Nms m ns) : ns.length = m := by
  obtain ⟨ms, hl, hn, hp⟩ := h; rw [hp.length_eq, hl]
theorem cut_take (l : List Nat) (k : Nat) (h : k ≤ l.length) : cutS (S l) none (some (k : Int)) = S (l.take k) := by
  unfold cutS
  rw [HT.sIx_none, HT.sIx_nat, SX.S_len, Nat.min_eq_left h]
  simp [SX.S]
theorem cut_drop (l : List Nat) (k : Nat) (h : k ≤ l.length) : cutS (S l) (some (k : Int)) none = S (l.drop k) := by
  unfold cutS
  rw [HT.sIx_none, HT.sIx_nat, SX.S_len, Nat.min_eq_left h]
  have e : (l.drop k).take (l.length - k) = l.drop k := List.take_of_length_le (by rw [List.length_drop]; exact Nat.le_refl _)
  simp [SX.S, e]
theorem cut_takeI (l : List Nat) (k : Int) (h0 : 0 ≤ k) (h : k ≤ l.length) : cutS (S l) none (some k) = S (l.take k.toNat) := by
  obtain ⟨j, rfl⟩ : ∃ j : Nat, k = j := ⟨k.toNat, by omega⟩
  exact cut_take l j (by omega)
theorem cut_dropI (l : List Nat) (k : Int) (h0 : 0 ≤ k) (h : k ≤ l.length) : cutS (S l) (some k) none = S (l.drop k.toNat) := by
  obtain ⟨j, rfl⟩ : ∃ j : Nat, k = j := ⟨k.toNat, by omega⟩
  exact cut_drop l j (by omega)
theorem letters_at : ∀ d, d < 26 → ("abcdefghijklmnopqrstuvwxyz" : Str).cps.toList[d]? = some (97 + d) := by decide +kernel
theorem S_one (c : Nat) : (⟨#[c]⟩ : Str) = S [c] := rfl
theorem letters_short : ("abcdefghijklmnopqrstuvwxyz" : Str).length ≤ sizeLine := by decide +kernel

/-! ### promises -/
def spPick (K : PySem.W.Frag) : Sp := fun vs H Q _ => ∃ (p c a : Addr) (xs : List V) (n : Nat), vs = [.ref p, .ref a] ∧ Pen p c n H ∧ (SqL K H a xs ∨ SqT K H a xs) ∧ 0 < xs.length ∧ xs.length < 100000 ∧ n < 1000000000000 ∧
  ∀ (i : Nat) v H', xs[i]? = some v → But p H H' → Pen p c (n + 1) H' → Q v H'
def spShuf (K : PySem.W.Frag) : Sp := fun vs H Q _ => ∃ (p c a : Addr) (xs : List V) (n : Nat), vs = [.ref p, .ref a] ∧ Pen p c n H ∧ (SqL K H a xs ∨ SqT K H a xs) ∧ xs.length < 100000 ∧ n + 100000 < 1000000000000 ∧
  ∀ (l : Addr) (ys : List V) H', ys.Perm xs → H l = none → H' l = some (.lst ys) → But p H H' → Pen p c (n + xs.length) H' → Q (.ref l) H'
def spName : Sp := fun vs H Q _ => ∃ (p c : Addr) (i n : Nat), vs = [.ref p, .int (i : Int)] ∧ Pen p c n H ∧ i < 32 ∧ n + 100000 < 1000000000000 ∧
  ∀ (s : Str) H', Nm i s → But p H H' → Pen p c (n + 10) H' → Q (.str s) H'
def spNames (K : PySem.W.Frag) : Sp := fun vs H Q _ => ∃ (p c : Addr) (m n : Nat), vs = [.ref p, .int (m : Int)] ∧ Pen p c n H ∧ m ≤ 31 ∧ n + 200000 < 1000000000000 ∧
  ∀ (l : Addr) (ns : List Str) H', Nms m ns → H l = none → H' l = some (.lst (ns.map V.str)) → But p H H' → Pen p c (n + 400) H' → Q (.ref l) H'
/-- tuple(sorted(names)) -/
def spCalls (K : PySem.W.Frag) : Sp := fun vs H Q _ => ∃ (p c : Addr) (m n : Nat), vs = [.ref p, .int (m : Int)] ∧ Pen p c n H ∧ m ≤ 31 ∧ n + 200000 < 1000000000000 ∧
  ∀ (l : Addr) (ns : List Str) H', Nms m ns → sortedS ns = true → H' l = some (.tup (ns.map V.str)) → But p H H' → Pen p c (n + 400) H' → Q (.ref l) H'

theorem seq_at {n : Nat} {i : Int} (h0 : 0 ≤ i) (h1 : i < n) : seqIndex? i n = some i.toNat := (ixN_seq (by unfold ixN; rw [if_pos h0, if_pos h1])).1

section
variable {P : Program} {w : World} {K : PySem.W.Frag} {mg : Str → Option Value} {base : Heap} (T : Txt w K mg)
theorem ok_pick : FnOk P w K mg base CX0 2 T.a_law_pick T.d_law_pick ["pen", "some"] (spPick K) := by
  have G_law_draw := ok_draw (P := P) (base := base) T
  refine T.D_law_pick.fn.ok sc_law_pick (fun vs H Q E h => ?_) (fun cdv A outer s H vs Q E hr h => ?_)
  · obtain ⟨p, c, a, xs, n, rfl, _⟩ := h; rfl
  · obtain ⟨p, c, a, xs, n, rfl, hP, hs, x0, x1, n1, k⟩ := h
    refine ⟨_, (pss_one (ps_ret (pe_ix ix_seq (pv 1) (pe_call (G_law_draw) (hr.mono (by omega)) (by rfl) T.D_law_draw.mg T.D_law_draw.fn.kp T.D_law_draw.bd .nil pass0 (pa_cons (pv 0) (pa_cons (pe_callB call_len (by rfl) T.b_len bt_len (pa_cons (pv 1) pa_nil)) pa_nil))) (fun _ _ => rfl)))), ?_⟩
    have hl : LenV K (.ref a) H xs.length := hs.elim (fun z => .inl ⟨_, z, rfl⟩) fun z => .inr ⟨_, z, rfl⟩
    refine ⟨_, rfl, _, rfl, _, rfl, _, _, rfl, hl, p, c, _, n, rfl, hP, by omega, by omega, n1, fun d H1 d0 d1 b1 P1 => ?_⟩
    have hd : d.toNat < xs.length := by omega
    have ed : ((d.toNat : Nat) : Int) = d := by omega
    have hx : xs[d.toNat]? = some xs[d.toNat] := List.getElem?_eq_getElem hd
    rcases hs with hs | hs
    · exact .inl ⟨_, _, _, _, rfl, rfl, hP.sl b1 hs, atI_int d0 hx, k _ _ _ hx b1 P1⟩
    · exact .inr (.inl ⟨_, _, _, _, rfl, rfl, hP.st b1 hs, atI_int d0 hx, k _ _ _ hx b1 P1⟩)

theorem ok_shuf : FnOk P w K mg base CX0 2 T.a_law_shuffled T.d_law_shuffled ["pen", "some"] (spShuf K) := by
  have G_law_draw := ok_draw (P := P) (base := base) T
  refine T.D_law_shuffled.fn.ok sc_law_shuffled (fun vs H Q E h => ?_) (fun cdv A outer s H vs Q E hr h => ?_)
  · obtain ⟨p, c, a, xs, n, rfl, _⟩ := h; rfl
  · obtain ⟨p, c, a, xs, n, rfl, hP, hs, x1, n1, k⟩ := h
    refine ⟨_, (pss_cons (ps_par (i := 2) (j := 3) (by rfl) sc_law_shuffled.nd rfl rfl (by decide) rfl rfl (pa_cons (pe_callTy call_list_of (by rfl) T.b_list bt_list (pa_cons (pv 1) pa_nil)) (pa_cons (pe_lst pa_nil) pa_nil)) (by rfl))
      (pss_cons (ps_for PassesOwn.never rfl (pi_range1 (by rfl) T.b_range (pa_cons (pe_callB call_len (by rfl) T.b_len bt_len (pa_cons (pv 1) pa_nil)) pa_nil)) (pg_name (i := 4) sc_law_shuffled.nd rfl (by first | exact Or.inl rfl | exact Or.inr rfl)) (pss_one (ps_expr (pe_bm PySem.F.plainAttrs_list PySem.F.slot_list_append PySem.F.type_list_append mt_append (pv 3) (pa_cons (pe_bm PySem.F.plainAttrs_list PySem.F.slot_list_pop PySem.F.type_list_pop mt_popAt (pv 2) (pa_cons (pe_call (G_law_draw) (hr.mono (by omega)) (by rfl) T.D_law_draw.mg T.D_law_draw.fn.kp T.D_law_draw.bd .nil pass0 (pa_cons (pv 0) (pa_cons (pe_callB call_len (by rfl) T.b_len bt_len (pa_cons (pv 2) pa_nil)) pa_nil))) pa_nil)) pa_nil)))))
      (pss_one (ps_ret (pv 3))))), ?_⟩
    refine ⟨_, rfl, _, _, rfl, hs, fun l1 hl1 => ⟨Nat.zero_le _, fun l2 hl2 => ⟨_, _, rfl, ?_⟩⟩⟩
    have n12 : l1 ≠ l2 := fun z => by rw [z, upd_same] at hl2; cases hl2
    have hl2' : H l2 = none := by rw [upd_ne (Ne.symm n12)] at hl2; exact hl2
    have s1 : Same H (upd (upd H l1 (.lst xs)) l2 (.lst [])) := (Same.newA hl1).trans (Same.newA hl2)
    have e1 : (upd (upd H l1 (.lst xs)) l2 (.lst [])) l1 = some (.lst xs) := by rw [upd_ne n12]; exact upd_same
    have e2 : (upd (upd H l1 (.lst xs)) l2 (.lst [])) l2 = some (.lst []) := upd_same
    generalize upd (upd H l1 (.lst xs)) l2 (.lst []) = H1 at s1 e1 e2
    have hs1 : SqL K H1 a xs ∨ SqT K H1 a xs := hs.imp s1.slA s1.stA
    have hl : LenV K (.ref a) H1 xs.length := hs1.elim (fun z => .inl ⟨_, z, rfl⟩) fun z => .inr ⟨_, z, rfl⟩
    refine ⟨_, rfl, _, _, rfl, hl, _, rfl, by omega, by omega, for_range (n := xs.length) (fun i σ' H' => ∃ (ls fs : List V) (o : Option V), σ' = [some (.ref p), some (.ref a), some (.ref l1), some (.ref l2), o] ∧
      H' l1 = some (.lst ls) ∧ H' l2 = some (.lst fs) ∧ fs.length = i ∧ (fs ++ ls).Perm xs ∧ But p H H' ∧ Pen p c (n + i) H') ⟨xs, [], none, rfl, e1, e2, rfl, .refl _, .of s1, hP.same s1⟩ ?_ ?_⟩
    · rintro i σ' H' hi ⟨ls, fs, o, rfl, f1, f2, fl, pm, b1, P1⟩
      have tot := pm.length_eq
      rw [List.length_append] at tot
      refine ⟨_, rfl, .inl ⟨rfl, _, SqL.of f2⟩, _, rfl, .inl ⟨rfl, _, SqL.of f1⟩, _, rfl, _, rfl, _, _, rfl, .inl ⟨_, SqL.of f1, rfl⟩, p, c, _, n + i, rfl, P1, by omega, by omega, by omega, fun d H2 d0 d1 b2 P2 => ?_⟩
      have g1 : H2 l1 = some (.lst ls) := b2 _ _ (P1.ne f1 (fun _ z => nomatch z)) f1
      have g2 : H2 l2 = some (.lst fs) := b2 _ _ (P1.ne f2 (fun _ z => nomatch z)) f2
      have hd : d.toNat < ls.length := by omega
      refine ⟨_, _, _, _, _, rfl, rfl, g1, by omega, by omega, seq_at d0 (by omega), List.getElem?_eq_getElem hd, ?_⟩
      refine ⟨_, _, _, rfl, rfl, by rw [upd_ne (Ne.symm n12)]; exact g2, by rw [fl]; exact lt5 (by omega), ?_⟩
      refine ⟨ls.eraseIdx d.toNat, fs ++ [ls[d.toNat]], some (.int (0 + (i : Int))), rfl, ?_, upd_same, by rw [List.length_append, fl]; rfl, ?_, ?_, ?_⟩
      · rw [upd_ne n12]; exact upd_same
      · refine List.Perm.trans ?_ pm
        rw [List.append_assoc]
        exact List.Perm.append_left fs (erase_perm _ _ _ (List.getElem?_eq_getElem hd))
      · intro b u nb e
        rw [upd_ne (ne_of_none e hl2'), upd_ne (ne_of_none e hl1)]
        exact b2 _ _ nb (b1 _ _ nb e)
      · exact (P2.upd (hP.ne_p hl1) (hP.ne_c hl1)).upd (hP.ne_p hl2') (hP.ne_c hl2')
    · rintro σ' H' ⟨ls, fs, o, rfl, f1, f2, fl, pm, b1, P1⟩
      have tot := pm.length_eq
      rw [List.length_append] at tot
      have : ls = [] := List.length_eq_zero_iff.mp (by omega)
      subst this
      rw [List.append_nil] at pm
      exact ⟨_, rfl, k _ _ _ pm hl2' f2 b1 P1⟩

theorem ok_name : FnOk P w K mg base CX0 2 T.a_law_name T.d_law_name ["pen", "index"] spName := by
  have G_law_draw := ok_draw (P := P) (base := base) T
  refine T.D_law_name.fn.ok sc_law_name (fun vs H Q E h => ?_) (fun cdv A outer s H vs Q E hr h => ?_)
  · obtain ⟨p, c, i, n, rfl, _⟩ := h; rfl
  · obtain ⟨p, c, ix, n, rfl, hP, hi, n1, k⟩ := h
    refine ⟨_, (pss_cons (ps_set (i := 2) sc_law_name.nd rfl (by first | exact Or.inl rfl | exact Or.inr rfl) pe_str)
      (pss_cons (ps_for PassesOwn.never rfl (pi_range1 (by rfl) T.b_range (pa_cons (pe_op op_add pe_int (pe_call (G_law_draw) (hr.mono (by omega)) (by rfl) T.D_law_draw.mg T.D_law_draw.fn.kp T.D_law_draw.bd .nil pass0 (pa_cons (pv 0) (pa_cons pe_int pa_nil)))) pa_nil)) (pg_name (i := 3) sc_law_name.nd rfl (by first | exact Or.inl rfl | exact Or.inr rfl)) (pss_one (ps_set (i := 2) sc_law_name.nd rfl (by first | exact Or.inl rfl | exact Or.inr rfl) (pe_op op_add_str (pv 2) (pe_ix ix_seq pe_str (pe_call (G_law_draw) (hr.mono (by omega)) (by rfl) T.D_law_draw.mg T.D_law_draw.fn.kp T.D_law_draw.bd .nil pass0 (pa_cons (pv 0) (pa_cons pe_int pa_nil))) (fun _ _ => rfl))))))
      (pss_cons (ps_set (i := 4) sc_law_name.nd rfl (by first | exact Or.inl rfl | exact Or.inr rfl) (pe_op op_add pe_int (pe_call (G_law_draw) (hr.mono (by omega)) (by rfl) T.D_law_draw.mg T.D_law_draw.fn.kp T.D_law_draw.bd .nil pass0 (pa_cons (pv 0) (pa_cons (pe_callB call_len (by rfl) T.b_len bt_len (pa_cons (pv 2) pa_nil)) pa_nil)))))
      (pss_one (ps_ret (pe_op op_add_str (pe_op op_add_str (pe_slice sl_str (pv 2) po_none (po_some (pv 4))) (pe_callTy call_str_int (by rfl) T.b_str bt_str (pa_cons (pv 1) pa_nil))) (pe_slice sl_str (pv 2) (po_some (pv 4)) po_none))))))), ?_⟩
    refine ⟨_, rfl, p, c, 8, n, rfl, hP, by decide, by decide, by omega, fun d H1 d0 d1 b1 P1 => ?_⟩
    refine ⟨_, _, rfl, rfl, _, rfl, by omega, by omega, for_range (n := (1 + d).toNat) (fun i σ' H' => ∃ (cs : List Nat) (o : Option V), σ' = [some (.ref p), some (.int (ix : Int)), some (.str (S cs)), o, none] ∧
      cs.length = i ∧ (∀ x ∈ cs, 97 ≤ x ∧ x ≤ 122) ∧ But p H H' ∧ Pen p c (n + 1 + i) H') ⟨[], none, rfl, rfl, (fun x hx => by cases hx), b1, P1⟩ ?_ ?_⟩
    · rintro i σ' H' hi ⟨cs, o, rfl, hc, hx, b2, P2⟩
      refine ⟨_, rfl, _, rfl, p, c, 26, _, rfl, P2, by decide, by decide, by omega, fun d2 H2 e0 e1 b3 P3 => ?_⟩
      have ed : ((d2.toNat : Nat) : Int) = d2 := by omega
      refine .inr (.inr ⟨_, _, _, rfl, rfl, letters_short, atI_int e0 (letters_at d2.toNat (by omega)), ?_⟩)
      refine ⟨_, _, rfl, rfl, ?_, ?_⟩
      · rw [SX.S_len]; refine small5 ?_
        show cs.length + 1 ≤ _
        omega
      · refine ⟨cs ++ [97 + d2.toNat], some (.int (0 + (i : Int))), ?_, by rw [List.length_append, hc]; rfl, fun x hx' => ?_, b2.trans b3, P3⟩
        · rw [S_one, SX.S_cat]; rfl
        · rcases List.mem_append.mp hx' with h | h
          · exact hx x h
          · rw [List.mem_singleton.mp h]; omega
    · rintro σ' H' ⟨cs, o, rfl, hc, hx, b2, P2⟩
      refine ⟨_, rfl, _, rfl, _, _, rfl, ⟨by rw [SX.S_len]; exact small5 (by omega), rfl⟩, p, c, _, _, rfl, P2, by rw [SX.S_len]; omega, by rw [SX.S_len]; omega, by omega, fun d2 H2 e0 e1 b3 P3 => ?_⟩
      rw [SX.S_len] at e1
      have lc : cs.length = (1 + d).toNat := hc
      have ct := cut_takeI cs (1 + d2) (by omega) (by omega)
      have cd := cut_dropI cs (1 + d2) (by omega) (by omega)
      have lg : (ix : Int).natAbs.log2 < 1920 := by
        have : (ix : Int).natAbs < 2 ^ 1920 := Nat.lt_of_lt_of_le (by omega : (ix : Int).natAbs < 32) (by decide)
        by_cases z : (ix : Int).natAbs = 0
        · rw [z]; decide
        · exact (Nat.log2_lt z).mpr this
      have eS : cutS (S cs) none (some (1 + d2)) ++ Str.ofString (toString (ix : Int)) ++ cutS (S cs) (some (1 + d2)) none = S (cs.take (1 + d2).toNat ++ Digs ix ++ cs.drop (1 + d2).toNat) := by
        rw [ct, cd, ← SX.S_tl (Str.ofString (toString (ix : Int))), SX.S_cat, SX.S_cat]; rfl
      have l1 : (cutS (S cs) none (some (1 + d2))).length + (Str.ofString (toString (ix : Int))).length ≤ 100000 := by
        rw [ct, SX.S_len, List.length_take, ← SX.S_tl (Str.ofString (toString (ix : Int))), SX.S_len]
        have := (digs_ok ix hi).2.1
        show _ + (Digs ix).length ≤ _
        omega
      have l2 : (cutS (S cs) none (some (1 + d2)) ++ Str.ofString (toString (ix : Int))).length + (cutS (S cs) (some (1 + d2)) none).length ≤ 100000 := by
        rw [ct, cd, ← SX.S_tl (Str.ofString (toString (ix : Int))), SX.S_cat, SX.S_len, SX.S_len, List.length_append, List.length_take, List.length_drop]
        have := (digs_ok ix hi).2.1
        show _ + (Digs ix).length + _ ≤ _
        omega
      refine ⟨_, _, rfl, rfl, _, rfl, _, rfl, _, rfl, _, rfl, by rw [SX.S_len]; exact small5 (by omega), _, rfl, _, rfl, lg, _, _, rfl, rfl, small5 l1, ?_⟩
      refine ⟨_, rfl, _, rfl, _, rfl, _, rfl, by rw [SX.S_len]; exact small5 (by omega), _, _, rfl, rfl, small5 l2, ?_⟩
      refine k _ _ ⟨cs.take (1 + d2).toNat, cs.drop (1 + d2).toNat, eS, ?_, ?_, fun x h => hx x ?_⟩ (b2.trans b3) (P3.more (by omega))
      · rw [List.length_take]; omega
      · rw [List.length_take, List.length_drop]; omega
      · rw [List.take_append_drop] at h; exact h
end
end Ag

set_option Elab.async false
set_option linter.all false
set_option maxRecDepth 100000
set_option maxHeartbeats 1000000
namespace Ag
open PySem PySem.Spec PyProof.Rows L2
theorem vstr_perm {ys : List V} {ms : List Str} (h : ys.Perm (ms.map V.str)) : ∃ ns : List Str, ns.Perm ms ∧ ys = ns.map V.str := by
  have hm : ∀ y ∈ ys, ∃ s, y = V.str s := fun y hy => by
    obtain ⟨s, _, e⟩ := List.mem_map.mp (h.mem_iff.mp hy); exact ⟨s, e.symm⟩
  let f : V → Str := fun v => match v with | .str s => s | _ => Str.empty
  refine ⟨ys.map f, ?_, ?_⟩
  · have := h.map f
    rw [List.map_map] at this
    have e : ms.map (f ∘ V.str) = ms := by
      have q : ms.map (f ∘ V.str) = ms.map id := List.map_congr_left fun s _ => rfl
      rw [q, List.map_id]
    rw [e] at this; exact this
  · rw [List.map_map]
    have e : ys.map (V.str ∘ f) = ys.map id := List.map_congr_left fun y hy => by
      obtain ⟨s, rfl⟩ := hm y hy; rfl
    rw [e, List.map_id]
section
variable {P : Program} {w : World} {K : PySem.W.Frag} {mg : Str → Option Value} {base : Heap} (T : Txt w K mg)
theorem ok_names : FnOk P w K mg base CX0 3 T.a_law_names T.d_law_names ["pen", "many"] (spNames K) := by
  have G_law_name := ok_name (P := P) (base := base) T
  have G_law_shuffled := ok_shuf (P := P) (base := base) T
  refine T.D_law_names.fn.ok sc_law_names (fun vs H Q E h => ?_) (fun cdv A outer s H vs Q E hr h => ?_)
  · obtain ⟨p, c, m, n, rfl, _⟩ := h; rfl
  · obtain ⟨p, c, m, n, rfl, hP, m31, n1, k⟩ := h
    refine ⟨_, (pss_one (ps_ret (pe_call (G_law_shuffled) (hr.mono (by omega)) (by rfl) T.D_law_shuffled.mg T.D_law_shuffled.fn.kp T.D_law_shuffled.bd .nil pass0 (pa_cons (pv 0) (pa_cons (pe_lc (own := [("index", 2)]) rfl sc_law_names.nd (pi_range1 (by rfl) T.b_range (pa_cons (pv 1) pa_nil)) (blkOk_by (own := [("index", 2)]) (N := ["pen", "many", "index"]) (sc := defScope s_law_names) (by decide +kernel)) (fun _ _ _ _ _ => (pg_name (i := 2) sc_law_names.nd rfl (by first | exact Or.inl rfl | exact Or.inr rfl))) (fun _ _ _ _ _ => pts_nil) (fun _ _ _ _ _ => (pe_call (G_law_name) (hr.mono (by omega)) (by rfl) T.D_law_name.mg T.D_law_name.fn.kp T.D_law_name.bd .nil pass0 (pa_cons (pv 0) (pa_cons (pv 2) pa_nil))))) pa_nil))))), ?_⟩
    refine ⟨_, rfl, _, rfl, _, rfl, by omega, by omega, fun D hD => lc_range (lo := 0) (n := m) (fun i H' => ∃ ms : List Str, H' D = some (.lst (ms.map V.str)) ∧ ms.length = i ∧ (∀ j s, ms[j]? = some s → Nm j s) ∧ But p H H' ∧ Pen p c (n + 10 * i) H')
      ⟨[], upd_same, rfl, fun j s e => by simp at e, .of (Same.newA hD), hP.upd (hP.ne_p hD) (hP.ne_c hD)⟩ ?_ ?_⟩
    · rintro i H' hi ⟨ms, e1, ml, hm, b1, P1⟩
      refine ⟨rfl, ?_⟩
      refine ⟨_, rfl, _, rfl, p, c, i, n + 10 * i, ?_, P1, by omega, by omega, fun s H2 hs b2 P2 => ?_⟩
      · show [V.ref p, V.int (0 + (i : Int))] ++ [] = _
        rw [Int.zero_add]; rfl
      have e2 : H2 D = some (.lst (ms.map V.str)) := b2 _ _ (hP.ne_p hD) e1
      refine ⟨_, e2, lt5 (by rw [List.length_map]; omega), ms ++ [s], ?_, by rw [List.length_append, ml]; rfl, fun j t e => ?_, ?_, ?_⟩
      · rw [List.map_append]; exact upd_same
      · rw [List.getElem?_append] at e
        split at e
        · exact hm j t e
        · have : j - ms.length = 0 := by
            cases z : j - ms.length with
            | zero => rfl
            | succ q => rw [z] at e; simp at e
          rw [this] at e
          have ej : j = i := by omega
          simp at e
          rw [← e, ej]; exact hs
      · intro b u nb e
        rw [upd_ne (ne_of_none e hD)]
        exact b2 _ _ nb (b1 _ _ nb e)
      · exact (P2.more (by omega)).upd (hP.ne_p hD) (hP.ne_c hD)
    · rintro H' ⟨ms, e1, ml, hm, b1, P1⟩
      refine ⟨p, c, D, ms.map V.str, _, rfl, P1, .inl (SqL.of e1), by rw [List.length_map]; omega, by omega, fun l ys H2 pm hl e2 b2 P2 => ?_⟩
      obtain ⟨ns, pn, rfl⟩ := vstr_perm pm
      exact k l ns H2 ⟨ms, ml, hm, pn⟩ (b1.free hl (P1.ne_p hl)) e2 (b1.trans b2) (P2.more (by rw [List.length_map, ml]; omega))
theorem ok_calls : FnOk P w K mg base CX0 4 T.a_law_calls T.d_law_calls ["pen", "many"] (spCalls K) := by
  have G_law_names := ok_names (P := P) (base := base) T
  refine T.D_law_calls.fn.ok sc_law_calls (fun vs H Q E h => ?_) (fun cdv A outer s H vs Q E hr h => ?_)
  · obtain ⟨p, c, m, n, rfl, _⟩ := h; rfl
  · obtain ⟨p, c, m, n, rfl, hP, m31, n1, k⟩ := h
    refine ⟨_, (pss_one (ps_ret (pe_callTy call_tuple_of (by rfl) T.b_tuple bt_tuple (pa_cons (pe_callB cr_sortedS (by rfl) T.b_sorted bt_sorted (pa_cons (pe_call (G_law_names) (hr.mono (by omega)) (by rfl) T.D_law_names.mg T.D_law_names.fn.kp T.D_law_names.bd .nil pass0 (pa_cons (pv 0) (pa_cons (pv 1) pa_nil))) pa_nil)) pa_nil)))), ?_⟩
    refine ⟨_, rfl, _, rfl, p, c, m, n, rfl, hP, m31, n1, fun l ns H1 hn hl e1 b1 P1 => ?_⟩
    have len := nms_len hn
    refine ⟨l, ns, rfl, SqL.of e1, by omega, fun ys q py sy hq => ?_⟩
    refine ⟨_, _, rfl, .inl ⟨SqL.of upd_same, fun r hr1 => ?_⟩⟩
    obtain ⟨ms, ml, hm, pm⟩ := hn
    have nrq : r ≠ q := fun z => by rw [z, upd_same] at hr1; cases hr1
    have hr2 : H1 r = none := by rw [upd_ne nrq] at hr1; exact hr1
    exact k r ys _ ⟨ms, ml, hm, py.trans pm⟩ sy upd_same (b1.trans (.of ((Same.newA hq).trans (Same.newA hr1)))) ((P1.upd (P1.ne_p hq) (P1.ne_c hq)).upd (P1.ne_p hr2) (P1.ne_c hr2))
end
end Ag

set_option Elab.async false
set_option linter.all false
set_option maxRecDepth 100000
set_option maxHeartbeats 1000000
namespace Ag
open PySem PySem.Spec PyProof.Rows L2

/-! ### good data -/
mutual
def gd : PyData → Bool
  | .none | .bool _ | .int _ => true
  | .str x => x.cps.all (· < 0x110000) && decide (x.length ≤ 1000)
  | .list xs => gds xs && decide (xs.length ≤ 1000)
  | .tuple xs => gds xs && decide (xs.length ≤ 1000)
  | .dict _ => false
def gds : List PyData → Bool
  | [] => true
  | x :: xs => gd x && gds xs
end
theorem gds_all : ∀ {xs : List PyData}, gds xs = true → ∀ x ∈ xs, gd x = true
  | [], _, _, h => by cases h
  | x :: xs, h, y, hy => by
    simp only [gds, Bool.and_eq_true] at h
    rcases List.mem_cons.mp hy with rfl | hy
    · exact h.1
    · exact gds_all h.2 y hy
theorem gds_of : ∀ {xs : List PyData}, (∀ x ∈ xs, gd x = true) → gds xs = true
  | [], _ => by simp [gds]
  | x :: xs, h => by
    simp only [gds, Bool.and_eq_true]
    exact ⟨h x List.mem_cons_self, gds_of fun y hy => h y (List.mem_cons_of_mem _ hy)⟩
mutual
theorem gd_lay : ∀ {d : PyData}, gd d = true → d.canLay0 = true
  | .none, _ => by simp [PyData.canLay0]
  | .bool _, _ => by simp [PyData.canLay0]
  | .int _, _ => by simp [PyData.canLay0]
  | .str x, h => by
    simp only [gd, Bool.and_eq_true] at h
    simp only [PyData.canLay0]; exact h.1
  | .list xs, h => by
    simp only [gd, Bool.and_eq_true] at h
    simp only [PyData.canLay0]; exact gds_lay h.1
  | .tuple xs, h => by
    simp only [gd, Bool.and_eq_true] at h
    simp only [PyData.canLay0]; exact gds_lay h.1
  | .dict _, h => by simp [gd] at h
theorem gds_lay : ∀ {ds : List PyData}, gds ds = true → PyData.canLayAll0 ds = true
  | [], _ => by simp [PyData.canLayAll0]
  | x :: xs, h => by
    simp only [gds, Bool.and_eq_true] at h
    simp only [PyData.canLayAll0, Bool.and_eq_true]
    exact ⟨gd_lay h.1, gds_lay h.2⟩
end

/-! ### names -/
def letter (c : Nat) : Bool := decide (97 ≤ c ∧ c ≤ 122)
def figure (c : Nat) : Bool := decide (48 ≤ c ∧ c ≤ 57)
theorem letters_list : ("abcdefghijklmnopqrstuvwxyz" : Str).cps.toList = List.range' 97 26 := by decide +kernel
theorem figures_list : ("0123456789" : Str).cps.toList = List.range' 48 10 := by decide +kernel
theorem both_list : ("abcdefghijklmnopqrstuvwxyz0123456789" : Str).cps.toList = List.range' 97 26 ++ List.range' 48 10 := by decide +kernel
theorem mem_letters (c : Nat) : decide (c ∈ ("abcdefghijklmnopqrstuvwxyz" : Str).cps.toList) = letter c := by
  rw [letters_list]; unfold letter; congr 1; rw [List.mem_range'_1]; apply propext; omega
theorem mem_figures (c : Nat) : decide (c ∈ ("0123456789" : Str).cps.toList) = figure c := by
  rw [figures_list]; unfold figure; congr 1; rw [List.mem_range'_1]; apply propext; omega
theorem mem_both (c : Nat) : decide (c ∈ ("abcdefghijklmnopqrstuvwxyz0123456789" : Str).cps.toList) = (letter c || figure c) := by
  rw [both_list, ← mem_letters, ← mem_figures, letters_list, figures_list]
  by_cases h1 : c ∈ List.range' 97 26 <;> by_cases h2 : c ∈ List.range' 48 10 <;> simp [h1, h2]
def nameB (s : Str) : Bool := decide (1 ≤ (s.length : Int)) && decide ((s.length : Int) ≤ 12) && (match s.cps.toList with | [] => false | c :: _ => letter c) && s.cps.toList.all fun c => letter c || figure c
def isName : PyData → Bool | .str s => nameB s | _ => false
theorem nm_name {i : Nat} {s : Str} (hi : i < 32) (h : Nm i s) : nameB s = true := by
  obtain ⟨a, b, rfl, h1, h2, h3⟩ := h
  obtain ⟨d1, d2, d3⟩ := digs_ok i hi
  have hl : (S (a ++ Digs i ++ b)).length = a.length + (Digs i).length + b.length := by rw [SX.S_len, List.length_append, List.length_append]
  have hc : (S (a ++ Digs i ++ b)).cps.toList = a ++ Digs i ++ b := rfl
  unfold nameB
  rw [hl, hc]
  simp only [Bool.and_eq_true, decide_eq_true_eq, List.all_eq_true, Bool.or_eq_true]
  refine ⟨⟨⟨by omega, by omega⟩, ?_⟩, fun c hc => ?_⟩
  · cases a with
    | nil => simp at h1
    | cons x r =>
      have := h3 x (by simp)
      show letter x = true
      unfold letter; simp; omega
  · rcases List.mem_append.mp hc with hc | hc
    · rcases List.mem_append.mp hc with hc | hc
      · have := h3 c (List.mem_append_left _ hc); left; unfold letter; simp; omega
      · have := d3 c hc; right; unfold figure; simp; omega
    · have := h3 c (List.mem_append_right _ hc); left; unfold letter; simp; omega

/-- a def that answers a Bool of one datum -/
def spB (K : PySem.W.Frag) (pre : PyData → Prop) (f : PyData → Bool) : Sp := fun vs H Q _ => ∃ v d, vs = [v] ∧ Dp K H v d ∧ pre d ∧ ∀ H', Same H H' → Q (.bl (f d)) H'
theorem rdc_spB {K : PySem.W.Frag} {E : XK} {pre : PyData → Prop} {f : PyData → Bool} {d : PyData} (hp : pre d) : RDC K (fun vs H Q => spB K pre f vs H Q E) [d] (.bool (f d)) := fun F vs H1 hv Q q => by
  cases hv with
  | cons a r => cases r; exact ⟨_, d, rfl, df_dp a, hp, fun H' s => q _ H' s (.bl _)⟩
theorem all_signs {p : Nat → Bool} (g : PyData → Bool) (hg : ∀ c, g (.str ⟨#[c]⟩) = p c) (x : Str) : ((signs x).map g).all id = x.cps.toList.all p := by
  unfold signs
  rw [List.map_map, List.all_map]
  congr 1; funext c; exact hg c
section
variable {P : Program} {w : World} {K : PySem.W.Frag} {mg : Str → Option Value} {base : Heap} (T : Txt w K mg)
def sgn : PyData → Nat | .str x => x.cps.toList.headD 0 | _ => 0
theorem ok_is_name : FnOk P w K mg base CX0 1 T.a_is_name T.d_is_name ["value"] (spB K (fun d => gd d = true) isName) := by
  refine T.D_is_name.fn.ok sc_is_name (fun vs H Q E h => ?_) (fun cdv A outer s H vs Q E hr h => ?_)
  · obtain ⟨v, d, rfl, _⟩ := h; rfl
  · obtain ⟨v, d, rfl, hv, hd, k⟩ := h
    refine ⟨_, (pss_cons (ps_if (PW.pt (pw_or (pt_not (pt_val (pe_callB call_isi (by rfl) T.b_isinstance bt_isinstance (pa_cons (pv 0) (pa_cons (pe_bltn (v := .ty "str") (by rfl) T.b_str bt_str rfl) pa_nil))))) (pw_or (pt_not (pt_chain op_le op_le pe_int (pe_callB call_len (by rfl) T.b_len bt_len (pa_cons (pv 0) pa_nil)) pe_int)) (pw_or1 (pt_cmpR op_notIn_sign (pe_ix ix_seq (pv 0) pe_int (fun _ _ => rfl)) (pe_glob (v := .str "abcdefghijklmnopqrstuvwxyz") (by rfl) T.g_LETTERS ⟨_, rfl⟩) rfl))))) (pss_one (ps_ret pe_bl)) pss_nil)
      (pss_one (ps_ret (pe_callB (cr_all rfl) (by rfl) T.b_all bt_all (pa_cons (pe_lc (own := [("sign", 1)]) rfl sc_is_name.nd (pi_str (pv 0)) (blkOk_by (own := [("sign", 1)]) (N := ["value", "sign"]) (sc := defScope s_is_name) (by decide +kernel)) (fun _ _ _ _ _ => (pg_name (i := 1) sc_is_name.nd rfl (by first | exact Or.inl rfl | exact Or.inr rfl))) (fun _ _ _ _ _ => pts_nil) (fun _ _ _ _ _ => (pe_or (pe_cmpR op_in_sign (pv 1) (pe_glob (v := .str "abcdefghijklmnopqrstuvwxyz") (by rfl) T.g_LETTERS ⟨_, rfl⟩) rfl) (pe_one (pe_cmpR op_in_sign (pv 1) (pe_glob (v := .str "0123456789") (by rfl) T.g_FIGURES ⟨_, rfl⟩) rfl))))) pa_nil))))), ?_⟩
    have hvar : ∀ H1, Same H H1 → ED K (tVar 0) (start ["value", "sign"] [v]) (nn H) H1 d := fun H1 s1 => ed_var rfl (df_mono s1 (fun _ z => z) (dp_df hv))
    have isi := et_B (ed_isi (T := "str") (hvar H (Same.refl _)) (.inl rfl))
    cases d with
    | str x =>
      have hx : x.length ≤ 1000 := by simp only [gd, Bool.and_eq_true, decide_eq_true_eq] at hd; exact hd.2
      have h12 : ET _ _ H _ := et_not (et_test (ed_chain (r := rI0 fun i j => .bl (decide (i ≤ j))) (r' := rI0 fun i j => .bl (decide (i ≤ j))) (ed_int (i := 1)) (ed_len (hvar H (Same.refl _)) (decide_eq_true (by omega))) (ed_int (i := 12)) rd_cmp fun _ => rd_cmp))
      by_cases hb : decide (1 ≤ (x.length : Int)) && decide ((x.length : Int) ≤ 12)
      · obtain ⟨c, cs, hc⟩ : ∃ c cs, x.cps.toList = c :: cs := by
          cases hc : x.cps.toList with
          | nil => 
            have : x.length = 0 := by show x.cps.size = 0; rw [← Array.length_toList, hc]; rfl
            simp [this] at hb
          | cons c cs => exact ⟨c, cs, rfl⟩
        have hch := et_B (ed_notInS (ed_ixS (j := 0) (hvar H (Same.refl _)) ed_int (by omega) (c := c) (by rw [hc]; rfl)) (ed_str (x := "abcdefghijklmnopqrstuvwxyz")))
        refine s_if (b := !letter c) (et_is (et_or (et_not isi) fun _ => et_or h12 fun _ => hch) ?_) (fun h H1 s1 => ?_) (fun h H1 s1 => ?_)
        · rw [mem_letters]; show (!true || (!(decide (1 ≤ (x.length : Int)) && decide ((x.length : Int) ≤ 12)) || !letter c)) = _; rw [hb]; rfl
        · have := k H1 s1
          have e : isName (.str x) = false := by
            show nameB x = false
            unfold nameB; rw [hc]; simp at h; simp [h]
          rw [e] at this; exact this
        · refine s_ret (F := nn H) (ed_all (bs := (signs x).map fun s => letter (sgn s) || figure (sgn s)) (ed_is (ed_lc (f := fun _ => true) (m := fun s => .bool (letter (sgn s) || figure (sgn s))) (ei_str (hvar H1 s1)) ?_ fun F2 H2 e2 v2 d2 hm hd2 => ?_) ?_)) fun v H2 s2 hv2 => ?_
          · unfold signs; rw [List.length_map, Array.length_toList]; show x.length ≤ _; omega
          · obtain ⟨c2, hc2, rfl⟩ := List.mem_map.mp hm
            refine ⟨_, fun Q q => q, rfl, et_yes, fun _ => ed_is (ed_orV (ed_inS (ed_var rfl hd2) (ed_str (x := "abcdefghijklmnopqrstuvwxyz"))) fun _ => ed_inS (ed_var rfl hd2) (ed_str (x := "0123456789"))) ?_⟩
            rw [mem_letters, mem_figures]; rfl
          · rw [filt_tt, List.map_map]; rfl
          · cases hv2
            have := k H2 (s1.trans s2)
            have e : isName (.str x) = ((signs x).map fun s => letter (sgn s) || figure (sgn s)).all id := by
              rw [all_signs (p := fun c => letter c || figure c) _ (fun c => rfl)]
              show nameB x = _
              unfold nameB; rw [hb, hc]; simp at h; simp [h]
            rw [e] at this; exact this
      · rw [Bool.not_eq_true] at hb
        refine s_if (b := true) (et_is (et_or (b := true) (et_not isi) fun _ => et_is (et_or (b := false) h12 fun h => ?_) ?_) ?_) (fun h H1 s1 => ?_) (fun h H1 s1 => nomatch h)
        · have h := (show (!(decide (1 ≤ (x.length : Int)) && decide ((x.length : Int) ≤ 12))) = false from h)
          rw [hb] at h; cases h
        · show (!(decide (1 ≤ (x.length : Int)) && decide ((x.length : Int) ≤ 12)) || false) = true
          rw [hb]; rfl
        · rfl
        · have := k H1 s1
          have e : isName (.str x) = false := by
            show nameB x = false
            unfold nameB; rw [hb]; rfl
          rw [e] at this; exact this
    | _ =>
      refine s_if (b := true) (et_or (b := true) (et_not isi) fun h => nomatch h) (fun h H1 s1 => ?_) (fun h H1 s1 => nomatch h)
      exact k H1 s1
end
end Ag

set_option Elab.async false
set_option linter.all false
set_option maxRecDepth 100000
set_option maxHeartbeats 1000000
namespace Ag
open PySem PySem.Spec PyProof.Rows L2
section
variable {K : PySem.W.Frag} {σ : L2.St} {F : Addr → Prop} {H : Hp} {te ta tb : TE} {d : PyData} {D : Ends}
theorem s_retB {b c : Bool} (h : ED K te σ F H (.bool b)) (e : b = c) (k : ∀ H1, Same H H1 → D.rt (.bl c) H1) : tRet te D σ H := s_ret h fun v H1 s1 hv => by
  cases hv; subst e; exact k H1 s1
theorem s_retI {b c : Int} (h : ED K te σ F H (.int b)) (e : b = c) (k : ∀ H1, Same H H1 → D.rt (.int c) H1) : tRet te D σ H := s_ret h fun v H1 s1 hv => by
  cases hv; subst e; exact k H1 s1
end
def isWord : PyData → Bool | .tuple ds => ds.all isName | _ => false
theorem gd_tup {ds : List PyData} (h : gd (.tuple ds) = true) : (∀ x ∈ ds, gd x = true) ∧ ds.length ≤ 1000 := by
  simp only [gd, Bool.and_eq_true, decide_eq_true_eq] at h
  exact ⟨gds_all h.1, h.2⟩
section
variable {P : Program} {w : World} {K : PySem.W.Frag} {mg : Str → Option Value} {base : Heap} (T : Txt w K mg)
theorem ok_is_word : FnOk P w K mg base CX0 2 T.a_is_word T.d_is_word ["value"] (spB K (fun d => gd d = true) isWord) := by
  have G_is_name := ok_is_name (P := P) (base := base) T
  refine T.D_is_word.fn.ok sc_is_word (fun vs H Q E h => ?_) (fun cdv A outer s H vs Q E hr h => ?_)
  · obtain ⟨v, d, rfl, _⟩ := h; rfl
  · obtain ⟨v, d, rfl, hv, hd, k⟩ := h
    refine ⟨_, (pss_one (ps_ret (pe_and (pe_callB call_isi (by rfl) T.b_isinstance bt_isinstance (pa_cons (pv 0) (pa_cons (pe_bltn (v := .ty "tuple") (by rfl) T.b_tuple bt_tuple rfl) pa_nil))) (pe_one (pe_callB (cr_all rfl) (by rfl) T.b_all bt_all (pa_cons (pe_lc (own := [("call", 1)]) rfl sc_is_word.nd (pi_tup (pv 0)) (blkOk_by (own := [("call", 1)]) (N := ["value", "call"]) (sc := defScope s_is_word) (by decide +kernel)) (fun _ _ _ _ _ => (pg_name (i := 1) sc_is_word.nd rfl (by first | exact Or.inl rfl | exact Or.inr rfl))) (fun _ _ _ _ _ => pts_nil) (fun _ _ _ _ _ => (pe_call (G_is_name) (hr.mono (by omega)) (by rfl) T.D_is_name.mg T.D_is_name.fn.kp T.D_is_name.bd .nil pass0 (pa_cons (pv 1) pa_nil)))) pa_nil)))))), ?_⟩
    have hvar : ED K (tVar 0) (start ["value", "call"] [v]) (nn H) H d := ed_var rfl (dp_df hv)
    have isi := ed_isi (T := "tuple") hvar (.inr (.inl rfl))
    cases d with
    | tuple ds =>
      obtain ⟨g1, g2⟩ := gd_tup hd
      refine s_retB (F := nn H) (ed_andV isi fun _ => ed_all (bs := ds.map isName) (ed_is (ed_lc (f := fun _ => true) (m := fun s => .bool (isName s)) (ei_tup hvar) (by omega) fun F2 H2 e2 v2 d2 hm hd2 => ?_) ?_)) ?_ k
      · exact ⟨_, fun Q q => q, rfl, et_yes, fun _ => ed_call (ea_cons (ed_var rfl hd2) ea_nil) (rdc_spB (g1 _ hm))⟩
      · rw [filt_tt, List.map_map]; rfl
      · show (true && (ds.map isName).all id) = ds.all isName
        rw [List.all_map]; rfl
    | _ => exact s_retB (F := nn H) (b := false) (ed_andV (a := false) (b := true) isi fun h => nomatch h) rfl k
end
end Ag

set_option Elab.async false
set_option linter.all false
set_option maxRecDepth 100000
set_option maxHeartbeats 1000000
namespace Ag
open PySem PySem.Spec PyProof.Rows L2
section
variable {P : Program} {w : World} {K : PySem.W.Frag} {mg : Str → Option Value} {base : Heap} (T : Txt w K mg)
theorem ok_law_is_name : FnOk P w K mg base CX0 1 T.a_law_is_name T.d_law_is_name ["value"] (spB K (fun d => gd d = true) isName) := by
  refine T.D_law_is_name.fn.ok sc_law_is_name (fun vs H Q E h => ?_) (fun cdv A outer s H vs Q E hr h => ?_)
  · obtain ⟨v, d, rfl, _⟩ := h; rfl
  · obtain ⟨v, d, rfl, hv, hd, k⟩ := h
    refine ⟨_, (pss_cons (ps_if (PW.pt (pw_or (pt_not (pt_val (pe_callB call_isi (by rfl) T.b_isinstance bt_isinstance (pa_cons (pv 0) (pa_cons (pe_bltn (v := .ty "str") (by rfl) T.b_str bt_str rfl) pa_nil))))) (pw_or (pt_not (pt_chain op_le op_le pe_int (pe_callB call_len (by rfl) T.b_len bt_len (pa_cons (pv 0) pa_nil)) pe_int)) (pw_or1 (pt_cmpR op_notIn_sign (pe_ix ix_seq (pv 0) pe_int (fun _ _ => rfl)) pe_str rfl))))) (pss_one (ps_ret pe_bl)) pss_nil)
      (pss_one (ps_ret (pe_cmpR (op_eqE hr.units) (pe_lc (own := [("sign", 1)]) rfl sc_law_is_name.nd (pi_str (pv 0)) (blkOk_by (own := [("sign", 1)]) (N := ["value", "sign"]) (sc := defScope s_law_is_name) (by decide +kernel)) (fun _ _ _ _ _ => (pg_name (i := 1) sc_law_is_name.nd rfl (by first | exact Or.inl rfl | exact Or.inr rfl))) (fun _ _ _ _ _ => (pts_one (pt_cmpR op_notIn_sign (pv 1) pe_str rfl))) (fun _ _ _ _ _ => (pv 1))) (pe_lst pa_nil) (nomark _))))), ?_⟩
    have hvar : ∀ H1, Same H H1 → ED K (tVar 0) (start ["value", "sign"] [v]) (nn H) H1 d := fun H1 s1 => ed_var rfl (df_mono s1 (fun _ z => z) (dp_df hv))
    have isi := et_B (ed_isi (T := "str") (hvar H (Same.refl _)) (.inl rfl))
    cases d with
    | str x =>
      have hx : x.length ≤ 1000 := by simp only [gd, Bool.and_eq_true, decide_eq_true_eq] at hd; exact hd.2
      have h12 : ET _ _ H _ := et_not (et_test (ed_chain (r := rI0 fun i j => .bl (decide (i ≤ j))) (r' := rI0 fun i j => .bl (decide (i ≤ j))) (ed_int (i := 1)) (ed_len (hvar H (Same.refl _)) (decide_eq_true (by omega))) (ed_int (i := 12)) rd_cmp fun _ => rd_cmp))
      by_cases hb : decide (1 ≤ (x.length : Int)) && decide ((x.length : Int) ≤ 12)
      · obtain ⟨c, cs, hc⟩ : ∃ c cs, x.cps.toList = c :: cs := by
          cases hc : x.cps.toList with
          | nil => 
            have : x.length = 0 := by show x.cps.size = 0; rw [← Array.length_toList, hc]; rfl
            simp [this] at hb
          | cons c cs => exact ⟨c, cs, rfl⟩
        have hch := et_B (ed_notInS (ed_ixS (j := 0) (hvar H (Same.refl _)) ed_int (by omega) (c := c) (by rw [hc]; rfl)) (ed_str (x := "abcdefghijklmnopqrstuvwxyz")))
        refine s_if (b := !letter c) (et_is (et_or (et_not isi) fun _ => et_or h12 fun _ => hch) ?_) (fun h H1 s1 => ?_) (fun h H1 s1 => ?_)
        · rw [mem_letters]; show (!true || (!(decide (1 ≤ (x.length : Int)) && decide ((x.length : Int) ≤ 12)) || !letter c)) = _; rw [hb]; rfl
        · have := k H1 s1
          have e : isName (.str x) = false := by
            show nameB x = false
            unfold nameB; rw [hc]; simp at h; simp [h]
          rw [e] at this; exact this
        · refine s_retB (F := nn H) (ed_eqE (ed_lc (f := fun s => !(letter (sgn s) || figure (sgn s))) (m := fun s => s) (ei_str (hvar H1 s1)) ?_ fun F2 H2 e2 v2 d2 hm hd2 => ?_) ed_emp ?_) ?_ fun H2 s2 => k H2 (s1.trans s2)
          · unfold signs; rw [List.length_map, Array.length_toList]; show x.length ≤ _; omega
          · obtain ⟨c2, hc2, rfl⟩ := List.mem_map.mp hm
            refine ⟨_, fun Q q => q, rfl, et_is (et_test (ed_notInS (ed_var rfl hd2) (ed_str (x := "abcdefghijklmnopqrstuvwxyz0123456789")))) ?_, fun _ => ed_var rfl hd2⟩
            rw [mem_both]; rfl
          · rw [List.map_id']
            refine gds_lay (gds_of fun y hy => ?_)
            obtain ⟨c2, hc2, rfl⟩ := List.mem_map.mp (List.mem_filter.mp hy).1
            simp only [gd, Bool.and_eq_true, decide_eq_true_eq] at hd
            have : c2 < 0x110000 := by
              have := (Array.all_eq_true_iff_forall_mem.mp hd.1) c2 (by rw [← Array.mem_toList_iff]; exact hc2)
              simpa using this
            simp only [gd, Bool.and_eq_true, decide_eq_true_eq]
            exact ⟨by simp [this], by show (1 : Nat) ≤ 1000; decide⟩
          · show _ = nameB x
            have e := all_signs (p := fun c => letter c || figure c) (fun s => letter (sgn s) || figure (sgn s)) (fun c => rfl) x
            rw [List.map_id']
            have e2 : (List.filter (fun s => !(letter (sgn s) || figure (sgn s))) (signs x)).isEmpty = ((signs x).map fun s => letter (sgn s) || figure (sgn s)).all id := by
              rw [List.all_map, Bool.eq_iff_iff, List.isEmpty_iff, List.filter_eq_nil_iff, List.all_eq_true]
              refine forall_congr' fun a => forall_congr' fun _ => ?_
              show ¬ ((!(letter (sgn a) || figure (sgn a))) = true) ↔ (letter (sgn a) || figure (sgn a)) = true
              cases (letter (sgn a) || figure (sgn a)) <;> simp
            rw [e2, e]
            unfold nameB; rw [hb, hc]; simp at h; simp [h]
      · rw [Bool.not_eq_true] at hb
        refine s_if (b := true) (et_is (et_or (b := true) (et_not isi) fun _ => et_is (et_or (b := false) h12 fun h => ?_) ?_) ?_) (fun h H1 s1 => ?_) (fun h H1 s1 => nomatch h)
        · have h := (show (!(decide (1 ≤ (x.length : Int)) && decide ((x.length : Int) ≤ 12))) = false from h)
          rw [hb] at h; cases h
        · show (!(decide (1 ≤ (x.length : Int)) && decide ((x.length : Int) ≤ 12)) || false) = true
          rw [hb]; rfl
        · rfl
        · have := k H1 s1
          have e : isName (.str x) = false := by
            show nameB x = false
            unfold nameB; rw [hb]; rfl
          rw [e] at this; exact this
    | _ =>
      refine s_if (b := true) (et_or (b := true) (et_not isi) fun h => nomatch h) (fun h H1 s1 => ?_) (fun h H1 s1 => nomatch h)
      exact k H1 s1
end
end Ag

set_option Elab.async false
set_option linter.all false
set_option maxRecDepth 100000
set_option maxHeartbeats 1000000
namespace Ag
open PySem PySem.Spec PyProof.Rows L2
section
variable {P : Program} {w : World} {K : PySem.W.Frag} {mg : Str → Option Value} {base : Heap}
def spNo : Sp := fun _ _ _ _ => False
theorem no_ok (k : Nat) {x : Str} {N : List Str} {st : Stmt} {ps : List Str} {a : Addr} {fd : FuncData} (D : DefAt K mg x st ps a fd) (S : FnScope N ps (defScope st)) : FnOk P w K mg base CX0 (k + 1) a fd ps spNo :=
  D.fn.ok S (fun vs H Q E h => h.elim) (fun cdv A outer s H vs Q E hr h => h.elim)
end
theorem merge_pen {c : Addr} {a d n f : Int} : mergeK [] [(ck "cells", V.ref c), (ck "at", .int a), (ck "digits", .int d), (ck "count", .int n), (ck "fold", .int f)] = penKV c a d n f := by
  unfold mergeK
  simp [putK, penKV, ck, sn_cells_at, sn_cells_digits, sn_cells_count, sn_cells_fold, sn_at_digits, sn_at_count, sn_at_fold, sn_digits_count, sn_digits_fold, sn_count_fold]
def spLPen (K : PySem.W.Frag) : Sp := fun vs H Q _ => ∃ (a : Addr) (ns : List Int), vs = [.ref a] ∧ SqL K H a (ns.map V.int) ∧ ns.length ≤ 63 ∧ ∀ p c H', Same H H' → Pen p c 0 H' → Q (.ref p) H'
/-- told and due are one and the same leaf -/
def leafD : PyData → Bool | .bool _ => true | .str _ => true | _ => false
def spSame0 (K : PySem.W.Frag) : Sp := fun vs H Q _ => ∃ x y d, vs = [x, y] ∧ Dp K H x d ∧ Dp K H y d ∧ leafD d = true ∧ ∀ H', Same H H' → Q (.bl true) H'
def spSame1 (K : PySem.W.Frag) : Sp := fun vs H Q _ => ∃ x y ds, vs = [x, y] ∧ Dp K H x (.tuple ds) ∧ Dp K H y (.tuple ds) ∧ ds.length ≤ 1000 ∧ (∀ d ∈ ds, leafD d = true) ∧ ∀ H', Same H H' → Q (.bl true) H'
def oneD : PyData → PyData | .tuple [a, _] => a | d => d
def twoD : PyData → PyData | .tuple [_, b] => b | d => d
section
variable {P : Program} {w : World} {K : PySem.W.Frag} {mg : Str → Option Value} {base : Heap} (T : Txt w K mg)
theorem ok_law_pen : FnOk P w K mg base CX0 1 T.a_law_pen T.d_law_pen ["script"] (spLPen K) := by
  refine T.D_law_pen.fn.ok sc_law_pen (fun vs H Q E h => ?_) (fun cdv A outer s H vs Q E hr h => ?_)
  · obtain ⟨a, ns, rfl, _⟩ := h; rfl
  · obtain ⟨a, ns, rfl, hs, hl, k⟩ := h
    refine ⟨_, (pss_cons (ps_set (i := 1) sc_law_pen.nd rfl (by first | exact Or.inl rfl | exact Or.inr rfl) pe_int)
      (pss_cons (ps_for PassesOwn.never rfl (pi_list (pv 0)) (pg_name (i := 2) sc_law_pen.nd rfl (by first | exact Or.inl rfl | exact Or.inr rfl)) (pss_one (ps_set (i := 1) sc_law_pen.nd rfl (by first | exact Or.inl rfl | exact Or.inr rfl) (pe_op op_mod (pe_callTy call_int1 (by rfl) T.b_int bt_int (pa_cons (pe_op op_add (pe_op op_mul (pv 1) pe_int) (pv 2)) pa_nil)) pe_int))))
      (pss_one (ps_ret (pe_disp (pps_cons pe_str (pe_callTy call_list_of (by rfl) T.b_list bt_list (pa_cons (pv 0) pa_nil)) (pps_cons pe_str pe_int (pps_cons pe_str pe_int (pps_cons pe_str pe_int (pps_cons pe_str (pv 1) pps_nil))))) (by rfl) (by rfl) (fun z => by cases z) (by decide)))))), ?_⟩
    refine ⟨_, rfl, a, rfl, ⟨_, hs⟩, for_list (K := K) (a := a) (xs := ns.map V.int) (fun i σ' H' => H' = H ∧ ∃ (f : Int) (o : Option V), σ' = [some (.ref a), some (.int f), o] ∧ 0 ≤ f ∧ f < 1000000411) ⟨rfl, 29, none, rfl, by decide, by decide⟩ (fun i σ' H' _ h => by rw [h.1]; exact hs) ?_ ?_⟩
    · rintro i y σ' H' hi ⟨rfl, f, o, rfl, f0, f1⟩
      obtain ⟨u, rfl⟩ : ∃ u, y = V.int u := by
        rw [List.getElem?_map] at hi
        cases e : ns[i]? with
        | none => rw [e] at hi; cases hi
        | some u => rw [e] at hi; exact ⟨u, (Option.some.inj hi).symm⟩
      refine ⟨_, rfl, _, _, rfl, rfl, .inl ⟨by omega, by omega⟩, _, rfl, _, _, rfl, rfl, .inl ⟨_, rfl, _, _, rfl, rfl, (by show (0 : Int) < 1000000411; decide), ?_⟩⟩
      exact ⟨rfl, _, _, rfl, Int.emod_nonneg _ (by decide), Int.emod_lt_of_pos _ (by decide)⟩
    · rintro σ' H' ⟨rfl, f, o, rfl, f0, f1⟩
      intro p hp
      refine ⟨_, rfl, _, _, rfl, .inl ((Same.newA hp).slA hs), fun c hc => ⟨_, rfl, ?_⟩⟩
      have npc : p ≠ c := ne_of_none upd_same hc
      have s2 : Same H' (upd (upd H' p (.dK [])) c (.lst (ns.map V.int))) := (Same.newA hp).trans (Same.newA hc)
      refine ⟨by rw [upd_ne npc]; exact upd_same, [(ck "cells", V.ref c), (ck "at", .int 0), (ck "digits", .int 0), (ck "count", .int 0), (ck "fold", .int f)], rfl, (by decide : 5 ≤ 15), ?_⟩
      rw [merge_pen]
      refine k p c _ (fun b o e => ?_) ⟨ns, 0, 0, 0, f, upd_same, .inl (by rw [upd_ne (Ne.symm npc)]; exact upd_same), by decide, by decide, by decide, by decide, f0, by omega⟩
      rw [upd_ne (ne_of_none e hp)]; exact s2 _ _ e
theorem step_same0 (m : Nat) {spR : Sp} (G_law_same : FnOk P w K mg base CX0 m T.a_law_same T.d_law_same ["told", "due"] spR) : FnOk P w K mg base CX0 (m + 1) T.a_law_same T.d_law_same ["told", "due"] (spSame0 K) := by
  refine T.D_law_same.fn.ok sc_law_same (fun vs H Q E h => ?_) (fun cdv A outer s H vs Q E hr h => ?_)
  · obtain ⟨x, y, d, rfl, _⟩ := h; rfl
  · obtain ⟨x, y, d, rfl, hx, hy, hd, k⟩ := h
    refine ⟨_, (pss_cons (ps_if (pt_val (pe_callB call_isi (by rfl) T.b_isinstance bt_isinstance (pa_cons (pv 1) (pa_cons (pe_bltn (v := .ty "tuple") (by rfl) T.b_tuple bt_tuple rfl) pa_nil)))) (pss_one (ps_ret (pe_and (pe_callB call_isi (by rfl) T.b_isinstance bt_isinstance (pa_cons (pv 0) (pa_cons (pe_bltn (v := .ty "tuple") (by rfl) T.b_tuple bt_tuple rfl) pa_nil))) (pe_and (pe_cmpR op_eq (pe_callB call_len (by rfl) T.b_len bt_len (pa_cons (pv 0) pa_nil)) (pe_callB call_len (by rfl) T.b_len bt_len (pa_cons (pv 1) pa_nil)) (nomark _)) (pe_one (pe_callB (cr_all rfl) (by rfl) T.b_all bt_all (pa_cons (pe_lc (own := [("one", 2), ("two", 3)]) (g := (gTup K 2 (gCons (gName 2) (gCons (gName 3) gNil)))) rfl sc_law_same.nd (RZ.pi_zipA (by rfl) T.b_zip (pa_cons (pv 0) (pa_cons (pv 1) pa_nil))) (blkOk_by (own := [("one", 2), ("two", 3)]) (N := ["told", "due", "one", "two"]) (sc := defScope s_law_same) (by decide +kernel)) (fun _ _ _ _ _ => (pg_tup rfl (pgs_cons (pg_name (i := 2) sc_law_same.nd rfl (by first | exact Or.inl rfl | exact Or.inr rfl)) (pgs_cons (pg_name (i := 3) sc_law_same.nd rfl (by first | exact Or.inl rfl | exact Or.inr rfl)) pgs_nil)))) (fun _ _ _ _ _ => pts_nil) (fun _ _ _ _ _ => (pe_call (G_law_same) (hr.mono (by omega)) (by rfl) T.D_law_same.mg T.D_law_same.fn.kp T.D_law_same.bd .nil pass0 (pa_cons (pv 2) (pa_cons (pv 3) pa_nil))))) pa_nil))))))) pss_nil)
      (pss_cons (ps_if (pt_cmpR op_isN (pv 1) pe_non (nomark _)) (pss_one (ps_ret (pe_cmpR op_isN (pv 0) pe_non (nomark _)))) pss_nil)
      (pss_cons (ps_if (pt_cmpR op_isB (pv 1) pe_bl (nomark _)) (pss_one (ps_ret (pe_cmpR op_isB (pv 0) pe_bl (nomark _)))) pss_nil)
      (pss_cons (ps_if (pt_cmpR op_isB (pv 1) pe_bl (nomark _)) (pss_one (ps_ret (pe_cmpR op_isB (pv 0) pe_bl (nomark _)))) pss_nil)
      (pss_cons (ps_if (pt_val (pe_callB call_isi (by rfl) T.b_isinstance bt_isinstance (pa_cons (pv 1) (pa_cons (pe_bltn (v := .ty "int") (by rfl) T.b_int bt_int rfl) pa_nil)))) (pss_one (ps_ret (pe_and (pe_callB call_isi (by rfl) T.b_isinstance bt_isinstance (pa_cons (pv 0) (pa_cons (pe_bltn (v := .ty "int") (by rfl) T.b_int bt_int rfl) pa_nil))) (pe_and (pe_not (pe_callB call_isi (by rfl) T.b_isinstance bt_isinstance (pa_cons (pv 0) (pa_cons (pe_bltn (v := .ty "bool") (by rfl) T.b_bool bt_bool rfl) pa_nil)))) (pe_one (pe_cmpR op_eq (pv 0) (pv 1) (nomark _))))))) pss_nil)
      (pss_one (ps_ret (pe_and (pe_callB call_isi (by rfl) T.b_isinstance bt_isinstance (pa_cons (pv 0) (pa_cons (pe_bltn (v := .ty "str") (by rfl) T.b_str bt_str rfl) pa_nil))) (pe_one (pe_cmpR op_eq (pv 0) (pv 1) (nomark _))))))))))), ?_⟩
    have h0 : ∀ H1, Same H H1 → ED K (tVar 0) (start ["told", "due", "one", "two"] [x, y]) (nn H) H1 d := fun H1 s1 => ed_var rfl (df_mono s1 (fun _ z => z) (dp_df hx))
    have h1 : ∀ H1, Same H H1 → ED K (tVar 1) (start ["told", "due", "one", "two"] [x, y]) (nn H) H1 d := fun H1 s1 => ed_var rfl (df_mono s1 (fun _ z => z) (dp_df hy))
    cases d with
    | bool b =>
      refine s_if (b := false) (et_B (ed_isi (T := "tuple") (h1 H (Same.refl _)) (.inr (.inl rfl)))) (fun h => nomatch h) fun _ H1 s1 => ?_
      refine s_if (b := false) (et_test (ed_isN (h1 H1 s1))) (fun h => nomatch h) fun _ H2 s2 => ?_
      have s12 := s1.trans s2
      refine s_if (et_test (ed_isB (h1 H2 s12))) (fun h H3 s3 => ?_) fun h H3 s3 => ?_
      · have s13 := s12.trans s3
        exact s_retB (ed_isB (h0 H3 s13)) h fun H4 s4 => k H4 (s13.trans s4)
      · have s13 := s12.trans s3
        refine s_if (et_test (ed_isB (h1 H3 s13))) (fun h2 H4 s4 => ?_) fun h2 H4 s4 => ?_
        · exact s_retB (ed_isB (h0 H4 (s13.trans s4))) h2 fun H5 s5 => k H5 ((s13.trans s4).trans s5)
        · cases b
          · cases h2
          · cases h
    | str z =>
      refine s_if (b := false) (et_B (ed_isi (T := "tuple") (h1 H (Same.refl _)) (.inr (.inl rfl)))) (fun h => nomatch h) fun _ H1 s1 => ?_
      refine s_if (b := false) (et_test (ed_isN (h1 H1 s1))) (fun h => nomatch h) fun _ H2 s2 => ?_
      have s12 := s1.trans s2
      refine s_if (b := false) (et_test (ed_isB (h1 H2 s12))) (fun h => nomatch h) fun h H3 s3 => ?_
      have s13 := s12.trans s3
      refine s_if (b := false) (et_test (ed_isB (h1 H3 s13))) (fun h => nomatch h) fun h H4 s4 => ?_
      have s14 := s13.trans s4
      refine s_if (b := false) (et_B (ed_isi (T := "int") (h1 H4 s14) (.inr (.inr (.inr (.inl rfl)))))) (fun h => nomatch h) fun h H5 s5 => ?_
      have s15 := s14.trans s5
      exact s_retB (ed_andV (ed_isi (T := "str") (h0 H5 s15) (.inl rfl)) fun _ => ed_eqS (h0 H5 s15) (h1 H5 s15)) (by rw [decide_eq_true rfl]; rfl) fun H6 s6 => k H6 (s15.trans s6)
    | _ => cases hd
theorem ok_law_same0 : FnOk P w K mg base CX0 2 T.a_law_same T.d_law_same ["told", "due"] (spSame0 K) := step_same0 T 1 (no_ok 0 T.D_law_same sc_law_same)
end
end Ag

set_option Elab.async false
set_option linter.all false
set_option maxRecDepth 100000
set_option maxHeartbeats 1000000
namespace Ag
open PySem PySem.Spec PyProof.Rows L2
/-- an error's __init__ of two fields -/
def spEx2 (C : Addr) (f g : Str) : Sp := fun vs H Q _ => ∃ (a : Addr) (x y : V), vs = [.ref a, x, y] ∧ H a = some (exo a C none) ∧ ∀ (d : Addr) H', H d = none → d ≠ a → (∀ b o, b ≠ a → H b = some o → H' b = some o) → H' a = some (exo a C (some d)) → H' d = some (exd d [(g, y), (f, x)]) → Q .non H'
section
variable {P : Program} {w : World} {K : PySem.W.Frag} {mg : Str → Option Value} {base : Heap} (T : Txt w K mg)
theorem ok_BadText_init : FnOk P w K mg base CX0 1 T.a_BadText___init__ T.d_BadText___init__ ["self", "line", "word"] (spEx2 T.C_BadText "line" "word") := by
  refine T.D_BadText___init__.fn.ok sc_BadText___init__ (fun vs H Q E h => ?_) (fun cdv A outer s H vs Q E hr h => ?_)
  · obtain ⟨a, x, y, rfl, _⟩ := h; rfl
  · obtain ⟨a, x, y, rfl, ha, k⟩ := h
    refine ⟨_, (pss_cons (ps_ost (pv 0) (pv 1))
      (pss_one (ps_ost (pv 0) (pv 2)))), ?_⟩
    refine ⟨_, rfl, _, rfl, a, T.C_BadText, rfl, T.ox_BadText, T.na_BadText_line, .inl ⟨ha, fun d hd nda => ?_⟩⟩
    refine ⟨_, rfl, _, rfl, a, T.C_BadText, rfl, T.ox_BadText, T.na_BadText_word, .inr ⟨d, [("line", x)], upd_same, by rw [upd_ne nda]; exact upd_same, Nat.le_of_ble_eq_true rfl, ?_⟩⟩
    refine k d _ hd nda (fun b o nb e => ?_) (by rw [upd_ne (Ne.symm nda)]; exact upd_same) upd_same
    have nbd : b ≠ d := ne_of_none e hd
    rw [upd_ne nbd, upd_ne nb, upd_ne nbd]; exact e
end
end Ag

set_option Elab.async false
set_option linter.all false
set_option maxRecDepth 100000
set_option maxHeartbeats 1000000
namespace Ag
open PySem PySem.Spec PyProof.Rows L2
/-- what a BadText that is let out leaves -/
def BadAt (C : Addr) (l s : Int) (H : Hp) (E : XK) : Prop := ∀ d H', Same H H' → H d = none → H' d = some (.xd [("word", .int s), ("line", .int l)]) → E (.ref C) (some d) H'
def linesD (x : Str) : List PyData := (Txt.split x "\n").map fun l => .list ((Txt.split l " ").map .str)
section
variable {P : Program} {w : World} {K : PySem.W.Frag} {mg : Str → Option Value} {base : Heap} (T : Txt w K mg)
/-- the lines of a text, each its words; what is no text is refused -/
def spLines (K : PySem.W.Frag) (B : Addr) : Sp := fun vs H Q E => ∃ v d, vs = [v] ∧ Dp K H v d ∧ (isiB "str" d = false → BadAt B 0 0 H E) ∧
  ∀ x, d = .str x → x.length ≤ 50000 ∧ (∀ l ∈ Txt.split x "\n", l.length ≤ 50000) ∧ (Txt.split x "\n").length ≤ 50000 ∧ ∀ l us H', Same H H' → H l = none → H' l = some (.lst us) → DfAll K (fun a => Fr (nn H) H a ∧ a ≠ l) H' us (linesD x) → Q (.ref l) H'
theorem run_ret {te : TE} {D : Ends} {σ : L2.St} {H : Hp} (h : te σ H D.rt) : tRet te D σ H := h
theorem ok_rows_of : FnOk P w K mg base (L2.CX P w) 3 T.a_rows_of T.d_rows_of ["text"] (spLines K T.C_BadText) := by
  have G_BadText___init__ := ok_BadText_init (P := P) (base := base) T
  refine T.D_rows_of.fn.okX sc_rows_of (fun vs H Q E h => ?_) (fun cdv A outer s H vs Q E hr h => ?_)
  · obtain ⟨v, d, rfl, _⟩ := h; rfl
  · obtain ⟨v, d, rfl, hv, kE, kQ⟩ := h
    refine ⟨_, (pss_cons (ps_if (pt_not (pt_val (pe_callB call_isi (by rfl) T.b_isinstance bt_isinstance (pa_cons (pv 0) (pa_cons (pe_bltn (v := .ty "str") (by rfl) T.b_str bt_str rfl) pa_nil))))) (pss_one (ps_raise rfl (takes_of rfl rfl rfl rfl) (pmk_oex T.ox_BadText T.ic_BadText T.ti_BadText (G_BadText___init__) (hr.mono (by omega)) T.D_BadText___init__.bd .nil pass0 (by rfl) T.g_BadText (pa_cons pe_int (pa_cons pe_int pa_nil))))) pss_nil)
      (pss_one (ps_ret (pe_lc (own := [("line", 1)]) rfl sc_rows_of.nd (pi_list (pe_split (pv 0) pe_str)) (blkOk_by (own := [("line", 1)]) (N := ["text", "line"]) (sc := defScope s_rows_of) (by decide +kernel)) (fun _ _ _ _ _ => (pg_name (i := 1) sc_rows_of.nd rfl (by first | exact Or.inl rfl | exact Or.inr rfl))) (fun _ _ _ _ _ => pts_nil) (fun _ _ _ _ _ => (pe_split (pv 1) pe_str)))))), ?_⟩
    have hvar : ED K (tVar 0) (start ["text", "line"] [v]) (nn H) H d := ed_var rfl (dp_df hv)
    have isi := et_not (et_B (ed_isi (T := "str") hvar (.inl rfl)))
    cases hb : isiB "str" d with
    | false =>
      rw [hb] at isi
      refine s_if (b := true) isi (fun _ H1 s1 => ?_) (fun h => nomatch h)
      refine ⟨(by decide : 2 ≤ 1000), fun a ha => ?_⟩
      refine ⟨a, .int 0, .int 0, rfl, upd_same, fun d H' hd nda keep ea ed => ⟨rfl, d, _, ea, ed, ?_, kE hb d _ (fun b o e => ?_) ?_ upd_same⟩⟩
      · rw [upd_ne nda] at hd; exact hd
      · have e1 := s1 _ _ e
        have nba : b ≠ a := ne_of_none e1 ha
        rw [upd_ne nda] at hd
        rw [upd_ne (ne_of_none e1 hd), del_ne nba]
        exact keep b o nba (by rw [upd_ne nba]; exact e1)
      · rw [upd_ne nda] at hd; exact s1.freshA hd
    | true =>
      cases d with
      | str x =>
        obtain ⟨l1, l2, l3, kk⟩ := kQ x rfl
        refine s_if (b := false) isi (fun h => nomatch h) (fun _ H1 s1 => ?_)
        refine run_ret (lc_run (F := nn H) (f := fun _ => true) (m := fun d => match d with | .str l => .list ((Txt.split l " ").map .str) | d => d) (ei_list (ed_split hvar (ed_str (x := "\n")) (by decide +kernel) (by omega))) (by rw [List.length_map]; omega) (fun F2 H2 e2 v2 d2 hm hd2 => ?_) H1 s1 _ fun D ys H' s2 nD eD rD => ?_)
        · obtain ⟨l, hl, rfl⟩ := List.mem_map.mp hm
          have := l2 l hl
          exact ⟨_, fun Q q => q, rfl, et_yes, fun _ => ed_split (ed_var rfl hd2) (ed_str (x := " ")) (by decide +kernel) (by omega)⟩
        · refine kk D ys H' (s1.trans s2) (s1.freshA nD) eD ?_
          rw [filt_tt, List.map_map] at rD
          exact dfs_mono (Same.refl _) (fun a z => ⟨z.1.imp id fun q => s1.freshA q, z.2⟩) rD
      | _ => cases hb
end
end Ag

set_option Elab.async false
set_option linter.all false
set_option maxRecDepth 100000
set_option maxHeartbeats 1000000
namespace Ag
open PySem PySem.Spec PyProof.Rows L2
abbrev cuF (rl : Addr) (s : Int) : List (Str × V) := [("rows", V.ref rl), ("line", .int 0), ("at", .int s)]
theorem cw_line : (("line" : Str) == ("rows" : Str)) = false := by decide +kernel
theorem cw_at : (("at" : Str) == ("rows" : Str)) = false := by decide +kernel
theorem cl_at : (("at" : Str) == ("line" : Str)) = false := by decide +kernel
theorem cnr_line : ¬ (("rows" : Str) = "line") := by decide +kernel
theorem cnr_at : ¬ (("rows" : Str) = "at") := by decide +kernel
theorem cnl_at : ¬ (("line" : Str) = "at") := by decide +kernel
section
variable {rl : Addr} {s t : Int}
theorem cu_rows : (cuF rl s).lookup ("rows" : Str) = some (.ref rl) := rfl
theorem cu_line : (cuF rl s).lookup ("line" : Str) = some (.int 0) := by unfold cuF; rw [List.lookup_cons, cw_line]; rfl
theorem cu_at : (cuF rl s).lookup ("at" : Str) = some (.int s) := by
  unfold cuF; rw [List.lookup_cons, cw_at]
  show List.lookup _ _ = _
  rw [List.lookup_cons, cl_at]; rfl
theorem cu_put2 : putF "line" (.int 0) (putF "rows" (.ref rl) []) = ([("rows", .ref rl), ("line", V.int 0)] : List (Str × V)) := by
  show (if ("rows" : Str) = "line" then _ else (("rows" : Str), V.ref rl) :: putF "line" (V.int 0) []) = _
  rw [if_neg cnr_line]; rfl
theorem cu_put3 : putF "at" (.int s) ([("rows", .ref rl), ("line", V.int 0)] : List (Str × V)) = cuF rl s := by
  show (if ("rows" : Str) = "at" then _ else (("rows" : Str), V.ref rl) :: (if ("line" : Str) = "at" then _ else (("line" : Str), V.int 0) :: putF "at" (V.int s) [])) = _
  rw [if_neg cnr_at, if_neg cnl_at]; rfl
theorem cu_put4 : putF "at" (.int t) (cuF rl s) = cuF rl t := by
  show (if ("rows" : Str) = "at" then _ else (("rows" : Str), V.ref rl) :: (if ("line" : Str) = "at" then _ else (("line" : Str), V.int 0) :: (if ("at" : Str) = "at" then [(("at" : Str), V.int t)] else _))) = _
  rw [if_neg cnr_at, if_neg cnl_at, if_pos rfl]
end
/-- a cursor at a spot of the first of n lines -/
structure CuAt (K : PySem.W.Frag) (C c dx rl : Addr) (ws : List Str) (n : Nat) (s : Int) (H : Hp) : Prop where
  obj : H c = some (.ins C dx (cuF rl s))
  rows : ∃ us wl, SqL K H rl us ∧ us.length = n ∧ us[0]? = some (.ref wl) ∧ SqL K H wl (ws.map V.str)
  wlen : ws.length ≤ 50000
  nlen : n ≤ 50000
section
variable {K : PySem.W.Frag} {C c dx rl : Addr} {ws : List Str} {n : Nat} {s t : Int} {H H' : Hp}
theorem CuAt.same (x : CuAt K C c dx rl ws n s H) (e : Same H H') : CuAt K C c dx rl ws n s H' :=
  let ⟨us, wl, a, b, d, f⟩ := x.rows
  ⟨e _ _ x.obj, ⟨us, wl, e.slA a, b, d, e.slA f⟩, x.wlen, x.nlen⟩
theorem sl_but {fs : List (Str × V)} {a : Addr} {xs : List V} (hc : H c = some (.ins C dx fs)) (kp : ∀ b o, b ≠ c → H b = some o → H' b = some o) (h : SqL K H a xs) : SqL K H' a xs := by
  rcases h with (h | ⟨o, h⟩) | h
  · exact .inl (.inl (kp _ _ (fun q => by rw [q, hc] at h; cases h) h))
  · exact .inl (.inr ⟨o, kp _ _ (fun q => by rw [q, hc] at h; cases h) h⟩)
  · exact .inr h
theorem CuAt.move (x : CuAt K C c dx rl ws n s H) (kp : ∀ b o, b ≠ c → H b = some o → H' b = some o) (e : H' c = some (.ins C dx (cuF rl t))) : CuAt K C c dx rl ws n t H' :=
  let ⟨us, wl, a, b, d, f⟩ := x.rows
  ⟨e, ⟨us, wl, sl_but x.obj kp a, b, d, sl_but x.obj kp f⟩, x.wlen, x.nlen⟩
end
section
variable {P : Program} {w : World} {K : PySem.W.Frag} {mg : Str → Option Value} {base : Heap} (T : Txt w K mg)
/-- Cursor(rows) -/
def spCuInit (K : PySem.W.Frag) (C : Addr) : Sp := fun vs H Q _ => ∃ c dx rl, vs = [.ref c, .ref rl] ∧ H c = some (.ins C dx []) ∧ ∀ H', (∀ b o, b ≠ c → H b = some o → H' b = some o) → H' c = some (.ins C dx (cuF rl 0)) → Q .non H'
theorem ok_cu_init : FnOk P w K mg base CX0 1 T.a_Cursor___init__ T.d_Cursor___init__ ["self", "rows"] (spCuInit K T.C_Cursor) := by
  refine T.D_Cursor___init__.fn.ok sc_Cursor___init__ (fun vs H Q E h => ?_) (fun cdv A outer s H vs Q E hr h => ?_)
  · obtain ⟨c, dx, rl, rfl, _⟩ := h; rfl
  · obtain ⟨c, dx, rl, rfl, hC, k⟩ := h
    refine ⟨_, (pss_cons (ps_fld (pv 0) (pv 1) rfl)
      (pss_cons (ps_fld (pv 0) pe_int rfl)
      (pss_one (ps_fld (pv 0) pe_int rfl)))), ?_⟩
    refine ⟨_, rfl, _, rfl, c, T.C_Cursor, dx, _, rfl, hC, T.cl_Cursor, T.na_Cursor_rows, (by decide : 0 < 1000), ?_⟩
    refine ⟨_, rfl, c, T.C_Cursor, dx, _, rfl, upd_same, T.cl_Cursor, T.na_Cursor_line, (by show 1 < 1000; decide), ?_⟩
    refine ⟨_, rfl, c, T.C_Cursor, dx, _, rfl, upd_same, T.cl_Cursor, T.na_Cursor_at, ?_, ?_⟩
    · rw [cu_put2]; exact (by show 2 < 1000; decide)
    · refine k _ (fun b o nb e => ?_) ?_
      · rw [upd_ne nb, upd_ne nb, upd_ne nb]; exact e
      · rw [cu_put2, cu_put3]; exact upd_same
/-- the word at the spot, or None behind the last -/
def spSeen (K : PySem.W.Frag) (C : Addr) : Sp := fun vs H Q _ => ∃ c dx rl ws n, ∃ s : Nat, vs = [.ref c] ∧ CuAt K C c dx rl ws n s H ∧ (∀ x, ws[s]? = some x → Q (.str x) H) ∧ (ws[s]? = none → Q .non H)
theorem ok_seen : FnOk P w K mg base CX0 1 T.a_Cursor_seen T.d_Cursor_seen ["self"] (spSeen K T.C_Cursor) := by
  refine T.D_Cursor_seen.fn.ok sc_Cursor_seen (fun vs H Q E h => ?_) (fun cdv A outer s H vs Q E hr h => ?_)
  · obtain ⟨c, dx, rl, ws, n, s, rfl, _⟩ := h; rfl
  · obtain ⟨c, dx, rl, ws, n, s', rfl, hC, k1, k2⟩ := h
    obtain ⟨us, wl, ha, hn, h0, hw⟩ := hC.rows
    have wlen := hC.wlen
    refine ⟨_, (pss_cons (ps_set (i := 1) sc_Cursor_seen.nd rfl (by first | exact Or.inl rfl | exact Or.inr rfl) (pe_ix ix_seq (pe_fld (pv 0) rfl) (pe_fld (pv 0) rfl) (fun _ _ => rfl)))
      (pss_one (ps_ret (pe_ifExp (pt_cmpR op_lt (pe_fld (pv 0) rfl) (pe_callB call_len (by rfl) T.b_len bt_len (pa_cons (pv 1) pa_nil)) (nomark _)) (pe_ix ix_seq (pv 1) (pe_fld (pv 0) rfl) (fun _ _ => rfl)) pe_non)))), ?_⟩
    refine ⟨_, rfl, c, T.C_Cursor, dx, _, _, rfl, hC.obj, T.cl_Cursor, T.na_Cursor_rows, cu_rows, _, rfl, c, T.C_Cursor, dx, _, _, rfl, hC.obj, T.cl_Cursor, T.na_Cursor_line, cu_line, .inl ⟨_, _, _, _, rfl, rfl, ha, (atI_nat h0 : atI us ((0 : Nat) : Int) = some (V.ref wl)), ?_⟩⟩
    refine ⟨_, rfl, c, T.C_Cursor, dx, _, _, rfl, hC.obj, T.cl_Cursor, T.na_Cursor_at, cu_at, _, rfl, _, _, rfl, .inl ⟨_, hw, rfl⟩, _, _, rfl, rfl, _, rfl, ?_⟩
    refine ite2 (fun h => ?_) (fun h => ?_)
    · have h := of_decide_eq_true h
      rw [List.length_map] at h
      have hx : ws[s']? = some (ws[s']'(by omega)) := List.getElem?_eq_getElem _
      exact ⟨_, rfl, _, rfl, c, T.C_Cursor, dx, _, _, rfl, hC.obj, T.cl_Cursor, T.na_Cursor_at, cu_at, .inl ⟨_, _, _, _, rfl, rfl, hw, atI_nat (by rw [List.getElem?_map, hx]; rfl), k1 _ hx⟩⟩
    · refine k2 (List.getElem?_eq_none ?_)
      by_cases z : ws.length ≤ s'
      · exact z
      · exact absurd (decide_eq_true (by rw [List.length_map]; omega)) h
def spRefuse (C B : Addr) : Sp := fun vs H Q E => ∃ c dx rl s, vs = [.ref c] ∧ H c = some (.ins C dx (cuF rl s)) ∧ BadAt B 1 (s + 1) H E
theorem ok_refuse : FnOk P w K mg base (L2.CX P w) 3 T.a_Cursor_refuse T.d_Cursor_refuse ["self"] (spRefuse T.C_Cursor T.C_BadText) := by
  have G_BadText___init__ := ok_BadText_init (P := P) (base := base) T
  refine T.D_Cursor_refuse.fn.okX sc_Cursor_refuse (fun vs H Q E h => ?_) (fun cdv A outer s H vs Q E hr h => ?_)
  · obtain ⟨c, dx, rl, s, rfl, _⟩ := h; rfl
  · obtain ⟨c, dx, rl, s', rfl, hR, kE⟩ := h
    refine ⟨_, (pss_one (ps_raise rfl (takes_of rfl rfl rfl rfl) (pmk_oex T.ox_BadText T.ic_BadText T.ti_BadText (G_BadText___init__) (hr.mono (by omega)) T.D_BadText___init__.bd .nil pass0 (by rfl) T.g_BadText (pa_cons (pe_op op_add (pe_fld (pv 0) rfl) pe_int) (pa_cons (pe_op op_add (pe_fld (pv 0) rfl) pe_int) pa_nil))))), ?_⟩
    refine ⟨_, rfl, c, T.C_Cursor, dx, _, _, rfl, hR, T.cl_Cursor, T.na_Cursor_line, cu_line, _, _, rfl, rfl, _, rfl, c, T.C_Cursor, dx, _, _, rfl, hR, T.cl_Cursor, T.na_Cursor_at, cu_at, _, _, rfl, rfl, (by decide : 2 ≤ 1000), fun a ha => ?_⟩
    refine ⟨a, .int 1, .int (s' + 1), rfl, upd_same, fun d H' hd nda keep ea ed => ⟨rfl, d, _, ea, ed, ?_, kE d _ (fun b o e => ?_) ?_ upd_same⟩⟩
    · rw [upd_ne nda] at hd; exact hd
    · have nba : b ≠ a := ne_of_none e ha
      rw [upd_ne nda] at hd
      rw [upd_ne (ne_of_none e hd), del_ne nba]
      exact keep b o nba (by rw [upd_ne nba]; exact e)
    · rw [upd_ne nda] at hd; exact hd
end
end Ag

set_option Elab.async false
set_option linter.all false
set_option maxRecDepth 100000
set_option maxHeartbeats 1000000
namespace Ag
open PySem PySem.Spec PyProof.Rows L2
section
variable {P : Program} {w : World} {K : PySem.W.Frag} {mg : Str → Option Value} {base : Heap} (T : Txt w K mg)
/-- a name at the spot is taken, all else refused -/
def spTake (K : PySem.W.Frag) (C B nm : Addr) : Sp := fun vs H Q E => ∃ c dx rl ws n, ∃ s : Nat, vs = [.ref c, .ref nm] ∧ CuAt K C c dx rl ws n s H ∧ (∀ x ∈ ws, gd (.str x) = true) ∧
  (∀ x, ws[s]? = some x → nameB x = true → ∀ H', (∀ b o, b ≠ c → H b = some o → H' b = some o) → CuAt K C c dx rl ws n ((s : Int) + 1) H' → Q (.str x) H') ∧
  ((∀ x, ws[s]? = some x → nameB x = false) → BadAt B 1 ((s : Int) + 1) H E)
theorem ok_take : FnOk P w K mg base (L2.CX P w) 4 T.a_Cursor_take T.d_Cursor_take ["self", "is_right"] (spTake K T.C_Cursor T.C_BadText T.a_is_name) := by
  have G_Cursor_refuse := ok_refuse (P := P) (base := base) T
  have G_Cursor_seen := ok_seen (P := P) (base := base) T
  have G_is_name := ok_is_name (P := P) (base := base) T
  refine T.D_Cursor_take.fn.okX sc_Cursor_take (fun vs H Q E h => ?_) (fun cdv A outer s H vs Q E hr h => ?_)
  · obtain ⟨c, dx, rl, ws, n, s, rfl, _⟩ := h; rfl
  · obtain ⟨c, dx, rl, ws, n, s', rfl, hC, hg, k1, k2⟩ := h
    refine ⟨_, (pss_cons (ps_set (i := 2) sc_Cursor_take.nd rfl (by first | exact Or.inl rfl | exact Or.inr rfl) (pe_meth0 (pv 0) T.cl_Cursor T.mt_Cursor_seen (G_Cursor_seen) (hr.mono (by omega)) T.D_Cursor_seen.bd .nil pass0))
      (C8.pss_cut (ps_if (PW.pt (pw_or (pt_cmpR op_isN (pv 2) pe_non (nomark _)) (pw_or1 (pt_not (pt_val (pe_callL (i := 1) (G_is_name) (hr.mono (by omega)) rfl (.inl rfl) T.D_is_name.fn.kp T.D_is_name.bd .nil pass0 (pa_cons (pv 2) pa_nil))))))) (pss_one (ps_expr (pe_meth0 (pv 0) T.cl_Cursor T.mt_Cursor_refuse (G_Cursor_refuse) (hr.mono (by omega)) T.D_Cursor_refuse.bd .nil (passes_call (takes_of rfl rfl rfl rfl) fun _ _ _ _ z => z)))) pss_nil)
      (pss_cons (ps_fldaug (pv 0) pe_int iop_add)
      (pss_one (ps_ret (pv 2)))))), ?_⟩
    refine ⟨_, rfl, c, dx, _, rfl, hC.obj, rfl, c, dx, rl, ws, n, s', rfl, hC, fun x hx => ?_, fun hn => ?_⟩
    · refine ⟨fun σ' H' => σ' = [some (.ref c), some (.ref T.a_is_name), some (.str x)] ∧ Same H H' ∧ nameB x = true, ?_, ?_⟩
      · refine ⟨_, rfl, rfl, _, rfl, ite2 (fun h => nomatch (of_decide_eq_true h)) (fun _ => ?_)⟩
        refine ⟨rfl, _, rfl, _, .str x, rfl, .str x, hg x (List.mem_of_getElem? hx), fun H1 s1 => ⟨_, rfl, ?_⟩⟩
        cases hb : nameB x with
        | true =>
          have e : isName (.str x) = true := hb
          rw [e]
          exact ⟨rfl, s1, rfl⟩
        | false =>
          have e : isName (.str x) = false := hb
          rw [e]
          exact ⟨_, rfl, c, dx, _, rfl, (hC.same s1).obj, rfl, c, dx, rl, s', rfl, (hC.same s1).obj, fun d H2 s2 hd e2 => k2 (fun y hy => by rw [hx] at hy; cases hy; exact hb) d H2 (s1.trans s2) (s1.freshA hd) e2⟩
      · rintro σ' H1 ⟨rfl, s1, hb⟩
        have hC1 := hC.same s1
        refine ⟨_, rfl, c, T.C_Cursor, dx, _, _, rfl, hC1.obj, T.cl_Cursor, T.na_Cursor_at, cu_at, _, _, rfl, rfl, dx, _, hC1.obj, (by show 3 < 1000; decide), ?_⟩
        rw [cu_put4]
        have kp : ∀ b o, b ≠ c → H1 b = some o → upd H1 c (.ins T.C_Cursor dx (cuF rl ((s' : Int) + 1))) b = some o := fun b o nb e => by rw [upd_ne nb]; exact e
        exact ⟨_, rfl, k1 x hx hb _ (fun b o nb e => kp b o nb (s1 _ _ e)) (hC1.move kp upd_same)⟩
    · refine ⟨fun _ _ => False, ?_, fun _ _ h => h.elim⟩
      refine ⟨_, rfl, rfl, _, rfl, ite2 (fun _ => ?_) (fun h => absurd (decide_eq_true rfl) h)⟩
      exact ⟨_, rfl, c, dx, _, rfl, hC.obj, rfl, c, dx, rl, s', rfl, hC.obj, k2 fun x hx => by rw [hn] at hx; cases hx⟩
/-- the end of the line, or a refusal -/
def spNeedEnd (K : PySem.W.Frag) (C B : Addr) : Sp := fun vs H Q E => ∃ c dx rl ws n, ∃ s : Nat, vs = [.ref c] ∧ CuAt K C c dx rl ws n s H ∧ (s < ws.length → BadAt B 1 ((s : Int) + 1) H E) ∧ (¬ s < ws.length → Q .non H)
theorem ok_need_end : FnOk P w K mg base (L2.CX P w) 4 T.a_Cursor_need_end T.d_Cursor_need_end ["self"] (spNeedEnd K T.C_Cursor T.C_BadText) := by
  have G_Cursor_refuse := ok_refuse (P := P) (base := base) T
  have G_Cursor_seen := ok_seen (P := P) (base := base) T
  refine T.D_Cursor_need_end.fn.okX sc_Cursor_need_end (fun vs H Q E h => ?_) (fun cdv A outer s H vs Q E hr h => ?_)
  · obtain ⟨c, dx, rl, ws, n, s, rfl, _⟩ := h; rfl
  · obtain ⟨c, dx, rl, ws, n, s', rfl, hC, k1, k2⟩ := h
    refine ⟨_, (pss_one (ps_if (pt_cmpR op_notN (pe_meth0 (pv 0) T.cl_Cursor T.mt_Cursor_seen (G_Cursor_seen) (hr.mono (by omega)) T.D_Cursor_seen.bd .nil pass0) pe_non (nomark _)) (pss_one (ps_expr (pe_meth0 (pv 0) T.cl_Cursor T.mt_Cursor_refuse (G_Cursor_refuse) (hr.mono (by omega)) T.D_Cursor_refuse.bd .nil (passes_call (takes_of rfl rfl rfl rfl) fun _ _ _ _ z => z)))) pss_nil)), ?_⟩
    refine ⟨_, rfl, c, dx, _, rfl, hC.obj, rfl, c, dx, rl, ws, n, s', rfl, hC, fun x hx => ?_, fun hn => ?_⟩
    · refine ⟨rfl, _, rfl, ite2 (fun _ => ?_) (fun h => absurd rfl h)⟩
      exact ⟨_, rfl, c, dx, _, rfl, hC.obj, rfl, c, dx, rl, s', rfl, hC.obj, k1 (List.getElem?_eq_some_iff.mp hx).1⟩
    · refine ⟨rfl, _, rfl, ite2 (fun h => nomatch h) (fun _ => ?_)⟩
      exact k2 fun z => by rw [List.getElem?_eq_getElem z] at hn; cases hn
def spIsLast (K : PySem.W.Frag) (C : Addr) : Sp := fun vs H Q _ => ∃ c dx rl ws n, ∃ s : Int, vs = [.ref c] ∧ CuAt K C c dx rl ws n s H ∧ Q (.bl (decide (n = 1))) H
theorem ok_is_last : FnOk P w K mg base CX0 1 T.a_Cursor_is_last T.d_Cursor_is_last ["self"] (spIsLast K T.C_Cursor) := by
  refine T.D_Cursor_is_last.fn.ok sc_Cursor_is_last (fun vs H Q E h => ?_) (fun cdv A outer s H vs Q E hr h => ?_)
  · obtain ⟨c, dx, rl, ws, n, s, rfl, _⟩ := h; rfl
  · obtain ⟨c, dx, rl, ws, n, s', rfl, hC, k⟩ := h
    obtain ⟨us, wl, ha, hn, h0, hw⟩ := hC.rows
    refine ⟨_, (pss_one (ps_ret (pe_cmpR op_eq (pe_op op_add (pe_fld (pv 0) rfl) pe_int) (pe_callB call_len (by rfl) T.b_len bt_len (pa_cons (pe_fld (pv 0) rfl) pa_nil)) (nomark _)))), ?_⟩
    refine ⟨_, rfl, c, T.C_Cursor, dx, _, _, rfl, hC.obj, T.cl_Cursor, T.na_Cursor_line, cu_line, _, _, rfl, rfl, _, rfl, c, T.C_Cursor, dx, _, _, rfl, hC.obj, T.cl_Cursor, T.na_Cursor_rows, cu_rows, _, _, rfl, .inl ⟨_, ha, rfl⟩, rfl, ?_⟩
    have e : decide (V.int (0 + 1) = V.int (us.length : Int)) = decide (n = 1) := by
      rw [hn]
      by_cases z : n = 1
      · subst z; rfl
      · rw [decide_eq_false z, decide_eq_false (fun q => z (by have := V.int.inj q; omega))]
    rw [e]; exact k
/-- behind the one line that may be there -/
def spGoesOn (K : PySem.W.Frag) (C B : Addr) : Sp := fun vs H Q E => ∃ c dx rl ws n, ∃ s : Nat, vs = [.ref c, .bl true, .bl false] ∧ CuAt K C c dx rl ws n s H ∧ (s < ws.length ∨ n ≠ 1 → BadAt B 1 ((s : Int) + 1) H E) ∧ (¬ s < ws.length → n = 1 → ∀ H', Same H H' → Q (.bl false) H')
theorem ok_goes_on : FnOk P w K mg base (L2.CX P w) 5 T.a_Cursor_goes_on T.d_Cursor_goes_on ["self", "may_end", "may_follow"] (spGoesOn K T.C_Cursor T.C_BadText) := by
  have G_Cursor_refuse := ok_refuse (P := P) (base := base) T
  have G_Cursor_need_end := ok_need_end (P := P) (base := base) T
  have G_Cursor_is_last := ok_is_last (P := P) (base := base) T
  refine T.D_Cursor_goes_on.fn.okX sc_Cursor_goes_on (fun vs H Q E h => ?_) (fun cdv A outer s H vs Q E hr h => ?_)
  · obtain ⟨c, dx, rl, ws, n, s, rfl, _⟩ := h; rfl
  · obtain ⟨c, dx, rl, ws, n, s', rfl, hC, k1, k2⟩ := h
    refine ⟨_, (pss_cons (ps_expr (pe_meth0 (pv 0) T.cl_Cursor T.mt_Cursor_need_end (G_Cursor_need_end) (hr.mono (by omega)) T.D_Cursor_need_end.bd .nil (passes_call (takes_of rfl rfl rfl rfl) fun _ _ _ _ z => z)))
      (C8.pss_cut (ps_if (PW.pt (pw_or (PW.pt (pw_and (pt_val (pe_meth0 (pv 0) T.cl_Cursor T.mt_Cursor_is_last (G_Cursor_is_last) (hr.mono (by omega)) T.D_Cursor_is_last.bd .nil pass0)) (pw_and1 (pt_not (pt_val (pv 1)))))) (pw_or1 (PW.pt (pw_and (pt_not (pt_val (pe_meth0 (pv 0) T.cl_Cursor T.mt_Cursor_is_last (G_Cursor_is_last) (hr.mono (by omega)) T.D_Cursor_is_last.bd .nil pass0))) (pw_and1 (pt_not (pt_val (pv 2))))))))) (pss_one (ps_expr (pe_meth0 (pv 0) T.cl_Cursor T.mt_Cursor_refuse (G_Cursor_refuse) (hr.mono (by omega)) T.D_Cursor_refuse.bd .nil (passes_call (takes_of rfl rfl rfl rfl) fun _ _ _ _ z => z)))) pss_nil)
      (pss_cons (ps_if (pt_val (pe_meth0 (pv 0) T.cl_Cursor T.mt_Cursor_is_last (G_Cursor_is_last) (hr.mono (by omega)) T.D_Cursor_is_last.bd .nil pass0)) (pss_one (ps_ret pe_bl)) pss_nil)
      (pss_cons (ps_fldaug (pv 0) pe_int iop_add)
      (pss_cons (ps_fld (pv 0) pe_int rfl)
      (pss_one (ps_ret pe_bl))))))), ?_⟩
    refine ⟨_, rfl, c, dx, _, rfl, hC.obj, rfl, c, dx, rl, ws, n, s', rfl, hC, fun hs => k1 (.inl hs), fun hs => ?_⟩
    have hl : ∀ H1, Same H H1 → ET (tB (tMeth T.C_Cursor "is_last" (spIsLast K T.C_Cursor) [] E0 (tVar 0) tNil)) (start ["self", "may_end", "may_follow"] [.ref c, .bl true, .bl false]) H1 (decide (n = 1)) := fun H1 s1 H2 s2 Q q =>
      ⟨_, rfl, c, dx, _, rfl, ((hC.same s1).same s2).obj, rfl, c, dx, rl, ws, n, s', rfl, (hC.same s1).same s2, _, rfl, q H2 (Same.refl _)⟩
    have m1 : ∀ H1, ET (tB (tVar 1)) (start ["self", "may_end", "may_follow"] [.ref c, .bl true, .bl false]) H1 true := fun H1 => et_B (K := K) (F := nn H1) (ed_var rfl (.bl true))
    have m2 : ∀ H1, ET (tB (tVar 2)) (start ["self", "may_end", "may_follow"] [.ref c, .bl true, .bl false]) H1 false := fun H1 => et_B (K := K) (F := nn H1) (ed_var rfl (.bl false))
    have tst : ∀ H1, Same H H1 → ET _ (start ["self", "may_end", "may_follow"] [.ref c, .bl true, .bl false]) H1 (!decide (n = 1)) := fun H1 s1 => et_is (et_or (et_and (hl H1 s1) fun _ => et_not (m1 H1)) fun _ => et_and (et_not (hl H1 s1)) fun _ => et_not (m2 H1)) (by cases decide (n = 1) <;> rfl)
    refine ⟨fun σ' H' => σ' = start ["self", "may_end", "may_follow"] [.ref c, .bl true, .bl false] ∧ Same H H' ∧ n = 1, ?_, ?_⟩
    · refine s_if (tst H (Same.refl _)) (fun hb H1 s1 => ?_) (fun hb H1 s1 => ⟨rfl, s1, ?_⟩)
      · have hn : n ≠ 1 := fun z => by rw [decide_eq_true z] at hb; cases hb
        exact ⟨_, rfl, c, dx, _, rfl, (hC.same s1).obj, rfl, c, dx, rl, s', rfl, (hC.same s1).obj, fun d H2 s2 hd e2 => k1 (.inr hn) d H2 (s1.trans s2) (s1.freshA hd) e2⟩
      · by_cases z : n = 1
        · exact z
        · rw [decide_eq_false z] at hb; cases hb
    · rintro σ' H1 ⟨rfl, s1, hn⟩
      refine s_if (hl H1 s1) (fun _ H2 s2 => ?_) (fun hb => by rw [decide_eq_true hn] at hb; cases hb)
      exact k2 hs hn H2 (s1.trans s2)
end
end Ag

set_option Elab.async false
set_option linter.all false
set_option maxRecDepth 100000
set_option maxHeartbeats 1000000
namespace Ag
open PySem PySem.Spec PyProof.Rows L2
/-- a word's datum: a list or tuple of texts -/
def wordD (xs : List Str) : PyData → Prop := fun d => isSeq d = true ∧ seqOf d = xs.map .str
theorem wordD.t (xs : List Str) : wordD xs (.tuple (xs.map .str)) := ⟨rfl, rfl⟩
theorem wordD.l (xs : List Str) : wordD xs (.list (xs.map .str)) := ⟨rfl, rfl⟩
def ordD (xs : List Str) : PyData := .tuple [.int (xs.length : Int), .tuple (xs.map .str)]
theorem ord_alike (xs ys : List Str) : PySem.W.alike (ordD xs) (ordD ys) = true := by
  simp [ordD, PySem.W.alike, PySem.W.alikeAll, alike_strs]
theorem ord_depth (xs ys : List Str) : min (ordD xs).depth (ordD ys).depth ≤ 50 := by
  have := strs_depth xs
  simp only [ordD, PyData.depth, PyData.depthAll]
  omega
def befW (xs ys : List Str) : Bool := PySem.W.dataLt (ordD xs) (ordD ys)
section
variable {P : Program} {w : World} {K : PySem.W.Frag} {mg : Str → Option Value} {base : Heap} (T : Txt w K mg)
theorem wlen {d : PyData} {xs : List Str} (h : wordD xs d) (hl : xs.length ≤ 50000) : hasLen d = true ∧ lenP d = xs.length := by
  obtain ⟨h1, h2⟩ := h
  cases d with
  | list ds => exact ⟨rfl, by show ds.length = _; have : ds = xs.map PyData.str := h2; rw [this, List.length_map]⟩
  | tuple ds => exact ⟨rfl, by show ds.length = _; have : ds = xs.map PyData.str := h2; rw [this, List.length_map]⟩
  | _ => cases h1
def spOrd (K : PySem.W.Frag) : Sp := fun vs H Q _ => ∃ F v d xs, vs = [v] ∧ Df K F H v d ∧ wordD xs d ∧ xs.length ≤ 50000 ∧ ∀ u H', Same H H' → Df K (Fr F H) H' u (ordD xs) → Q u H'
theorem ok_order : FnOk P w K mg base CX0 1 T.a_order_of_word T.d_order_of_word ["word"] (spOrd K) := by
  refine T.D_order_of_word.fn.ok sc_order_of_word (fun vs H Q E h => ?_) (fun cdv A outer s H vs Q E hr h => ?_)
  · obtain ⟨F, v, d, xs, rfl, _⟩ := h; rfl
  · obtain ⟨F, v, d, xs, rfl, hv, hd, hl, k⟩ := h
    refine ⟨_, (pss_one (ps_ret (pe_tup (pa_cons (pe_callB call_len (by rfl) T.b_len bt_len (pa_cons (pv 0) pa_nil)) (pa_cons (pe_callTy call_tuple_of (by rfl) T.b_tuple bt_tuple (pa_cons (pv 0) pa_nil)) pa_nil))))), ?_⟩
    have hvar : ED K (tVar 0) (start ["word"] [v]) F H d := ed_var rfl hv
    obtain ⟨w1, w2⟩ := wlen hd hl
    refine s_ret (ed_tup (ea_cons (ed_len hvar w1) (ea_cons (ed_tupleOf hvar hd.1) ea_nil)) (by show 2 ≤ 100000; decide)) fun u H' s' hu => k u H' s' ?_
    rw [w2, hd.2] at hu; exact hu
def spOrdT (K : PySem.W.Frag) : Sp := fun vs H Q _ => ∃ F v xs, vs = [v] ∧ Df K F H v (.tuple (xs.map .str)) ∧ xs.length ≤ 50000 ∧ ∀ u H', Same H H' → Df K (Fr F H) H' u (ordD xs) → Q u H'
theorem ok_law_before : FnOk P w K mg base CX0 1 T.a_law_before T.d_law_before ["word"] (spOrdT K) := by
  refine T.D_law_before.fn.ok sc_law_before (fun vs H Q E h => ?_) (fun cdv A outer s H vs Q E hr h => ?_)
  · obtain ⟨F, v, xs, rfl, _⟩ := h; rfl
  · obtain ⟨F, v, xs, rfl, hv, hl, k⟩ := h
    refine ⟨_, (pss_one (ps_ret (pe_tup (pa_cons (pe_callB call_len (by rfl) T.b_len bt_len (pa_cons (pv 0) pa_nil)) (pa_cons (pv 0) pa_nil))))), ?_⟩
    have hvar : ED K (tVar 0) (start ["word"] [v]) F H (.tuple (xs.map .str)) := ed_var rfl hv
    refine s_ret (ed_tup (ea_cons (ed_len hvar rfl) (ea_cons hvar ea_nil)) (by show 2 ≤ 100000; decide)) fun u H' s' hu => k u H' s' ?_
    have e : lenP (.tuple (xs.map .str)) = xs.length := List.length_map _
    rw [e] at hu; exact hu
def spPre (K : PySem.W.Frag) : Sp := fun vs H Q _ => ∃ v u d e xs ys, vs = [v, u] ∧ Dp K H v d ∧ wordD xs d ∧ xs.length ≤ 50000 ∧ Dp K H u e ∧ wordD ys e ∧ ys.length ≤ 50000 ∧ ∀ H', Same H H' → Q (.bl (befW xs ys)) H'
theorem rdc_order {E : XK} {d : PyData} {xs : List Str} (hd : wordD xs d) (hl : xs.length ≤ 50000) : RDC K (fun vs H Q => spOrd K vs H Q E) [d] (ordD xs) := fun F vs H1 hv Q q => by
  obtain _ | ⟨hv, hn⟩ := hv
  cases hn
  exact ⟨F, _, d, xs, rfl, hv, hd, hl, q⟩
theorem rdc_before {E : XK} {xs : List Str} (hl : xs.length ≤ 50000) : RDC K (fun vs H Q => spOrdT K vs H Q E) [.tuple (xs.map .str)] (ordD xs) := fun F vs H1 hv Q q => by
  obtain _ | ⟨hv, hn⟩ := hv
  cases hn
  exact ⟨F, _, xs, rfl, hv, hl, q⟩
theorem ok_precedes : FnOk P w K mg base CX0 2 T.a_precedes T.d_precedes ["word", "other"] (spPre K) := by
  have G_order_of_word := ok_order (P := P) (w := w) (mg := mg) (base := base) T
  refine T.D_precedes.fn.ok sc_precedes (fun vs H Q E h => ?_) (fun cdv A outer s H vs Q E hr h => ?_)
  · obtain ⟨v, u, d, e, xs, ys, rfl, _⟩ := h; rfl
  · obtain ⟨v, u, d, e, xs, ys, rfl, hv, hd, hx, hu, he, hy, k⟩ := h
    refine ⟨_, (pss_one (ps_ret (pe_cmpR (op_ltD hr.units) (pe_call (G_order_of_word) (hr.mono (by omega)) (by rfl) T.D_order_of_word.mg T.D_order_of_word.fn.kp T.D_order_of_word.bd .nil pass0 (pa_cons (pv 0) pa_nil)) (pe_call (G_order_of_word) (hr.mono (by omega)) (by rfl) T.D_order_of_word.mg T.D_order_of_word.fn.kp T.D_order_of_word.bd .nil pass0 (pa_cons (pv 1) pa_nil)) (nomark _)))), ?_⟩
    have h0 : ED K (tVar 0) (start ["word", "other"] [v, u]) (nn H) H d := ed_var rfl (dp_df hv)
    have h1 : ED K (tVar 1) (start ["word", "other"] [v, u]) (nn H) H e := ed_var rfl (dp_df hu)
    refine s_ret (ed_ltD (ed_call (ea_cons h0 ea_nil) (rdc_order hd hx)) (ed_call (ea_cons h1 ea_nil) (rdc_order he hy)) (ord_alike xs ys) (by simp [ordD]) (ord_depth xs ys)) fun v H1 s1 hv => ?_
    cases hv; exact k H1 s1
/-- the line of a word -/
def lineW : List Str → Str | [] => "nil ;" | xs => Str.join " " xs
theorem sum_le100 : ∀ {xs : List Str}, (∀ x ∈ xs, x.length ≤ 100) → (xs.map (·.length)).sum ≤ 100 * xs.length
  | [], _ => by simp
  | x :: xs, h => by
    have := sum_le100 fun y hy => h y (List.mem_cons_of_mem _ hy)
    have := h x List.mem_cons_self
    simp only [List.map_cons, List.sum_cons, List.length_cons]
    omega
theorem wordT {d : PyData} {xs : List Str} (h : wordD xs d) : d = .list (xs.map .str) ∨ d = .tuple (xs.map .str) := by
  obtain ⟨h1, h2⟩ := h
  cases d with
  | list ds => exact .inl (congrArg PyData.list h2)
  | tuple ds => exact .inr (congrArg PyData.tuple h2)
  | _ => cases h1
def spText (K : PySem.W.Frag) : Sp := fun vs H Q _ => ∃ v d xs, vs = [v] ∧ Dp K H v d ∧ wordD xs d ∧ xs.length ≤ 50000 ∧ (∀ x ∈ xs, x.length ≤ 100) ∧ ∀ H', Same H H' → Q (.str (lineW xs)) H'
theorem ok_word_text : FnOk P w K mg base CX0 1 T.a_word_text T.d_word_text ["word"] (spText K) := by
  refine T.D_word_text.fn.ok sc_word_text (fun vs H Q E h => ?_) (fun cdv A outer s H vs Q E hr h => ?_)
  · obtain ⟨v, d, xs, rfl, _⟩ := h; rfl
  · obtain ⟨v, d, xs, rfl, hv, hd, hl, hx, k⟩ := h
    refine ⟨_, (pss_one (ps_ret (pe_ifExp (pt_cmpR op_eq (pe_callB call_len (by rfl) T.b_len bt_len (pa_cons (pv 0) pa_nil)) pe_int (nomark _)) (pe_op op_add_str (pe_op op_add_str (pe_glob (v := .str "nil") (by rfl) T.g_NIL ⟨_, rfl⟩) pe_str) (pe_glob (v := .str ";") (by rfl) T.g_END ⟨_, rfl⟩)) (pe_join pe_str (pv 0))))), ?_⟩
    have hvar : ED K (tVar 0) (start ["word"] [v]) (nn H) H d := ed_var rfl (dp_df hv)
    obtain ⟨w1, w2⟩ := wlen hd hl
    have tst : ET _ (start ["word"] [v]) H _ := et_test (ed_eqI (ed_len hvar w1) (ed_int (i := 0)))
    have cat : ∀ H1, ED K _ (start ["word"] [v]) (nn H) H1 _ := fun H1 => ed_catS (ed_catS (ed_str (x := "nil")) (ed_str (x := " ")) (by decide)) (ed_str (x := ";")) (by decide)
    have hs : (xs.map (·.length)).sum ≤ 100 * xs.length := sum_le100 hx
    have hj : ED K _ (start ["word"] [v]) (nn H) H _ := ed_join (a := " ") (ed_str (x := " ")) hvar (wordT hd) (by have : (" " : Str).length = 1 := rfl; rw [this]; omega)
    refine s_ret (K := K) (F := nn H) (d := .str (lineW xs)) (ed_if tst (fun h => ?_) fun h => ?_) fun u H1 s1 hu => ?_
    · rw [w2] at h
      have : xs = [] := List.eq_nil_of_length_eq_zero (by have := of_decide_eq_true h; omega)
      subst this
      exact ed_is (cat H) rfl
    · rw [w2] at h
      refine ed_is hj ?_
      cases xs with
      | nil => cases h
      | cons a t => rw [TL.join_eq]; rfl
    · cases hu; exact k H1 s1
end
end Ag

set_option Elab.async false
set_option linter.all false
set_option maxRecDepth 100000
set_option maxHeartbeats 1000000
namespace Ag
open PySem PySem.Spec PyProof.Rows L2
/-- the first of some words that is no name -/
def firstBad : List Str → Nat → Option Nat
  | [], _ => none
  | x :: xs, s => if nameB x then firstBad xs (s + 1) else some s
def isNilW (ws : List Str) : Bool := decide (ws[0]? = some ("nil" : Str)) && decide (ws[1]? = some (";" : Str))
/-- where a text of a word is wrong first: the words of its first line, how many lines -/
def rk (ws : List Str) (n : Nat) : Option Nat :=
  if isNilW ws then (if ws.length = 2 ∧ n = 1 then none else some 3)
  else match firstBad ws 0 with | some i => some (i + 1) | none => if n = 1 then none else some (ws.length + 1)
def wordOf (ws : List Str) : List Str := if isNilW ws then [] else ws
theorem firstBad_at : ∀ {ws : List Str} {s k : Nat}, (∀ (i : Nat) x, i < s → ws[i]? = some x → nameB x = true) → (∀ x, ws[s]? = some x → nameB x = false) → (h : s < ws.length) → firstBad ws k = some (k + s)
  | [], s, k, _, _, h => absurd h (Nat.not_lt_zero _)
  | x :: ws, 0, k, _, hb, _ => by unfold firstBad; rw [hb x rfl]; rfl
  | x :: ws, s + 1, k, ha, hb, h => by
    unfold firstBad
    have e := firstBad_at (ws := ws) (s := s) (k := k + 1) (fun i y hi hy => ha (i + 1) y (by omega) hy) (fun y hy => hb y hy) (Nat.lt_of_succ_lt_succ h)
    rw [ha 0 x (Nat.succ_pos _) rfl, if_pos rfl, e]
    congr 1; omega
theorem firstBad_none : ∀ {ws : List Str} {k : Nat}, (∀ (i : Nat) x, ws[i]? = some x → nameB x = true) → firstBad ws k = none
  | [], _, _ => rfl
  | x :: ws, k, h => by
    unfold firstBad
    rw [h 0 x rfl, if_pos rfl]
    exact firstBad_none fun i y hy => h (i + 1) y hy
theorem eqvS (x y : Str) : PyData.eqv (.str x) (.str y) = decide (x = y) := by
  rw [PyData.eqv]
  by_cases h : x = y
  · subst h; simp
  · rw [decide_eq_false h]; exact beq_eq_false_iff_ne.mpr h
theorem eqvL1 (x y : Str) : PyData.eqv (.list [.str x]) (.list [.str y]) = decide (x = y) := by
  rw [PyData.eqv, PyData.eqvAll, PyData.eqvAll, eqvS, Bool.and_true]
theorem eqvSeen (o : Option Str) (y : Str) : PyData.eqv (match o with | some x => .str x | none => .none) (.str y) = decide (o = some y) := by
  cases o with
  | none => show PyData.eqv .none (.str y) = _; rw [PyData.eqv]; rfl
  | some x => show PyData.eqv (.str x) (.str y) = _; rw [eqvS]; simp
section
variable {P : Program} {w : World} {K : PySem.W.Frag} {mg : Str → Option Value} {base : Heap} (T : Txt w K mg)
/-- the empty dict is no text -/
def spDictBad (B : Addr) : Sp := fun vs H _ E => ∃ a, vs = [.ref a] ∧ H a = some (.dK []) ∧ BadAt B 0 0 H E
theorem ok_rows_of_d : FnOk P w K mg base (L2.CX P w) 3 T.a_rows_of T.d_rows_of ["text"] (spDictBad T.C_BadText) := by
  have G_BadText___init__ := ok_BadText_init (P := P) (base := base) T
  refine T.D_rows_of.fn.okX sc_rows_of (fun vs H Q E h => ?_) (fun cdv A outer s H vs Q E hr h => ?_)
  · obtain ⟨a, rfl, _⟩ := h; rfl
  · obtain ⟨a0, rfl, hv, kE⟩ := h
    refine ⟨_, (pss_cons (ps_if (pt_not (pt_val (pe_callB call_isi (by rfl) T.b_isinstance bt_isinstance (pa_cons (pv 0) (pa_cons (pe_bltn (v := .ty "str") (by rfl) T.b_str bt_str rfl) pa_nil))))) (pss_one (ps_raise rfl (takes_of rfl rfl rfl rfl) (pmk_oex T.ox_BadText T.ic_BadText T.ti_BadText (G_BadText___init__) (hr.mono (by omega)) T.D_BadText___init__.bd .nil pass0 (by rfl) T.g_BadText (pa_cons pe_int (pa_cons pe_int pa_nil))))) pss_nil)
      (pss_one (ps_ret (pe_lc (own := [("line", 1)]) rfl sc_rows_of.nd (pi_list (pe_split (pv 0) pe_str)) (blkOk_by (own := [("line", 1)]) (N := ["text", "line"]) (sc := defScope s_rows_of) (by decide +kernel)) (fun _ _ _ _ _ => (pg_name (i := 1) sc_rows_of.nd rfl (by first | exact Or.inl rfl | exact Or.inr rfl))) (fun _ _ _ _ _ => pts_nil) (fun _ _ _ _ _ => (pe_split (pv 1) pe_str)))))), ?_⟩
    refine s_if (b := true) (et_not (et_B (ed_isiE (T := "str") (F := nn H) (K := K) rfl hv (.inl rfl)))) (fun _ H1 s1 => ?_) (fun h => nomatch h)
    refine ⟨(by decide : 2 ≤ 1000), fun a ha => ?_⟩
    refine ⟨a, .int 0, .int 0, rfl, upd_same, fun d H' hd nda keep ea ed => ⟨rfl, d, _, ea, ed, ?_, kE d _ (fun b o e => ?_) ?_ upd_same⟩⟩
    · rw [upd_ne nda] at hd; exact hd
    · have e1 := s1 _ _ e
      have nba : b ≠ a := ne_of_none e1 ha
      rw [upd_ne nda] at hd
      rw [upd_ne (ne_of_none e1 hd), del_ne nba]
      exact keep b o nba (by rw [upd_ne nba]; exact e1)
    · rw [upd_ne nda] at hd; exact s1.freshA hd
theorem ok_rows_of_x : FnOk P w K mg base (L2.CX P w) 3 T.a_rows_of T.d_rows_of ["text"] (spOr (spLines K T.C_BadText) (spDictBad T.C_BadText)) := fn_or (ok_rows_of T) (ok_rows_of_d T)
end
end Ag

set_option Elab.async false
set_option linter.all false
set_option maxRecDepth 100000
set_option maxHeartbeats 1000000
namespace Ag
open PySem PySem.Spec PyProof.Rows L2
theorem firstBad_le : ∀ {ws : List Str} {k i : Nat}, firstBad ws k = some i → k ≤ i ∧ i < k + ws.length
  | [], _, _, h => nomatch h
  | x :: ws, k, i, h => by
    unfold firstBad at h
    split at h
    · have := firstBad_le h; simp only [List.length_cons]; omega
    · cases h; simp only [List.length_cons]; omega
/-- where the reader stands: the cursor's object apart, the heap of the start is kept -/
structure RdAt (C c dx rl f : Addr) (ws : List Str) (s : Nat) (H0 H : Hp) : Prop where
  kb : ∀ b o, b ≠ c → H0 b = some o → H b = some o
  cu : H c = some (.ins C dx (cuF rl s))
  fo : H f = some (.lst ((ws.take s).map V.str))
theorem lines_short {x : Str} (h : x.length ≤ 50000) : ∀ l ∈ Txt.split x "\n", l.length ≤ 50000 := fun l hl => Nat.le_trans (PyProof.Rows.part_short hl) h
theorem lines_few {x : Str} (h : x.length < 50000) : (Txt.split x "\n").length ≤ 50000 := by
  have := split_weight x "\n" (by decide)
  omega
theorem shS {x : Str} (h : gd (.str x) = true) : SeqAt.shaped (.str x) = true := by
  unfold SeqAt.shaped; rw [gd_lay h]; simp [PyData.depth]
theorem shL {x : Str} (h : gd (.str x) = true) : SeqAt.shaped (.list [.str x]) = true := by
  have e : (PyData.list [.str x]).canLay0 = true := gd_lay (by show (gd (.str x) && true) && decide (1 ≤ 1000) = true; rw [h]; rfl)
  unfold SeqAt.shaped; rw [e]; simp [PyData.depth, PyData.depthAll]
/-- what stands at a place, or nothing -/
def seenD : Option Str → PyData | some x => .str x | none => .none
theorem eqvSn (o : Option Str) (y : Str) : PyData.eqv (seenD o) (.str y) = decide (o = some y) := by
  cases o with
  | none => show PyData.eqv .none (.str y) = _; rw [PyData.eqv]; rfl
  | some x => show PyData.eqv (.str x) (.str y) = _; rw [eqvS]; simp
section
variable {P : Program} {w : World} {K : PySem.W.Frag} {mg : Str → Option Value} {base : Heap} (T : Txt w K mg)
/-- the word that a text tells -/
def spRead (K : PySem.W.Frag) (B : Addr) : Sp := fun vs H Q E => ∃ v x, vs = [v] ∧ Dp K H v (.str x) ∧ x.length < 50000 ∧ (∀ y ∈ Txt.split ((Txt.split x "\n").headD "") " ", gd (.str y) = true) ∧
  (∀ k, rk (Txt.split ((Txt.split x "\n").headD "") " ") (Txt.split x "\n").length = some k → BadAt B 1 k H E) ∧
  (rk (Txt.split ((Txt.split x "\n").headD "") " ") (Txt.split x "\n").length = none → ∀ u H', Same H H' → Dp K H' u (.tuple ((wordOf (Txt.split ((Txt.split x "\n").headD "") " ")).map .str)) → Q u H')
/-- what is no text -/
def spReadOdd (K : PySem.W.Frag) (B : Addr) : Sp := fun vs H Q E => ∃ v d, vs = [v] ∧ Dx K H v d ∧ isiB "str" d = false ∧ BadAt B 0 0 H E
theorem ok_word_read_odd : FnOk P w K mg base (L2.CX P w) 6 T.a_word_read T.d_word_read ["text"] (spReadOdd K T.C_BadText) := by
  have G_rows_of := ok_rows_of_x (P := P) (base := base) T
  have G_Cursor___init__ := ok_cu_init (P := P) (base := base) T
  have G_Cursor_take := ok_take (P := P) (base := base) T
  have G_Cursor_seen := ok_seen (P := P) (base := base) T
  have G_Cursor_goes_on := ok_goes_on (P := P) (base := base) T
  refine T.D_word_read.fn.okX sc_word_read (fun vs H Q E h => ?_) (fun cdv A outer s H vs Q E hr h => ?_)
  · obtain ⟨v, d, rfl, _⟩ := h; rfl
  · obtain ⟨v, d, rfl, hv, hd, kE⟩ := h
    refine ⟨_, (pss_cons (ps_par (i := 1) (j := 2) (by rfl) sc_word_read.nd rfl rfl (by decide) rfl rfl (pa_cons (pe_make T.mk_Cursor (G_Cursor___init__) (hr.mono (by omega)) (by rfl) T.g_Cursor T.D_Cursor___init__.bd .nil pass0 (pa_cons (pe_call (G_rows_of) (hr.mono (by omega)) (by rfl) T.D_rows_of.mg T.D_rows_of.fn.kp T.D_rows_of.bd .nil (passes_call (takes_of rfl rfl rfl rfl) fun _ _ _ _ z => z) (pa_cons (pv 0) pa_nil)) pa_nil)) (pa_cons (pe_lst pa_nil) pa_nil)) (by rfl))
      (pss_cons (ps_expr (pe_bm PySem.F.plainAttrs_list PySem.F.slot_list_append PySem.F.type_list_append mt_append (pv 2) (pa_cons (pe_meth (pv 1) T.cl_Cursor T.mt_Cursor_take (G_Cursor_take) (hr.mono (by omega)) T.D_Cursor_take.bd .nil (passes_call (takes_of rfl rfl rfl rfl) fun _ _ _ _ z => z) (pa_cons (pe_glob (v := .ref T.a_is_name) (by rfl) T.D_is_name.mg rfl) pa_nil)) pa_nil)))
      (pss_cons (ps_if (PW.pt (pw_and (pt_cmpR (op_eqD hr.units) (pv 2) (pe_lst (pa_cons (pe_glob (v := .str "nil") (by rfl) T.g_NIL ⟨_, rfl⟩) pa_nil)) (nomark _)) (pw_and1 (pt_cmpR (op_eqD hr.units) (pe_meth0 (pv 1) T.cl_Cursor T.mt_Cursor_seen (G_Cursor_seen) (hr.mono (by omega)) T.D_Cursor_seen.bd .nil pass0) (pe_glob (v := .str ";") (by rfl) T.g_END ⟨_, rfl⟩) (nomark _))))) (pss_cons (ps_fldaug (pv 1) pe_int iop_add)
      (pss_cons (ps_expr (pe_meth (pv 1) T.cl_Cursor T.mt_Cursor_goes_on (G_Cursor_goes_on) (hr.mono (by omega)) T.D_Cursor_goes_on.bd .nil (passes_call (takes_of rfl rfl rfl rfl) fun _ _ _ _ z => z) (pa_cons pe_bl (pa_cons pe_bl pa_nil))))
      (pss_one (ps_ret (pe_tup pa_nil))))) pss_nil)
      (pss_cons (ps_while (passes_of rfl) (pt_cmpR op_notN (pe_meth0 (pv 1) T.cl_Cursor T.mt_Cursor_seen (G_Cursor_seen) (hr.mono (by omega)) T.D_Cursor_seen.bd .nil pass0) pe_non (nomark _)) (pss_one (ps_expr (pe_bm PySem.F.plainAttrs_list PySem.F.slot_list_append PySem.F.type_list_append mt_append (pv 2) (pa_cons (pe_meth (pv 1) T.cl_Cursor T.mt_Cursor_take (G_Cursor_take) (hr.mono (by omega)) T.D_Cursor_take.bd .nil (passes_call (takes_of rfl rfl rfl rfl) fun _ _ _ _ z => z) (pa_cons (pe_glob (v := .ref T.a_is_name) (by rfl) T.D_is_name.mg rfl) pa_nil)) pa_nil)))))
      (pss_cons (ps_expr (pe_meth (pv 1) T.cl_Cursor T.mt_Cursor_goes_on (G_Cursor_goes_on) (hr.mono (by omega)) T.D_Cursor_goes_on.bd .nil (passes_call (takes_of rfl rfl rfl rfl) fun _ _ _ _ z => z) (pa_cons pe_bl (pa_cons pe_bl pa_nil))))
      (pss_one (ps_ret (pe_callTy call_tuple_of (by rfl) T.b_tuple bt_tuple (pa_cons (pv 2) pa_nil))))))))), ?_⟩
    refine ⟨v, rfl, ?_⟩
    rcases hv with hv | ⟨rfl, a, rfl, ha⟩
    · exact .inl ⟨v, d, rfl, hv, fun _ => kE, fun x e => by subst e; cases hd⟩
    · exact .inr ⟨a, rfl, ha, kE⟩
theorem ok_word_read : FnOk P w K mg base (L2.CX P w) 6 T.a_word_read T.d_word_read ["text"] (spRead K T.C_BadText) := by
  have G_rows_of := ok_rows_of_x (P := P) (base := base) T
  have G_Cursor___init__ := ok_cu_init (P := P) (base := base) T
  have G_Cursor_take := ok_take (P := P) (base := base) T
  have G_Cursor_seen := ok_seen (P := P) (base := base) T
  have G_Cursor_goes_on := ok_goes_on (P := P) (base := base) T
  refine T.D_word_read.fn.okX sc_word_read (fun vs H Q E h => ?_) (fun cdv A outer s H vs Q E hr h => ?_)
  · obtain ⟨v, d, rfl, _⟩ := h; rfl
  · obtain ⟨v, x, rfl, hv, hx, hg, kE, kQ⟩ := h
    refine ⟨_, (pss_cons (ps_par (i := 1) (j := 2) (by rfl) sc_word_read.nd rfl rfl (by decide) rfl rfl (pa_cons (pe_make T.mk_Cursor (G_Cursor___init__) (hr.mono (by omega)) (by rfl) T.g_Cursor T.D_Cursor___init__.bd .nil pass0 (pa_cons (pe_call (G_rows_of) (hr.mono (by omega)) (by rfl) T.D_rows_of.mg T.D_rows_of.fn.kp T.D_rows_of.bd .nil (passes_call (takes_of rfl rfl rfl rfl) fun _ _ _ _ z => z) (pa_cons (pv 0) pa_nil)) pa_nil)) (pa_cons (pe_lst pa_nil) pa_nil)) (by rfl))
      (pss_cons (ps_expr (pe_bm PySem.F.plainAttrs_list PySem.F.slot_list_append PySem.F.type_list_append mt_append (pv 2) (pa_cons (pe_meth (pv 1) T.cl_Cursor T.mt_Cursor_take (G_Cursor_take) (hr.mono (by omega)) T.D_Cursor_take.bd .nil (passes_call (takes_of rfl rfl rfl rfl) fun _ _ _ _ z => z) (pa_cons (pe_glob (v := .ref T.a_is_name) (by rfl) T.D_is_name.mg rfl) pa_nil)) pa_nil)))
      (pss_cons (ps_if (PW.pt (pw_and (pt_cmpR (op_eqD hr.units) (pv 2) (pe_lst (pa_cons (pe_glob (v := .str "nil") (by rfl) T.g_NIL ⟨_, rfl⟩) pa_nil)) (nomark _)) (pw_and1 (pt_cmpR (op_eqD hr.units) (pe_meth0 (pv 1) T.cl_Cursor T.mt_Cursor_seen (G_Cursor_seen) (hr.mono (by omega)) T.D_Cursor_seen.bd .nil pass0) (pe_glob (v := .str ";") (by rfl) T.g_END ⟨_, rfl⟩) (nomark _))))) (pss_cons (ps_fldaug (pv 1) pe_int iop_add)
      (pss_cons (ps_expr (pe_meth (pv 1) T.cl_Cursor T.mt_Cursor_goes_on (G_Cursor_goes_on) (hr.mono (by omega)) T.D_Cursor_goes_on.bd .nil (passes_call (takes_of rfl rfl rfl rfl) fun _ _ _ _ z => z) (pa_cons pe_bl (pa_cons pe_bl pa_nil))))
      (pss_one (ps_ret (pe_tup pa_nil))))) pss_nil)
      (pss_cons (ps_while (passes_of rfl) (pt_cmpR op_notN (pe_meth0 (pv 1) T.cl_Cursor T.mt_Cursor_seen (G_Cursor_seen) (hr.mono (by omega)) T.D_Cursor_seen.bd .nil pass0) pe_non (nomark _)) (pss_one (ps_expr (pe_bm PySem.F.plainAttrs_list PySem.F.slot_list_append PySem.F.type_list_append mt_append (pv 2) (pa_cons (pe_meth (pv 1) T.cl_Cursor T.mt_Cursor_take (G_Cursor_take) (hr.mono (by omega)) T.D_Cursor_take.bd .nil (passes_call (takes_of rfl rfl rfl rfl) fun _ _ _ _ z => z) (pa_cons (pe_glob (v := .ref T.a_is_name) (by rfl) T.D_is_name.mg rfl) pa_nil)) pa_nil)))))
      (pss_cons (ps_expr (pe_meth (pv 1) T.cl_Cursor T.mt_Cursor_goes_on (G_Cursor_goes_on) (hr.mono (by omega)) T.D_Cursor_goes_on.bd .nil (passes_call (takes_of rfl rfl rfl rfl) fun _ _ _ _ z => z) (pa_cons pe_bl (pa_cons pe_bl pa_nil))))
      (pss_one (ps_ret (pe_callTy call_tuple_of (by rfl) T.b_tuple bt_tuple (pa_cons (pv 2) pa_nil))))))))), ?_⟩
    have hd : ∀ H1, Same H H1 → Dp K H1 v (.str x) := fun H1 s1 => dp_mono s1 hv
    refine ⟨v, rfl, .inl ⟨v, .str x, rfl, hv, fun h => (nomatch h), fun y e => ?_⟩⟩
    cases e
    refine ⟨Nat.le_of_lt hx, lines_short (Nat.le_of_lt hx), lines_few hx, fun l us H1 s1 nl el hus => ?_⟩
    generalize hL : Txt.split x "\n" = L at hg kE kQ
    have hLd : linesD x = L.map fun l => .list ((Txt.split l " ").map .str) := by unfold linesD; rw [hL]
    have hn : L.length ≤ 50000 := by rw [← hL]; exact lines_few hx
    obtain ⟨l0, Lr, rfl⟩ : ∃ l0 Lr, L = l0 :: Lr := by
      cases L with
      | nil => have := split_pos x "\n"; rw [hL] at this; exact absurd this (by decide)
      | cons a b => exact ⟨a, b, rfl⟩
    have hl0 : l0.length < 50000 := Nat.lt_of_le_of_lt (PyProof.Rows.part_short (show l0 ∈ Txt.split x "\n" by rw [hL]; exact List.mem_cons_self)) hx
    rw [show (l0 :: Lr).headD ("" : Str) = l0 from rfl] at hg kE kQ
    rw [hLd] at hus
    have hwn : (Txt.split l0 " ").length ≤ 50000 := by have := split_weight l0 " " (by decide); omega
    have hwp : 1 ≤ (Txt.split l0 " ").length := split_pos l0 " "
    obtain ⟨v0, hv0, dv0⟩ := dps_get (i := 0) (dfs_dps hus) rfl
    obtain ⟨wl, rfl, hwl⟩ : ∃ wl, v0 = .ref wl ∧ SqL K H1 wl ((Txt.split l0 " ").map V.str) := by
      cases dv0 with
      | lst hs r => exact ⟨_, rfl, by have e := strs_dps r; rw [← e]; exact hs⟩
    generalize Txt.split l0 " " = ws at hg kE kQ hwl hwn hwp
    generalize hnL : (l0 :: Lr).length = n at kE kQ hn
    have hul : us.length = n := by rw [← hnL, dfs_len hus, List.length_map]
    intro c dx hc hdx ndc
    refine ⟨c, dx, l, rfl, upd_same, fun H3 kp e3 => ⟨rfl, ?_⟩⟩
    have s3 : Same H1 H3 := fun b o e => kp b o (ne_of_none e hc) (by rw [upd_ne (ne_of_none e hc), upd_ne (ne_of_none e hdx)]; exact e)
    have X3 : CuAt K T.C_Cursor c dx l ws n 0 H3 := ⟨e3, ⟨us, wl, .inl (.inl (s3 _ _ el)), hul, hv0, s3.slA hwl⟩, hwn, hn⟩
    refine ⟨by decide, fun f hf => ⟨_, _, rfl, ?_⟩⟩
    have nfc : f ≠ c := fun q => by rw [q, e3] at hf; cases hf
    have hcH : H c = none := s1.freshA hc
    have hfH : H f = none := s1.freshA (s3.freshA hf)
    -- the reader's place
    have out : ∀ {s : Nat} {H' : Hp}, RdAt T.C_Cursor c dx l f ws s H3 H' → Same H H' := fun r b o e => r.kb b o (ne_of_none e hcH) (s3 _ _ (s1 _ _ e))
    have cuA : ∀ {s : Nat} {H' : Hp}, RdAt T.C_Cursor c dx l f ws s H3 H' → CuAt K T.C_Cursor c dx l ws n s H' := fun r => X3.move r.kb r.cu
    have bad : ∀ {s k : Nat} {H' : Hp}, RdAt T.C_Cursor c dx l f ws s H3 H' → rk ws n = some k → BadAt T.C_BadText 1 k H' E := fun r e d H2 s2 hd e2 => kE _ e d H2 ((out r).trans s2) ((out r).freshA hd) e2
    -- one more word, read and kept
    have step : ∀ {s : Nat} {H' : Hp} (N : Hp → Prop), RdAt T.C_Cursor c dx l f ws s H3 H' → s < ws.length → (∀ i y, i < s → ws[i]? = some y → nameB y = true) → isNilW ws = false ∨ s = 0 →
        (∀ H2, RdAt T.C_Cursor c dx l f ws (s + 1) H3 H2 → (∀ i y, i < s + 1 → ws[i]? = some y → nameB y = true) → N H2) →
        spTake K T.C_Cursor T.C_BadText T.a_is_name [.ref c, .ref T.a_is_name] H' (fun y H2 => rAppend (.ref f) [y] H2 fun _ H4 => N H4) E := fun {s H'} N r hs ha hz k => by
      refine ⟨c, dx, l, ws, n, s, rfl, cuA r, hg, fun y hy hb H2 kp2 cu2 => ?_, fun hb => ?_⟩
      · have e2 : H2 f = some (.lst ((ws.take s).map V.str)) := kp2 _ _ nfc r.fo
        refine ⟨f, _, .str y, rfl, rfl, e2, ?_, ?_⟩
        · rw [List.length_map, List.length_take]; exact lt5 (by omega)
        · refine k _ ⟨fun b o nb e => ?_, ?_, ?_⟩ fun i z hi zz => ?_
          · rw [upd_ne (ne_of_none e hf)]; exact kp2 b o nb (r.kb b o nb e)
          · rw [upd_ne (Ne.symm nfc)]; exact cu2.obj
          · rw [upd_same, List.take_add_one, hy, List.map_append]; rfl
          · by_cases q : i = s
            · rw [q, hy] at zz; cases zz; exact hb
            · exact ha i z (by omega) zz
      · refine bad r ?_
        have nil : isNilW ws = false := by
          rcases hz with hz | rfl
          · exact hz
          · unfold isNilW
            cases ws with
            | nil => rfl
            | cons a t =>
              have q := hb a rfl
              have : a ≠ "nil" := fun z => by rw [z] at q; exact absurd q (by decide +kernel)
              have : decide ((a :: t)[0]? = some ("nil" : Str)) = false := decide_eq_false fun z => this (Option.some.inj z)
              rw [this]; rfl
        unfold rk
        rw [nil, firstBad_at ha hb hs]
        show some (0 + s + 1) = some (s + 1)
        congr 1; omega
    have R0 : RdAt T.C_Cursor c dx l f ws 0 H3 (upd H3 f (.lst [])) := ⟨fun b o nb e => by rw [upd_ne (ne_of_none e hf)]; exact e, by rw [upd_ne (Ne.symm nfc)]; exact e3, upd_same⟩
    have more : ∀ {s : Nat} {H' H2 : Hp}, RdAt T.C_Cursor c dx l f ws s H3 H' → Same H' H2 → RdAt T.C_Cursor c dx l f ws s H3 H2 := fun r e => ⟨fun b o nb z => e _ _ (r.kb b o nb z), e _ _ r.cu, e _ _ r.fo⟩
    let σ1 : L2.St := [some v, some (.ref c), some (.ref f)]
    have tyf : ∀ {s : Nat} {H' : Hp}, RdAt T.C_Cursor c dx l f ws s H3 H' → tyV K "list" (.ref f) H' := fun r => .inl ⟨rfl, _, .inl (.inl r.fo)⟩
    obtain ⟨w0, hw0⟩ : ∃ w0, ws[0]? = some w0 := ⟨_, List.getElem?_eq_getElem (by omega)⟩
    refine ⟨_, rfl, tyf R0, _, rfl, c, dx, _, rfl, R0.cu, rfl, step _ R0 (by omega) (fun i y hi => absurd hi (Nat.not_lt_zero i)) (.inr rfl) fun H2 R1 nm1 => ?_⟩
    have hseen : ∀ {s : Nat} {H' : Hp}, RdAt T.C_Cursor c dx l f ws s H3 H' → ED K (tMeth T.C_Cursor "seen" (spSeen K T.C_Cursor) [] E0 (tVar 1) tNil) σ1 (nn H') H' (seenD ws[s]?) := fun {s H'} r H4 s4 Q q =>
      ⟨_, rfl, c, dx, _, rfl, (more r s4).cu, rfl, c, dx, l, ws, n, s, rfl, cuA (more r s4), fun y hy => by rw [hy] at q; exact q _ H4 (Same.refl _) (.str _), fun hy => by rw [hy] at q; exact q _ H4 (Same.refl _) .non⟩
    refine s_if (b := isNilW ws) (et_is (et_and (et_test (ed_eqD (K := K) (F := nn H2) (d := .list [.str w0]) (ed_var rfl (dp_df (.lst (.inl (.inl R1.fo)) ?_))) (ed_lst (ea_cons (ed_str (x := "nil")) ea_nil) (by decide)) (shL (hg _ (List.mem_of_getElem? hw0))) (by decide +kernel))) fun _ => et_test (ed_eqD (hseen R1) (ed_str (x := ";")) ?_ (by decide +kernel))) ?_) (fun hb H4 s4 => ?_) (fun hb H4 s4 => ?_)
    · rw [List.take_add_one, hw0]; exact dps_strs [w0]
    · cases q : ws[0 + 1]? with
      | none => rfl
      | some y => exact shS (hg _ (List.mem_of_getElem? q))
    · rw [eqvL1, eqvSn]; unfold isNilW; rw [hw0]; simp
    · have R4 := more R1 s4
      have kp4 : ∀ b o, b ≠ c → H4 b = some o → upd H4 c (.ins T.C_Cursor dx (cuF l (((0 + 1 : Nat) : Int) + 1))) b = some o := fun b o nb e => by rw [upd_ne nb]; exact e
      have hC := (cuA R4).move kp4 upd_same
      have hs : Same H (upd H4 c (.ins T.C_Cursor dx (cuF l (((0 + 1 : Nat) : Int) + 1)))) := fun b o e => kp4 b o (ne_of_none e hcH) (out R4 b o e)
      refine ⟨_, rfl, c, T.C_Cursor, dx, _, _, rfl, R4.cu, T.cl_Cursor, T.na_Cursor_at, cu_at, _, _, rfl, rfl, dx, _, R4.cu, (by show 3 < 1000; decide), ?_⟩
      rw [cu_put4]
      refine ⟨_, rfl, c, dx, _, rfl, upd_same, rfl, c, dx, l, ws, n, 2, rfl, hC, fun h => ?_, fun h1 h2 H5 s5 => ?_⟩
      · have e : rk ws n = some 3 := by
          unfold rk; rw [hb, if_pos rfl, if_neg]
          rintro ⟨z1, z2⟩; rcases h with h | h
          · omega
          · exact h z2
        exact fun d H5 s5 hd e5 => kE _ e d H5 (hs.trans s5) (hs.freshA hd) e5
      · have hw1 : ws[1]? = some (";" : Str) := by
          unfold isNilW at hb; simp only [Bool.and_eq_true, decide_eq_true_eq] at hb; exact hb.2
        have hlen : ws.length = 2 := by
          have := (List.getElem?_eq_some_iff.mp hw1).1; omega
        refine ⟨by decide, fun p hp => kQ ?_ _ _ ((hs.trans s5).trans (Same.newA hp)) ?_⟩
        · unfold rk; rw [hb, if_pos rfl, if_pos ⟨hlen, h2⟩]
        · unfold wordOf; rw [hb]; exact .tup (.inl (.inl upd_same)) .nil
    · have R4 := more R1 s4
      refine ⟨fun m σ' H' => ∃ s, m + s = ws.length ∧ σ' = σ1 ∧ RdAt T.C_Cursor c dx l f ws s H3 H' ∧ ∀ i y, i < s → ws[i]? = some y → nameB y = true, ⟨ws.length - 1, 1, by omega, rfl, R4, nm1⟩, ?_⟩
      rintro m σ' H' ⟨s', hm, rfl, R, nm⟩
      refine ⟨_, rfl, c, dx, _, rfl, R.cu, rfl, c, dx, l, ws, n, s', rfl, cuA R, fun y hy => ?_, fun hy => ?_⟩
      · refine ⟨rfl, _, rfl, ?_⟩
        have hs' : s' < ws.length := (List.getElem?_eq_some_iff.mp hy).1
        refine ite2 (fun _ => ?_) (fun h => absurd rfl h)
        refine ⟨fun σ2 H2 => ∃ m', m' < m ∧ ∃ s, m' + s = ws.length ∧ σ2 = σ1 ∧ RdAt T.C_Cursor c dx l f ws s H3 H2 ∧ ∀ i y, i < s → ws[i]? = some y → nameB y = true, fun _ _ z => z, ?_⟩
        refine ⟨_, rfl, tyf R, _, rfl, c, dx, _, rfl, R.cu, rfl, step _ R hs' nm (.inl hb) fun H5 R5 nm5 => ?_⟩
        exact ⟨m - 1, by omega, s' + 1, by omega, rfl, R5, nm5⟩
      · refine ⟨rfl, _, rfl, ?_⟩
        refine ite2 (fun h => nomatch h) (fun _ => ?_)
        have hs' : s' = ws.length := by have := List.getElem?_eq_none_iff.mp hy; omega
        have hfb : firstBad ws 0 = none := firstBad_none fun i y hi => nm i y (by have := (List.getElem?_eq_some_iff.mp hi).1; omega) hi
        refine ⟨_, rfl, c, dx, _, rfl, R.cu, rfl, c, dx, l, ws, n, s', rfl, cuA R, fun h => ?_, fun h1 h2 H5 s5 => ?_⟩
        · refine bad R ?_
          unfold rk; rw [hb, hfb, if_neg (by decide)]
          rcases h with h | h
          · omega
          · rw [hs']; exact if_neg h
        · have R5 := more R s5
          refine s_ret (ed_tupleOf (d := .list (ws.map .str)) (K := K) (F := nn H5) (ed_var rfl (dp_df (.lst (.inl (.inl R5.fo)) ?_))) rfl) fun u H6 s6 hu => kQ ?_ u H6 ((out R5).trans s6) ?_
          · rw [hs', List.take_length]; exact dps_strs ws
          · unfold rk; rw [hb, hfb, if_neg (by decide)]; exact if_pos h2
          · unfold wordOf; rw [hb]; exact df_dp hu
end
end Ag

set_option Elab.async false
set_option linter.all false
set_option maxRecDepth 100000
set_option maxHeartbeats 1000000
namespace Ag
open PySem PySem.Spec PyProof.Rows L2
theorem as_gd {n : Nat} {x : Str} (h : As n x) (hn : n ≤ 1000) : gd (.str x) = true := by
  simp only [gd, Bool.and_eq_true, decide_eq_true_eq]
  refine ⟨Array.all_eq_true_iff_forall_mem.mpr fun c hc => decide_eq_true ?_, Nat.le_trans h.2 hn⟩
  have := h.1 c (Array.mem_toList_iff.mpr hc); omega
theorem nm_as {i : Nat} {s : Str} (hi : i < 32) (h : Nm i s) : As 12 s := by
  obtain ⟨a, b, rfl, h1, h2, h3⟩ := h
  obtain ⟨d1, d2, d3⟩ := digs_ok i hi
  have hl : (S (a ++ Digs i ++ b)).length = a.length + (Digs i).length + b.length := by rw [SX.S_len, List.length_append, List.length_append]
  refine ⟨fun c hc => ?_, by omega⟩
  have hc : c ∈ a ++ Digs i ++ b := hc
  rcases List.mem_append.mp hc with hc | hc
  · rcases List.mem_append.mp hc with hc | hc
    · have := h3 c (List.mem_append_left _ hc); omega
    · have := d3 c hc; omega
  · have := h3 c (List.mem_append_right _ hc); omega
/-- calls: names, plain, some of them -/
def Calls (ns : List Str) : Prop := ns.length ≤ 4 ∧ 1 ≤ ns.length ∧ ∀ s ∈ ns, nameB s = true ∧ As 12 s
theorem calls_of {m : Nat} {ns : List Str} (h : Nms m ns) (h1 : 1 ≤ m) (h4 : m ≤ 4) : Calls ns := by
  refine ⟨by rw [nms_len h]; exact h4, by rw [nms_len h]; exact h1, fun s hs => ?_⟩
  obtain ⟨j, hj, hn⟩ := nms_mem h hs
  exact ⟨nm_name (by omega) hn, nm_as (by omega) hn⟩
theorem pick_str {xs : List Str} {i : Nat} {v : V} (h : (xs.map V.str)[i]? = some v) : ∃ s ∈ xs, v = .str s := by
  obtain ⟨s, hs, e⟩ := List.mem_map.mp (List.mem_of_getElem? h)
  exact ⟨s, hs, e.symm⟩
/-- a word of some of the calls -/
def spWord (K : PySem.W.Frag) : Sp := fun vs H Q _ => ∃ (p c cs : Addr) (ns : List Str) (n : Nat), vs = [.ref p, .ref cs, .int 12] ∧ Pen p c n H ∧ SqT K H cs (ns.map V.str) ∧ 1 ≤ ns.length ∧ ns.length ≤ 4 ∧ n + 1000000 < 1000000000000 ∧
  ∀ (l : Addr) (ws : List Str) H', (∀ x ∈ ws, x ∈ ns) → ws.length ≤ 12 → H l = none → H' l = some (.tup (ws.map V.str)) → But p H H' → Pen p c (n + 20) H' → Q (.ref l) H'
/-- a value that is no name, plain -/
def spOddN (K : PySem.W.Frag) : Sp := fun vs H Q _ => ∃ (p c : Addr) (x : Str) (n : Nat), vs = [.ref p, .str x] ∧ Pen p c n H ∧ As 12 x ∧ n + 1000000 < 1000000000000 ∧
  ∀ v d H', Dp K H' v d → gd d = true → But p H H' → Pen p c (n + 5) H' → Q v H'
section
variable {P : Program} {w : World} {K : PySem.W.Frag} {mg : Str → Option Value} {base : Heap} (T : Txt w K mg)
theorem ok_some_word : FnOk P w K mg base CX0 3 T.a_law_some_word T.d_law_some_word ["pen", "calls", "most"] (spWord K) := by
  have G_law_draw := ok_draw (P := P) (base := base) T
  have G_law_pick := ok_pick (P := P) (base := base) T
  refine T.D_law_some_word.fn.ok sc_law_some_word (fun vs H Q E h => ?_) (fun cdv A outer s H vs Q E hr h => ?_)
  · obtain ⟨p, c, cs, ns, n, rfl, _⟩ := h; rfl
  · obtain ⟨p, c, cs, ns, n, rfl, hP, hs, n1, n4, nb, k⟩ := h
    refine ⟨_, (pss_one (ps_ret (pe_callTy call_tuple_of (by rfl) T.b_tuple bt_tuple (pa_cons (pe_lc (own := [("spot", 3)]) rfl sc_law_some_word.nd (pi_range1 (by rfl) T.b_range (pa_cons (pe_call (G_law_draw) (hr.mono (by omega)) (by rfl) T.D_law_draw.mg T.D_law_draw.fn.kp T.D_law_draw.bd .nil pass0 (pa_cons (pv 0) (pa_cons (pe_op op_add (pv 2) pe_int) pa_nil))) pa_nil)) (blkOk_by (own := [("spot", 3)]) (N := ["pen", "calls", "most", "spot"]) (sc := defScope s_law_some_word) (by decide +kernel)) (fun _ _ _ _ _ => (pg_name (i := 3) sc_law_some_word.nd rfl (by first | exact Or.inl rfl | exact Or.inr rfl))) (fun _ _ _ _ _ => pts_nil) (fun _ _ _ _ _ => (pe_call (G_law_pick) (hr.mono (by omega)) (by rfl) T.D_law_pick.mg T.D_law_pick.fn.kp T.D_law_pick.bd .nil pass0 (pa_cons (pv 0) (pa_cons (pv 1) pa_nil))))) pa_nil)))), ?_⟩
    refine ⟨_, rfl, _, rfl, _, _, rfl, rfl, p, c, 13, n, rfl, hP, by decide, by decide, by omega, fun d H1 d0 d1 b1 P1 => ?_⟩
    obtain ⟨m, rfl⟩ : ∃ m : Nat, d = m := ⟨d.toNat, by omega⟩
    refine ⟨_, rfl, by omega, by omega, fun D hD => lc_range (lo := 0) (n := m) (fun i H' => ∃ ms : List Str, H' D = some (.lst (ms.map V.str)) ∧ ms.length = i ∧ (∀ x ∈ ms, x ∈ ns) ∧ But p H1 H' ∧ Pen p c (n + 1 + i) H')
      ⟨[], upd_same, rfl, (fun x hx => by cases hx), .of (Same.newA hD), P1.upd (P1.ne_p hD) (P1.ne_c hD)⟩ ?_ ?_⟩
    · rintro i H' hi ⟨ms, e1, ml, hm, b2, P2⟩
      refine ⟨rfl, ?_⟩
      refine ⟨_, rfl, _, rfl, p, c, cs, ns.map V.str, n + 1 + i, rfl, P2, .inr (hP.st (b1.trans b2) hs), by rw [List.length_map]; omega, by rw [List.length_map]; omega, by omega, fun j v H2 hv b3 P3 => ?_⟩
      obtain ⟨x, hx, rfl⟩ := pick_str hv
      have e2 : H2 D = some (.lst (ms.map V.str)) := b3 _ _ (P1.ne_p hD) e1
      refine ⟨_, e2, lt5 (by rw [List.length_map]; omega), ms ++ [x], ?_, by rw [List.length_append, ml]; rfl, fun y hy => ?_, ?_, ?_⟩
      · rw [List.map_append]; exact upd_same
      · rcases List.mem_append.mp hy with hy | hy
        · exact hm y hy
        · rw [List.mem_singleton.mp hy]; exact hx
      · intro b u nb e
        rw [upd_ne (ne_of_none e hD)]
        exact b3 _ _ nb (b2 _ _ nb e)
      · exact (P3.more (by omega)).upd (P1.ne_p hD) (P1.ne_c hD)
    · rintro H' ⟨ms, e1, ml, hm, b2, P2⟩
      refine ⟨D, _, rfl, .inl ⟨SqL.of e1, fun r hr1 => ?_⟩⟩
      exact k r ms _ hm (by omega) (b1.free (b2.free hr1 (P2.ne_p hr1)) (P2.ne_p hr1)) upd_same (b1.trans (b2.trans (.of (Same.newA hr1)))) ((P2.more (by omega)).upd (P2.ne_p hr1) (P2.ne_c hr1))
end
end Ag

set_option Elab.async false
set_option linter.all false
set_option maxRecDepth 100000
set_option maxHeartbeats 1000000
namespace Ag
open PySem PySem.Spec PyProof.Rows L2
theorem gd_l1 {d : PyData} (h : gd d = true) : gd (.list [d]) = true := by show (gd d && true) && decide (1 ≤ 1000) = true; rw [h]; rfl
theorem gd_t1 {d : PyData} (h : gd d = true) : gd (.tuple [d]) = true := by show (gd d && true) && decide (1 ≤ 1000) = true; rw [h]; rfl
theorem run_lst1 {K : PySem.W.Frag} {σ : L2.St} {F : Addr → Prop} {H : Hp} {ta : TA} {ds : List PyData} {Q : List V → Hp → Prop} (h : EA K ta σ F H ds) (k : ∀ vs H1, Same H H1 → DfAll K (Fr F H) H1 vs ds → vs.length ≤ sizeLine ∧ ∀ p, H1 p = none → Q [.ref p] (upd H1 p (.lst vs))) :
    tCons (tLst ta) tNil σ H Q := h H (Same.refl _) _ k
section
variable {P : Program} {w : World} {K : PySem.W.Frag} {mg : Str → Option Value} {base : Heap} (T : Txt w K mg)
theorem ok_odd_name : FnOk P w K mg base CX0 3 T.a_law_odd_name T.d_law_odd_name ["pen", "name"] (spOddN K) := by
  have G_law_pick := ok_pick (P := P) (base := base) T
  refine T.D_law_odd_name.fn.ok sc_law_odd_name (fun vs H Q E h => ?_) (fun cdv A outer s H vs Q E hr h => ?_)
  · obtain ⟨p, c, x, n, rfl, _⟩ := h; rfl
  · obtain ⟨p, c, x, n, rfl, hP, hx, nb, k⟩ := h
    refine ⟨_, (pss_one (ps_ret (pe_call (G_law_pick) (hr.mono (by omega)) (by rfl) T.D_law_pick.mg T.D_law_pick.fn.kp T.D_law_pick.bd .nil pass0 (pa_cons (pv 0) (pa_cons (pe_lst (pa_cons pe_str (pa_cons (pe_op op_add_str pe_str (pe_slice sl_str (pv 1) po_none (po_some pe_int))) (pa_cons (pe_upper (pv 1)) (pa_cons (pe_op op_add_str (pv 1) pe_str) (pa_cons (pe_op op_add_str (pe_slice sl_str (pv 1) po_none (po_some pe_int)) pe_str) (pa_cons pe_str (pa_cons (pe_op op_add_str (pe_slice sl_str (pv 1) po_none (po_some pe_int)) pe_str) (pa_cons pe_non (pa_cons pe_int (pa_cons pe_bl (pa_cons (pe_tup (pa_cons (pv 1) pa_nil)) (pa_cons (pe_op op_add_str (pe_slice sl_str (pv 1) po_none (po_some pe_int)) pe_str) (pa_cons pe_str (pa_cons pe_str (pa_cons (pe_lst (pa_cons (pv 1) pa_nil)) pa_nil)))))))))))))))) pa_nil))))), ?_⟩
    have hv : ∀ H1, ED K (tVar 1) (start ["pen", "name"] [.ref p, .str x]) (nn H) H1 (.str x) := fun H1 => ed_var rfl (.str x)
    have hl : x.length ≤ 12 := hx.2
    have cut : ∀ (j : Int) H1, ED K (tSl rSlS (tVar 1) tNoPart (tPart (tC (.int j)))) (start ["pen", "name"] [.ref p, .str x]) (nn H) H1 (.str (cutS x none (some j))) := fun j H1 => ed_slS (hv H1) (by omega) eo_none (eo_some (K := K) (F := nn H) ed_int)
    have ac : ∀ j : Int, As 12 (cutS x none (some j)) := fun j => as_cut hx
    have l12 : ∀ (j : Int) (y : Str), asB 20 y = true → (cutS x none (some j)).length + y.length ≤ 100000 := fun j y hy => by have := (ac j).2; have := (as_of hy).2; omega
    let ds : List PyData := [.str "", .str ("1" ++ cutS x none (some 8)), .str (Txt.upper x), .str (x ++ "abcdefghijkl"), .str (cutS x none (some 4) ++ "_"), .str " ", .str (cutS x none (some 3) ++ " b"), .none, .int 5, .bool true, .tuple [.str x], .str (cutS x none (some 5) ++ "\n"), .str "-", .str ".", .list [.str x]]
    have g : ∀ d ∈ ds, gd d = true := by
      intro d hd
      simp only [ds, List.mem_cons, List.not_mem_nil, or_false] at hd
      rcases hd with rfl | rfl | rfl | rfl | rfl | rfl | rfl | rfl | rfl | rfl | rfl | rfl | rfl | rfl | rfl
      · exact as_gd (as_of (n := 20) (by decide +kernel)) (by decide)
      · exact as_gd (as_cat (as_of (n := 20) (by decide +kernel)) (ac 8)) (by decide)
      · exact as_gd (as_upper hx) (by decide)
      · exact as_gd (as_cat hx (as_of (n := 20) (by decide +kernel))) (by decide)
      · exact as_gd (as_cat (ac 4) (as_of (n := 20) (by decide +kernel))) (by decide)
      · exact as_gd (as_of (n := 20) (by decide +kernel)) (by decide)
      · exact as_gd (as_cat (ac 3) (as_of (n := 20) (by decide +kernel))) (by decide)
      · rfl
      · rfl
      · rfl
      · exact gd_t1 (as_gd hx (by decide))
      · exact as_gd (as_cat (ac 5) (as_of (n := 20) (by decide +kernel))) (by decide)
      · exact as_gd (as_of (n := 20) (by decide +kernel)) (by decide)
      · exact as_gd (as_of (n := 20) (by decide +kernel)) (by decide)
      · exact gd_l1 (as_gd hx (by decide))
    refine ⟨_, rfl, run_lst1 (K := K) (F := nn H) (ds := ds) ?_ fun vs H1 s1 hvs => ?_⟩
    · refine ea_cons ed_str (ea_cons (ed_catS ed_str (cut 8 H) (by rw [Nat.add_comm]; exact l12 8 "1" (by decide +kernel))) (ea_cons (ed_upper (hv H) (by omega)) (ea_cons (ed_catS (hv H) ed_str ?_) (ea_cons (ed_catS (cut 4 H) ed_str (l12 4 "_" (by decide +kernel))) (ea_cons ed_str (ea_cons (ed_catS (cut 3 H) ed_str (l12 3 " b" (by decide +kernel))) (ea_cons ed_non (ea_cons ed_int (ea_cons ed_bl
        (ea_cons (ed_tup (ea_cons (hv H) ea_nil) (by show 1 ≤ 100000; decide)) (ea_cons (ed_catS (cut 5 H) ed_str (l12 5 "\n" (by decide +kernel))) (ea_cons ed_str (ea_cons ed_str (ea_cons (ed_lst (ea_cons (hv H) ea_nil) (by show 1 ≤ 100000; decide)) ea_nil))))))))))))))
      have : ("abcdefghijkl" : Str).length ≤ 20 := by decide +kernel
      omega
    have lv : vs.length = 15 := dfs_len hvs
    refine ⟨by rw [lv]; decide, fun l hl0 => ?_⟩
    have P1 := hP.same s1
    refine ⟨p, c, l, vs, n, rfl, P1.upd (P1.ne_p hl0) (P1.ne_c hl0), .inl (SqL.of upd_same), by omega, by omega, by omega, fun i v H2 hi b2 P2 => ?_⟩
    obtain ⟨d, hd, dv⟩ := dps_get' (dfs_dps hvs) hi
    have P1' := P1.upd (o := HO.lst vs) (P1.ne_p hl0) (P1.ne_c hl0)
    exact k v d H2 (P1'.dp b2 (dp_mono (Same.newA hl0) dv)) (g d (List.mem_of_getElem? hd)) ((But.of (s1.trans (Same.newA hl0))).trans b2) (P2.more (by omega))
/-- the empty dict is no word -/
def spDictF : Sp := fun vs H Q _ => ∃ a, vs = [.ref a] ∧ H a = some (.dK []) ∧ ∀ H', Same H H' → Q (.bl false) H'
theorem ok_is_word_d : FnOk P w K mg base CX0 2 T.a_is_word T.d_is_word ["value"] spDictF := by
  have G_is_name := ok_is_name (P := P) (base := base) T
  refine T.D_is_word.fn.ok sc_is_word (fun vs H Q E h => ?_) (fun cdv A outer s H vs Q E hr h => ?_)
  · obtain ⟨a, rfl, _⟩ := h; rfl
  · obtain ⟨a, rfl, ha, k⟩ := h
    refine ⟨_, (pss_one (ps_ret (pe_and (pe_callB call_isi (by rfl) T.b_isinstance bt_isinstance (pa_cons (pv 0) (pa_cons (pe_bltn (v := .ty "tuple") (by rfl) T.b_tuple bt_tuple rfl) pa_nil))) (pe_one (pe_callB (cr_all rfl) (by rfl) T.b_all bt_all (pa_cons (pe_lc (own := [("call", 1)]) rfl sc_is_word.nd (pi_tup (pv 0)) (blkOk_by (own := [("call", 1)]) (N := ["value", "call"]) (sc := defScope s_is_word) (by decide +kernel)) (fun _ _ _ _ _ => (pg_name (i := 1) sc_is_word.nd rfl (by first | exact Or.inl rfl | exact Or.inr rfl))) (fun _ _ _ _ _ => pts_nil) (fun _ _ _ _ _ => (pe_call (G_is_name) (hr.mono (by omega)) (by rfl) T.D_is_name.mg T.D_is_name.fn.kp T.D_is_name.bd .nil pass0 (pa_cons (pv 1) pa_nil)))) pa_nil)))))), ?_⟩
    exact s_retB (K := K) (F := nn H) (b := false) (ed_andV (a := false) (b := true) (ed_isiE rfl ha (.inr (.inl rfl))) fun h => nomatch h) rfl k
theorem ok_law_is_word_d : FnOk P w K mg base CX0 2 T.a_law_is_word T.d_law_is_word ["value"] spDictF := by
  have G_law_is_name := ok_law_is_name (P := P) (base := base) T
  refine T.D_law_is_word.fn.ok sc_law_is_word (fun vs H Q E h => ?_) (fun cdv A outer s H vs Q E hr h => ?_)
  · obtain ⟨a, rfl, _⟩ := h; rfl
  · obtain ⟨a, rfl, ha, k⟩ := h
    refine ⟨_, (pss_one (ps_ret (pe_and (pe_callB call_isi (by rfl) T.b_isinstance bt_isinstance (pa_cons (pv 0) (pa_cons (pe_bltn (v := .ty "tuple") (by rfl) T.b_tuple bt_tuple rfl) pa_nil))) (pe_one (pe_cmpR (op_eqE hr.units) (pe_lc (own := [("call", 1)]) rfl sc_law_is_word.nd (pi_tup (pv 0)) (blkOk_by (own := [("call", 1)]) (N := ["value", "call"]) (sc := defScope s_law_is_word) (by decide +kernel)) (fun _ _ _ _ _ => (pg_name (i := 1) sc_law_is_word.nd rfl (by first | exact Or.inl rfl | exact Or.inr rfl))) (fun _ _ _ _ _ => (pts_one (pt_not (pt_val (pe_call (G_law_is_name) (hr.mono (by omega)) (by rfl) T.D_law_is_name.mg T.D_law_is_name.fn.kp T.D_law_is_name.bd .nil pass0 (pa_cons (pv 1) pa_nil)))))) (fun _ _ _ _ _ => (pv 1))) (pe_lst pa_nil) (nomark _)))))), ?_⟩
    exact s_retB (K := K) (F := nn H) (b := false) (ed_andV (a := false) (b := true) (ed_isiE rfl ha (.inr (.inl rfl))) fun h => nomatch h) rfl k
theorem ok_law_is_word_g : FnOk P w K mg base CX0 2 T.a_law_is_word T.d_law_is_word ["value"] (spB K (fun d => gd d = true) isWord) := by
  have G_law_is_name := ok_law_is_name (P := P) (base := base) T
  refine T.D_law_is_word.fn.ok sc_law_is_word (fun vs H Q E h => ?_) (fun cdv A outer s H vs Q E hr h => ?_)
  · obtain ⟨v, d, rfl, _⟩ := h; rfl
  · obtain ⟨v, d, rfl, hv, hd, k⟩ := h
    refine ⟨_, (pss_one (ps_ret (pe_and (pe_callB call_isi (by rfl) T.b_isinstance bt_isinstance (pa_cons (pv 0) (pa_cons (pe_bltn (v := .ty "tuple") (by rfl) T.b_tuple bt_tuple rfl) pa_nil))) (pe_one (pe_cmpR (op_eqE hr.units) (pe_lc (own := [("call", 1)]) rfl sc_law_is_word.nd (pi_tup (pv 0)) (blkOk_by (own := [("call", 1)]) (N := ["value", "call"]) (sc := defScope s_law_is_word) (by decide +kernel)) (fun _ _ _ _ _ => (pg_name (i := 1) sc_law_is_word.nd rfl (by first | exact Or.inl rfl | exact Or.inr rfl))) (fun _ _ _ _ _ => (pts_one (pt_not (pt_val (pe_call (G_law_is_name) (hr.mono (by omega)) (by rfl) T.D_law_is_name.mg T.D_law_is_name.fn.kp T.D_law_is_name.bd .nil pass0 (pa_cons (pv 1) pa_nil)))))) (fun _ _ _ _ _ => (pv 1))) (pe_lst pa_nil) (nomark _)))))), ?_⟩
    have hvar : ED K (tVar 0) (start ["value", "call"] [v]) (nn H) H d := ed_var rfl (dp_df hv)
    have isi := ed_isi (T := "tuple") hvar (.inr (.inl rfl))
    cases d with
    | tuple ds =>
      obtain ⟨g1, g2⟩ := gd_tup hd
      refine s_retB (F := nn H) (ed_andV isi fun _ => ed_eqE (ed_lc (f := fun d => !isName d) (m := fun s => s) (ei_tup hvar) (by omega) fun F2 H2 e2 v2 d2 hm hd2 => ?_) ed_emp ?_) ?_ k
      · exact ⟨_, fun Q q => q, rfl, et_not (et_test (ed_call (ea_cons (ed_var rfl hd2) ea_nil) (rdc_spB (g1 _ hm)))), fun _ => ed_var rfl hd2⟩
      · rw [List.map_id']
        exact gds_lay (gds_of fun y hy => g1 y ((List.mem_filter.mp hy).1))
      · show (true && ((ds.filter fun d => !isName d).map fun s => s).isEmpty) = ds.all isName
        rw [List.map_id', Bool.true_and]
        clear hd hv isi hvar g1 g2 k
        induction ds with
        | nil => rfl
        | cons a r ih =>
          rw [List.filter_cons, List.all_cons]
          cases isName a with
          | true => exact ih
          | false => rfl
    | _ => exact s_retB (F := nn H) (b := false) (ed_andV (a := false) (b := true) isi fun h => nomatch h) rfl k
theorem ok_is_word_x : FnOk P w K mg base CX0 2 T.a_is_word T.d_is_word ["value"] (spOr (spB K (fun d => gd d = true) isWord) spDictF) := fn_or (ok_is_word T) (ok_is_word_d T)
theorem ok_law_is_word : FnOk P w K mg base CX0 2 T.a_law_is_word T.d_law_is_word ["value"] (spOr (spB K (fun d => gd d = true) isWord) spDictF) := fn_or (ok_law_is_word_g T) (ok_law_is_word_d T)
end
end Ag

set_option Elab.async false
set_option linter.all false
set_option maxRecDepth 100000
set_option maxHeartbeats 1000000
namespace Ag
open PySem PySem.Spec PyProof.Rows L2
/-- what is told of the first wrong place -/
def whyD : Option Nat → PyData | none => .none | some k => .list [.str "text", .int 1, .int k]
theorem run_enS {K : PySem.W.Frag} {ta : TA} {a : Addr} {xs : List V} {g : TG} {tb : TS} {tz : TS} {D : Ends} {σ : L2.St} {H : Hp} (ha : ∀ Q : List V → Hp → Prop, Q [.ref a] H → ta σ H Q) (hq : SqL K H a xs) (Pv : Nat → L2.St → Hp → Prop) (h0 : Pv 0 σ H) (hG : ∀ i σ H, i ≤ xs.length → Pv i σ H → SqL K H a xs)
    (hs : ∀ i x σ H T, xs[i]? = some x → Pv i σ H → H T = none → g (.ref T) σ (upd H T (.tup [.int (i : Nat), x])) fun σ2 H2 => tb { D with nx := Pv (i + 1), ct := Pv (i + 1), bk := tz D } σ2 H2) (hd : ∀ σ H, Pv xs.length σ H → tz D σ H) :
    tSeq (tFor (iEnum K ta) g tb) tz D σ H := ha _ ⟨a, xs, rfl, hq, for_it walk_enum Pv h0 hG (fun i x σ H H' hi hp y => by
      obtain ⟨T, u, z, rfl, hT, rfl, e1, e2⟩ := y
      cases e1
      exact hs i z σ H T e2 hp hT) hd⟩
section
variable {P : Program} {w : World} {K : PySem.W.Frag} {mg : Str → Option Value} {base : Heap} (T : Txt w K mg)
def spFW (K : PySem.W.Frag) : Sp := fun vs H Q _ => ∃ x, vs = [.str x] ∧ x.length < 50000 ∧ (∀ y ∈ Txt.split ((Txt.split x "\n").headD "") " ", gd (.str y) = true) ∧
  ∀ u H', Same H H' → Dp K H' u (whyD (rk (Txt.split ((Txt.split x "\n").headD "") " ") (Txt.split x "\n").length)) → Q u H'
theorem ok_first_wrong : FnOk P w K mg base CX0 2 T.a_law_first_wrong T.d_law_first_wrong ["text"] (spFW K) := by
  have G_law_is_name := ok_law_is_name (P := P) (base := base) T
  refine T.D_law_first_wrong.fn.ok sc_law_first_wrong (fun vs H Q E h => ?_) (fun cdv A outer s H vs Q E hr h => ?_)
  · obtain ⟨x, rfl, _⟩ := h; rfl
  · obtain ⟨x, rfl, hx, hg, k⟩ := h
    refine ⟨_, (pss_cons (ps_set (i := 1) sc_law_first_wrong.nd rfl (by first | exact Or.inl rfl | exact Or.inr rfl) (pe_split (pv 0) pe_str))
      (pss_cons (ps_set (i := 2) sc_law_first_wrong.nd rfl (by first | exact Or.inl rfl | exact Or.inr rfl) (pe_split (pe_ix ix_seq (pv 1) pe_int (fun _ _ => rfl)) pe_str))
      (pss_cons (ps_for PassesOwn.never rfl (pi_enum (by rfl) T.b_enumerate (pa_cons (pv 2) pa_nil)) (pg_tup rfl (pgs_cons (pg_name (i := 3) sc_law_first_wrong.nd rfl (by first | exact Or.inl rfl | exact Or.inr rfl)) (pgs_cons (pg_name (i := 4) sc_law_first_wrong.nd rfl (by first | exact Or.inl rfl | exact Or.inr rfl)) pgs_nil))) (pss_one (ps_if (PW.pt (pw_and (pt_cmpR op_eq (pv 3) pe_int (nomark _)) (pw_and (pt_cmpR op_eq (pe_ix ix_seq (pv 2) pe_int (fun _ _ => rfl)) pe_str (nomark _)) (pw_and1 (pt_cmpR op_eq (pv 4) pe_str (nomark _)))))) (pss_one (ps_if (pt_cmpR op_gt (pe_callB call_len (by rfl) T.b_len bt_len (pa_cons (pv 2) pa_nil)) pe_int (nomark _)) (pss_one (ps_ret (pe_lst (pa_cons pe_str (pa_cons pe_int (pa_cons pe_int pa_nil)))))) pss_nil)) (pss_one (ps_if (pt_not (pt_val (pe_call (G_law_is_name) (hr.mono (by omega)) (by rfl) T.D_law_is_name.mg T.D_law_is_name.fn.kp T.D_law_is_name.bd .nil pass0 (pa_cons (pv 4) pa_nil)))) (pss_one (ps_ret (pe_lst (pa_cons pe_str (pa_cons pe_int (pa_cons (pe_op op_add (pv 3) pe_int) pa_nil)))))) pss_nil)))))
      (pss_one (ps_ret (pe_ifExp (pt_cmpR op_eq (pe_callB call_len (by rfl) T.b_len bt_len (pa_cons (pv 1) pa_nil)) pe_int (nomark _)) pe_non (pe_lst (pa_cons pe_str (pa_cons pe_int (pa_cons (pe_op op_add (pe_callB call_len (by rfl) T.b_len bt_len (pa_cons (pv 2) pa_nil)) pe_int) pa_nil)))))))))), ?_⟩
    have hL : ∃ l0 Lr, Txt.split x "\n" = l0 :: Lr := by
      cases e : Txt.split x "\n" with
      | nil => have := split_pos x "\n"; rw [e] at this; exact absurd this (by decide)
      | cons a b => exact ⟨a, b, rfl⟩
    obtain ⟨l0, Lr, hL⟩ := hL
    have hl0 : l0.length < 50000 := Nat.lt_of_le_of_lt (PyProof.Rows.part_short (show l0 ∈ Txt.split x "\n" by rw [hL]; exact List.mem_cons_self)) hx
    have hLn := lines_few hx
    refine s_set (K := K) (F := nn H) (ed_split (ed_var rfl (.str x)) (ed_str (x := "\n")) (by decide +kernel) (by omega)) fun lv H1 s1 hlv => ?_
    rw [hL] at hlv hg k hLn
    rw [show (l0 :: Lr).headD ("" : Str) = l0 from rfl] at hg k
    have hwn : (Txt.split l0 " ").length ≤ 50000 := by have := split_weight l0 " " (by decide); omega
    have hwp : 1 ≤ (Txt.split l0 " ").length := split_pos l0 " "
    refine s_set (K := K) (ed_split (ed_ixL (j := 0) (ed_var rfl hlv) ed_int rfl) (ed_str (x := " ")) (by decide +kernel) (by omega)) fun wv H2 s2 hwv => ?_
    generalize Txt.split l0 " " = ws at hg k hwn hwp hwv
    generalize hn : (l0 :: Lr).length = n at k hLn
    obtain ⟨wl, rfl, hwl⟩ : ∃ wl, wv = .ref wl ∧ SqL K H2 wl (ws.map V.str) := by
      cases df_dp hwv with
      | lst hs r => exact ⟨_, rfl, by have e := strs_dps r; rw [← e]; exact hs⟩
    have dl : ∀ H3, Same H2 H3 → Dp K H3 lv (.list ((l0 :: Lr).map .str)) := fun H3 s3 => dp_mono (s2.trans s3) (df_dp hlv)
    have dw : ∀ H3, Same H2 H3 → Dp K H3 (.ref wl) (.list (ws.map .str)) := fun H3 s3 => dp_mono s3 (df_dp hwv)
    have s12 := s1.trans s2
    obtain ⟨w0, hw0⟩ : ∃ w0, ws[0]? = some w0 := ⟨_, List.getElem?_eq_getElem (by omega)⟩
    show tSeq (tFor (iEnum K (tCons (tVar 2) tNil)) _ _) _ _ [some (.str x), some lv, some (.ref wl), none, none] H2
    refine run_enS (a := wl) (xs := ws.map V.str) (fun Q q => ⟨_, rfl, q⟩) hwl (fun i σ' H' => ∃ o3 o4, σ' = [some (.str x), some lv, some (.ref wl), o3, o4] ∧ Same H2 H' ∧ (∀ j y, j < i → ws[j]? = some y → isNilW ws = false → nameB y = true) ∧ (isNilW ws = true → 2 ≤ i → ws.length ≤ 2)) ⟨none, none, rfl, Same.refl _, fun j y hj => absurd hj (Nat.not_lt_zero j), fun _ h => absurd h (by decide)⟩ ?_ ?_ ?_
    · rintro i σ' H' hi ⟨o3, o4, rfl, s3, _⟩; exact s3.slA hwl
    · rintro i v σ' H' Tp hv ⟨o3, o4, rfl, s3, nm, nl⟩ hTp
      obtain ⟨y, hy, rfl⟩ : ∃ y, ws[i]? = some y ∧ v = .str y := by
        rw [List.getElem?_map] at hv
        cases q : ws[i]? with
        | none => rw [q] at hv; cases hv
        | some y => rw [q] at hv; cases hv; exact ⟨y, rfl, rfl⟩
      refine ⟨Tp, _, rfl, .inl (.inl upd_same), rfl, _, _, rfl, _, _, rfl, rfl, ?_⟩
      have s4 := s3.trans (Same.newA (o := HO.tup [.int (i : Nat), .str y]) hTp)
      have s04 := s12.trans s4
      generalize upd H' Tp (HO.tup [.int (i : Nat), .str y]) = H4 at s4 s04
      let σ1 : L2.St := [some (.str x), some lv, some (.ref wl), some (.int (i : Nat)), some (.str y)]
      have vi : ∀ H5, ED K (tVar 3) σ1 (nn H4) H5 (.int (i : Nat)) := fun H5 => ed_var rfl (.int _)
      have vy : ∀ H5, ED K (tVar 4) σ1 (nn H4) H5 (.str y) := fun H5 => ed_var rfl (.str _)
      have vw : ∀ H5, Same H4 H5 → ED K (tVar 2) σ1 (nn H5) H5 (.list (ws.map .str)) := fun H5 s5 => ed_var rfl (dp_df (dw H5 (s4.trans s5)))
      have vw4 := vw H4 (Same.refl _)
      have hle : i < ws.length := (List.getElem?_eq_some_iff.mp hy).1
      refine s_if (et_and (et_test (ed_eqI (vi H4) (ed_int (i := 1)))) fun _ => et_and (et_test (ed_eqS (ed_ixL (j := 0) vw4 ed_int (by rw [List.getElem?_map, hw0]; rfl)) (ed_str (x := "nil")))) fun _ => et_test (ed_eqS (vy H4) (ed_str (x := ";")))) (fun hb H5 s5 => ?_) (fun hb H5 s5 => ?_)
      · simp only [Bool.and_eq_true, decide_eq_true_eq] at hb
        obtain ⟨h1, h2, h3⟩ := hb
        have h1 : i = 1 := by omega
        subst h1
        have hz : isNilW ws = true := by unfold isNilW; rw [hw0, hy, h2, h3]; simp
        refine s_if (et_test (ed_gt (ed_len (vw H5 s5) rfl) (ed_int (i := 2)))) (fun hb H6 s6 => ?_) (fun hb H6 s6 => ?_)
        · have hl : ws.length ≠ 2 := by
            have := of_decide_eq_true hb
            have e : lenP (.list (ws.map PyData.str)) = ws.length := List.length_map _
            rw [e] at this; omega
          refine s_ret (K := K) (F := nn H6) (ed_lst (ea_cons ed_str (ea_cons ed_int (ea_cons ed_int ea_nil))) (by show 3 ≤ 100000; decide)) fun u H7 s7 hu => k u H7 (((s04.trans s5).trans s6).trans s7) ?_
          have e : rk ws n = some 3 := by unfold rk; rw [hz, if_pos rfl, if_neg fun q => hl q.1]
          rw [e]; exact df_dp hu
        · have hl : ws.length ≤ 2 := by
            have := of_decide_eq_false hb
            have e : lenP (.list (ws.map PyData.str)) = ws.length := List.length_map _
            rw [e] at this; omega
          exact ⟨_, _, rfl, (s4.trans s5).trans s6, (fun j z hj hz1 hz2 => by rw [hz] at hz2; cases hz2), fun _ _ => hl⟩
      · have hno : isNilW ws = true → i = 0 ∨ 2 ≤ i := fun hz => by
          by_cases q0 : i = 0
          · exact .inl q0
          · by_cases q1 : i = 1
            · subst q1
              unfold isNilW at hz
              rw [hw0, hy] at hz
              simp at hz
              rw [hz.1, hz.2] at hb
              simp at hb
            · exact .inr (by omega)
        refine s_if (et_not (et_test (ed_call (ea_cons (vy H5) ea_nil) (rdc_spB (hg y (List.mem_of_getElem? hy)))))) (fun hb2 H6 s6 => ?_) (fun hb2 H6 s6 => ?_)
        · have hny : nameB y = false := by
            have : isName (.str y) = nameB y := rfl
            rw [this] at hb2; simpa using hb2
          refine s_ret (K := K) (F := nn H6) (ed_lst (ea_cons ed_str (ea_cons ed_int (ea_cons (ed_add (ed_var rfl (.int _)) ed_int) ea_nil))) (by show 3 ≤ 100000; decide)) fun u H7 s7 hu => k u H7 (((s04.trans s5).trans s6).trans s7) ?_
          have hz : isNilW ws = false := by
            cases hz : isNilW ws with
            | false => rfl
            | true =>
              rcases hno hz with q | q
              · subst q
                have e : y = "nil" := by
                  unfold isNilW at hz
                  simp at hz
                  rw [hy] at hz; exact Option.some.inj hz.1
                rw [e] at hny; exact absurd hny (by decide +kernel)
              · have := nl hz q; omega
          have e : rk ws n = some (i + 1) := by
            unfold rk
            rw [hz, if_neg (by decide), firstBad_at (s := i) (fun j z hj hz1 => nm j z hj hz1 hz) (fun z hz1 => by rw [hy] at hz1; cases hz1; exact hny) hle]
            show some (0 + i + 1) = _
            congr 1; omega
          rw [e]; exact df_dp hu
        · have hny : nameB y = true := by
            have : isName (.str y) = nameB y := rfl
            rw [this] at hb2; simpa using hb2
          refine ⟨_, _, rfl, (s4.trans s5).trans s6, fun j z hj hz1 hz2 => ?_, fun hz h2 => ?_⟩
          · by_cases q : j = i
            · rw [q, hy] at hz1; cases hz1; exact hny
            · exact nm j z (by omega) hz1 hz2
          · rcases hno hz with q | q
            · omega
            · exact nl hz q
    · rintro σ' H' ⟨o3, o4, rfl, s3, nm, nl⟩
      rw [List.length_map] at nm nl
      refine s_ret (K := K) (F := nn H') (ed_if (et_test (ed_eqI (ed_len (ed_var rfl (dp_df (dl H' s3))) rfl) (ed_int (i := 1)))) (fun hb => ?_) fun hb => ?_) fun u H7 s7 hu => k u H7 ((s12.trans s3).trans s7) (df_dp hu)
      · have hn1 : n = 1 := by
          have := of_decide_eq_true hb
          have e : lenP (.list ((l0 :: Lr).map PyData.str)) = n := by rw [← hn]; exact List.length_map _
          rw [e] at this; omega
        refine ed_is ed_non ?_
        have e : rk ws n = none := by
          unfold rk
          cases hz : isNilW ws with
          | true =>
            have h1 : ws.length ≤ 2 := nl hz (by
              unfold isNilW at hz; simp at hz
              have := (List.getElem?_eq_some_iff.mp hz.2).1; omega)
            have h2 : 2 ≤ ws.length := by
              unfold isNilW at hz; simp at hz
              have := (List.getElem?_eq_some_iff.mp hz.2).1; omega
            rw [if_pos rfl, if_pos ⟨by omega, hn1⟩]
          | false =>
            rw [if_neg (by decide), firstBad_none fun j z hj => nm j z (List.getElem?_eq_some_iff.mp hj).1 hj hz]
            exact if_pos hn1
        rw [e]; rfl
      · have hn1 : n ≠ 1 := by
          have := of_decide_eq_false hb
          have e : lenP (.list ((l0 :: Lr).map PyData.str)) = n := by rw [← hn]; exact List.length_map _
          rw [e] at this; omega
        refine ed_is (ed_lst (ea_cons ed_str (ea_cons ed_int (ea_cons (ed_add (ed_len (ed_var rfl (dp_df (dw H' s3))) rfl) ed_int) ea_nil))) (by show 3 ≤ 100000; decide)) ?_
        have e : rk ws n = some (ws.length + 1) := by
          unfold rk
          cases hz : isNilW ws with
          | true =>
            have h2 : 2 ≤ ws.length := by
              unfold isNilW at hz; simp at hz
              have := (List.getElem?_eq_some_iff.mp hz.2).1; omega
            have h1 : ws.length ≤ 2 := nl hz h2
            rw [if_pos rfl, if_neg fun q => hn1 q.2]
            congr 1; omega
          | false =>
            rw [if_neg (by decide), firstBad_none fun j z hj => nm j z (List.getElem?_eq_some_iff.mp hj).1 hj hz]
            exact if_neg hn1
        have e2 : lenP (.list (ws.map PyData.str)) = ws.length := List.length_map _
        rw [e, e2]; rfl
end
end Ag

set_option Elab.async false
set_option linter.all false
set_option maxRecDepth 100000
set_option maxHeartbeats 1000000
namespace Ag
open PySem PySem.Spec PyProof.Rows L2
section
variable {σ : L2.St} {H : Hp} {te : TE} {xs : List Str}
theorem run_el1 {Q : List V → Hp → Prop} (h : EL te σ H xs) (k : ∀ p H1, Same H H1 → H1 p = some (.lst (xs.map V.str)) → Q [.ref p] H1) : tCons te tNil σ H Q := h H (Same.refl _) _ k
theorem run_el_ret {D : Ends} (h : EL te σ H xs) (k : ∀ p H1, Same H H1 → H1 p = some (.lst (xs.map V.str)) → D.rt (.ref p) H1) : tRet te D σ H := h H (Same.refl _) _ k
end
theorem all_cut {xs : List Str} {lo hi : Option Int} {p : Str → Prop} (h : ∀ x ∈ xs, p x) : ∀ x ∈ cutW xs lo hi, p x := fun x hx => h x (cutW_mem hx)
theorem all_app {xs ys : List Str} {p : Str → Prop} (h : ∀ x ∈ xs, p x) (k : ∀ x ∈ ys, p x) : ∀ x ∈ xs ++ ys, p x := fun x hx => (List.mem_append.mp hx).elim (h x) (k x)
theorem all_one {y : Str} {p : Str → Prop} (h : p y) : ∀ x ∈ [y], p x := fun x hx => by rw [List.mem_singleton.mp hx]; exact h
/-- how long the parts before and behind a place are -/
theorem cutW_to {xs : List Str} {d : Int} (h0 : 0 ≤ d) (h1 : d ≤ xs.length) : (cutW xs none (some d)).length = d.toNat := by
  obtain ⟨j, rfl⟩ : ∃ j : Nat, d = j := ⟨d.toNat, by omega⟩
  unfold cutW
  rw [HT.sIx_none, HT.sIx_nat, List.length_take, List.length_drop]
  simp only [Int.toNat_natCast]; omega
theorem cutW_from {xs : List Str} {d : Int} (h0 : 0 ≤ d) : (cutW xs (some d) none).length = xs.length - d.toNat := by
  obtain ⟨j, rfl⟩ : ∃ j : Nat, d = j := ⟨d.toNat, by omega⟩
  unfold cutW
  rw [HT.sIx_none, HT.sIx_nat, List.length_take, List.length_drop]
  simp only [Int.toNat_natCast]; omega
theorem cutW_one {xs : List Str} {d : Int} (h0 : 0 ≤ d) : (cutW xs (some d) (some (d + 1))).length ≤ 1 := by
  obtain ⟨j, rfl⟩ : ∃ j : Nat, d = j := ⟨d.toNat, by omega⟩
  unfold cutW
  rw [show ((j : Int) + 1) = ((j + 1 : Nat) : Int) from rfl, HT.sIx_nat, HT.sIx_nat, List.length_take, List.length_drop]
  omega
def spBent (K : PySem.W.Frag) : Sp := fun vs H Q _ => ∃ (p c wa ma : Addr) (ws ms : List Str) (n : Nat), vs = [.ref p, .ref wa, .ref ma] ∧ Pen p c n H ∧ H wa = some (.lst (ws.map V.str)) ∧ H ma = some (.lst (ms.map V.str)) ∧ (∀ x ∈ ws, As 40 x) ∧ (∀ x ∈ ms, As 40 x) ∧ ws.length ≤ 100 ∧ ms.length ≤ 100 ∧ n + 1000000 < 1000000000000 ∧
  ∀ (l : Addr) (ys : List Str) H', (∀ x ∈ ys, As 40 x) → ys.length ≤ ws.length + 1 → H' l = some (.lst (ys.map V.str)) → But p H H' → Pen p c (n + 5) H' → Q (.ref l) H'
section
variable {P : Program} {w : World} {K : PySem.W.Frag} {mg : Str → Option Value} {base : Heap} (T : Txt w K mg)
theorem ok_bent : FnOk P w K mg base CX0 3 T.a_law_bent_words T.d_law_bent_words ["pen", "words", "more"] (spBent K) := by
  have G_law_draw := ok_draw (P := P) (base := base) T
  have G_law_pick := ok_pick (P := P) (base := base) T
  refine T.D_law_bent_words.fn.ok sc_law_bent_words (fun vs H Q E h => ?_) (fun cdv A outer s H vs Q E hr h => ?_)
  · obtain ⟨p, c, wa, ma, ws, ms, n, rfl, _⟩ := h; rfl
  · obtain ⟨p, c, wa, ma, ws, ms, n, rfl, hP, hw, hm, aw, am, lw, lm, nb, k⟩ := h
    refine ⟨_, (pss_cons (ps_par (i := 3) (j := 4) (by rfl) sc_law_bent_words.nd rfl rfl (by decide) rfl rfl (pa_cons (pe_call (G_law_draw) (hr.mono (by omega)) (by rfl) T.D_law_draw.mg T.D_law_draw.fn.kp T.D_law_draw.bd .nil pass0 (pa_cons (pv 0) (pa_cons (pe_op op_add (pe_callB call_len (by rfl) T.b_len bt_len (pa_cons (pv 1) pa_nil)) pe_int) pa_nil))) (pa_cons (pe_call (G_law_draw) (hr.mono (by omega)) (by rfl) T.D_law_draw.mg T.D_law_draw.fn.kp T.D_law_draw.bd .nil pass0 (pa_cons (pv 0) (pa_cons pe_int pa_nil))) pa_nil)) (by rfl))
      (pss_cons (ps_set (i := 5) sc_law_bent_words.nd rfl (by first | exact Or.inl rfl | exact Or.inr rfl) (pe_call (G_law_pick) (hr.mono (by omega)) (by rfl) T.D_law_pick.mg T.D_law_pick.fn.kp T.D_law_pick.bd .nil pass0 (pa_cons (pv 0) (pa_cons (pe_op op_cat (pv 2) (pe_lst (pa_cons pe_str (pa_cons pe_str (pa_cons pe_str (pa_cons pe_str (pa_cons pe_str (pa_cons pe_str pa_nil)))))))) pa_nil))))
      (pss_cons (ps_if (PW.pt (pw_or (pt_cmpR op_eq (pv 4) pe_int (nomark _)) (pw_or1 (pt_cmpR op_eq (pv 3) (pe_callB call_len (by rfl) T.b_len bt_len (pa_cons (pv 1) pa_nil)) (nomark _))))) (pss_one (ps_ret (pe_op op_cat (pe_op op_cat (pe_slice sl_list (pv 1) po_none (po_some (pv 3))) (pe_lst (pa_cons (pv 5) pa_nil))) (pe_slice sl_list (pv 1) (po_some (pv 3)) po_none)))) pss_nil)
      (pss_cons (ps_if (pt_cmpR op_eq (pv 4) pe_int (nomark _)) (pss_one (ps_ret (pe_op op_cat (pe_slice sl_list (pv 1) po_none (po_some (pv 3))) (pe_slice sl_list (pv 1) (po_some (pe_op op_add (pv 3) pe_int)) po_none)))) pss_nil)
      (pss_one (ps_ret (pe_op op_cat (pe_op op_cat (pe_slice sl_list (pv 1) po_none (po_some (pv 3))) (pe_ifExp (pt_cmpR op_eq (pv 4) pe_int (nomark _)) (pe_lst (pa_cons (pv 5) pa_nil)) (pe_op op_rep (pe_slice sl_list (pv 1) (po_some (pv 3)) (po_some (pe_op op_add (pv 3) pe_int))) pe_int))) (pe_slice sl_list (pv 1) (po_some (pe_op op_add (pv 3) pe_int)) po_none)))))))), ?_⟩
    have npw : wa ≠ p := hP.ne hw (fun _ z => nomatch z)
    have npm : ma ≠ p := hP.ne hm (fun _ z => nomatch z)
    have hlen : LenV K (.ref wa) H (ws.map V.str).length := .inl ⟨_, SqL.of hw, rfl⟩
    refine ⟨_, rfl, _, rfl, _, _, rfl, hlen, _, _, rfl, rfl, p, c, _, n, rfl, hP, by omega, by rw [List.length_map]; omega, by omega, fun d H1 d0 d1 b1 P1 => ?_⟩
    rw [List.length_map] at d1
    refine ⟨_, rfl, p, c, 4, n + 1, rfl, P1, by decide, by decide, by omega, fun e H2 e0 e1 b2 P2 => ⟨_, _, rfl, ?_⟩⟩
    have b12 := b1.trans b2
    have hm2 := b12 _ _ npm hm
    let σ0 : L2.St := [some (.ref p), some (.ref wa), some (.ref ma), some (.int d), some (.int e), none]
    have hmore : EL (tOp rCat (tVar 2) (tLst (tCons (tC (.str "")) (tCons (tC (.str "A")) (tCons (tC (.str "1a")) (tCons (tC (.str "5")) (tCons (tC (.str "0")) (tCons (tC (.str "01")) tNil)))))))) σ0 H2 (ms ++ (["", "A", "1a", "5", "0", "01"] : List Str)) :=
      el_cat (el_var rfl hm2) (el_lst (K := K) (F := nn H2) (ea_cons ed_str (ea_cons ed_str (ea_cons ed_str (ea_cons ed_str (ea_cons ed_str (ea_cons ed_str ea_nil)))))) (by decide)) (by show ms.length + 6 ≤ 100000; omega)
    have aO : ∀ x ∈ ms ++ (["", "A", "1a", "5", "0", "01"] : List Str), As 40 x := all_app am fun x hx => as_of (by
      have : ∀ x ∈ (["", "A", "1a", "5", "0", "01"] : List Str), asB 40 x = true := by decide +kernel
      exact this x hx)
    refine ⟨_, rfl, run_el1 hmore fun q H3 s3 hq => ⟨p, c, q, _, n + 2, rfl, P2.same s3, .inl (SqL.of hq), ?_, ?_, by omega, fun i v H4 hv b4 P4 => ?_⟩⟩
    · rw [List.length_map, List.length_append]; show 0 < ms.length + 6; omega
    · rw [List.length_map, List.length_append]; show ms.length + 6 < 100000; omega
    obtain ⟨o, ho, rfl⟩ := pick_str hv
    have ao := aO o ho
    have b14 : But p H H4 := b12.trans ((But.of s3).trans b4)
    have hw4 := b14 _ _ npw hw
    obtain ⟨j, rfl⟩ : ∃ j : Nat, d = j := ⟨d.toNat, by omega⟩
    have hj : j ≤ ws.length := by omega
    let σ1 : L2.St := [some (.ref p), some (.ref wa), some (.ref ma), some (.int j), some (.int e), some (.str o)]
    have vw : ∀ {H5}, Same H4 H5 → EL (tVar 1) σ1 H5 ws := fun s5 => el_var rfl (s5 _ _ hw4)
    have vd : ∀ H5, ED K (tVar 3) σ1 (nn H5) H5 (.int (j : Int)) := fun H5 => ed_var rfl (.int _)
    have ve : ∀ H5, ED K (tVar 4) σ1 (nn H5) H5 (.int e) := fun H5 => ed_var rfl (.int _)
    have vo : ∀ H5, ED K (tVar 5) σ1 (nn H5) H5 (.str o) := fun H5 => ed_var rfl (.str _)
    have dw : ∀ {H5}, Same H4 H5 → ED K (tVar 1) σ1 (nn H5) H5 (.list (ws.map .str)) := fun s5 => ed_var rfl (dp_df (.lst (.inl (.inl (s5 _ _ hw4))) (dps_strs ws)))
    have pre : ∀ {H5}, Same H4 H5 → EL (tSl (rSlL K) (tVar 1) tNoPart (tPart (tVar 3))) σ1 H5 (cutW ws none (some (j : Int))) := fun s5 => el_slice (vw s5) eo_none (eo_some (vd _))
    have post1 : ∀ {H5}, Same H4 H5 → EL (tSl (rSlL K) (tVar 1) (tPart (tOp (rI0 fun i j => .int (i + j)) (tVar 3) (tC (.int 1)))) tNoPart) σ1 H5 (cutW ws (some ((j : Int) + 1)) none) := fun s5 => el_slice (vw s5) (eo_some (ed_add (vd _) ed_int)) eo_none
    have one : ∀ {H5}, EL (tLst (tCons (tVar 5) tNil)) σ1 H5 [o] := fun {H5} => el_lst (K := K) (F := nn H5) (ea_cons (vo H5) ea_nil) (by show 1 ≤ 100000; decide)
    have lpre := cutW_to (xs := ws) (d := (j : Int)) (by omega) (by omega)
    have lpost := cutW_from (xs := ws) (d := (j : Int)) (by omega)
    have lpost1 := cutW_from (xs := ws) (d := (j : Int) + 1) (by omega)
    have lone := cutW_one (xs := ws) (d := (j : Int)) (by omega)
    have fin : ∀ {l : Addr} {ys : List Str} {H5 : Hp}, Same H4 H5 → H5 l = some (.lst (ys.map V.str)) → (∀ x ∈ ys, As 40 x) → ys.length ≤ ws.length + 1 → Q (.ref l) H5 := fun s5 hl ha hn => k _ _ _ ha hn hl (b14.trans (.of s5)) ((P4.same s5).more (by omega))
    refine s_if (et_or (et_test (ed_eqI (ve H4) (ed_int (i := 0)))) fun _ => et_test (ed_eqI (vd H4) (ed_len (dw (Same.refl _)) rfl))) (fun hb H5 s5 => ?_) (fun hb H5 s5 => ?_)
    · refine run_el_ret (el_cat (el_cat (pre s5) one ?_) (el_slice (vw s5) (eo_some (vd _)) eo_none) ?_) fun l H6 s6 hl => fin (s5.trans s6) hl (all_app (all_app (all_cut aw) (all_one ao)) (all_cut aw)) ?_
      · show _ + 1 ≤ _; omega
      · rw [List.length_append]; show _ + 1 + _ ≤ _; omega
      · rw [List.length_append, List.length_append]; show _ + 1 + _ ≤ _; omega
    · refine s_if (et_test (ed_eqI (ve H5) (ed_int (i := 1)))) (fun hb2 H6 s6 => ?_) (fun hb2 H6 s6 => ?_)
      · have s56 := s5.trans s6
        refine run_el_ret (el_cat (pre s56) (post1 s56) (by omega)) fun l H7 s7 hl => fin (s56.trans s7) hl (all_app (all_cut aw) (all_cut aw)) ?_
        rw [List.length_append]; omega
      · have s56 := s5.trans s6
        have lz : j < ws.length := by
          have e2 : lenP (.list (ws.map PyData.str)) = ws.length := List.length_map _
          rw [e2] at hb
          simp at hb
          omega
        have mid := el_if (et_test (ed_eqI (ve H6) (ed_int (i := 2)))) (fun _ => one) (fun _ => el_rep2 (K := K) (F := nn H6) (xs := cutW ws (some (j : Int)) (some ((j : Int) + 1))) (el_slice (K := K) (vw s56) (eo_some (vd _)) (eo_some (ed_add (vd _) ed_int))) (ed_int (i := 2)) (by omega))
        have lmid : (if decide (e = 2) = true then [o] else cutW ws (some (j : Int)) (some ((j : Int) + 1)) ++ cutW ws (some (j : Int)) (some ((j : Int) + 1))).length ≤ 2 := by
          split
          · show 1 ≤ 2; decide
          · rw [List.length_append]; omega
        refine run_el_ret (el_cat (el_cat (pre s56) mid (by omega)) (post1 s56) (by rw [List.length_append]; omega)) fun l H7 s7 hl => fin (s56.trans s7) hl (all_app (all_app (all_cut aw) ?_) (all_cut aw)) ?_
        · split
          · exact all_one ao
          · exact all_app (all_cut aw) (all_cut aw)
        · rw [List.length_append, List.length_append]; omega
end
end Ag

set_option Elab.async false
set_option linter.all false
set_option maxRecDepth 100000
set_option maxHeartbeats 1000000
namespace Ag
open PySem PySem.Spec PyProof.Rows L2 LamX
theorem xw_line : (("line" : Str) == ("word" : Str)) = false := by decide +kernel
theorem xd_word {l s : Int} : ([("word", V.int s), ("line", V.int l)] : List (Str × V)).lookup ("word" : Str) = some (V.int s) := rfl
theorem xd_line {l s : Int} : ([("word", V.int s), ("line", V.int l)] : List (Str × V)).lookup ("line" : Str) = some (V.int l) := by
  rw [List.lookup_cons, xw_line]; rfl
/-- what is caught here: a BadText, told as a list; else None -/
def eWhy (B : Addr) (Q : VK) : XK := fun cls d H => ∃ (l s : Int) (dx : Addr), cls = .ref B ∧ d = some dx ∧ H dx = some (.xd [("word", .int s), ("line", .int l)]) ∧ ∀ p H2, Same H H2 → H2 p = some (.lst [.str "text", .int l, .int s]) → Q (.ref p) H2
def TWhy (B : Addr) : (XK → Hp → VK → Prop) → Hp → VK → Prop := fun tl H Q => ∀ Q' : VK, (∀ v H', Q .non H' → Q' v H') → tl (eWhy B Q) H Q'
theorem exm_self {K : PySem.W.Frag} {C : Addr} (x : XfC K C) (o : OexC K C) (s : PySem.W.subIn K (.ref C) (.ref C) = some true) : PySem.W.exmOne K (.ref C) (.ref C) = some true := PySem.W.exm_ref x.exC x.hdC o.tyC s
def tsNo : Addr → Value → Option Addr → TS := fun _ _ _ _ _ _ => False
theorem why_gives {X : Cx} (T : Txt X.w X.K X.mg) {g : Addr} {cdg : Value} {q : Str} :
    GivesTo X ["call", "found", "error"] "_law_why" (defScope s_law_why) g cdg (defBody s_law_why) "call" q (TWhy T.C_BadText) := by
  intro f c' s H Q tl act hc h
  refine ⟨_, pss_cons (ps_set (i := 1) sc_law_why.nd rfl (.inl rfl) pe_non) (pss_cons (ps_try_named
    (l := [⟨.ref T.C_BadText, 2, fun a c d => tAsg (tLst (tCons (tC (.str "text")) (tCons (tXf a c d T.C_BadText "line" (tVar 2)) (tCons (tXf a c d T.C_BadText "word" (tVar 2)) tNil)))) (gName 1)⟩, ⟨.ref T.C_BadNumber, 2, tsNo⟩, ⟨.ref T.C_BadRow, 2, tsNo⟩, ⟨.ref T.C_NoName, 2, tsNo⟩, ⟨.ref T.C_Unlike, 2, tsNo⟩, ⟨.ref T.C_TooMany, 2, tsNo⟩])
    (tb := fun W D σ H => ∃ Ech : XK, (∀ cls d σ' H', Ech cls d H' → W cls d σ' H') ∧ σ[0]? = some (some (.ref f)) ∧ H c' = some (CodeO c' q) ∧ tl Ech H (fun _ H' => D.nx σ H'))
    rfl rfl sc_law_why.nd LamX.takes0 (fun W pn xe tk _ => ?body)
    (.cons ⟨by rfl, by decide, .inl T.g_BadText⟩ rfl rfl (fun a oe c d pn hz hf => pss_one (ps_set (i := 1) sc_law_why.nd rfl (.inl rfl) (pe_lst (pa_cons pe_str (pa_cons (pe_xf (X := (cxOf C8.CX0 X.prog X.w X.K X.mg X.base ["call", "found", "error"] "_law_why" (defScope s_law_why) g cdg X.A X.stack s H C8.E0).nox) T.xf_BadText T.na_BadText_line hz hf (pv 2)) (pa_cons (pe_xf (X := (cxOf C8.CX0 X.prog X.w X.K X.mg X.base ["call", "found", "error"] "_law_why" (defScope s_law_why) g cdg X.A X.stack s H C8.E0).nox) T.xf_BadText T.na_BadText_word hz hf (pv 2)) pa_nil))))))
    (.cons ⟨by rfl, by decide, .inl T.g_BadNumber⟩ rfl rfl (fun a oe c d pn hz hf => pss_never)
    (.cons ⟨by rfl, by decide, .inl T.g_BadRow⟩ rfl rfl (fun a oe c d pn hz hf => pss_never)
    (.cons ⟨by rfl, by decide, .inl T.g_NoName⟩ rfl rfl (fun a oe c d pn hz hf => pss_never)
    (.cons ⟨by rfl, by decide, .inl T.g_Unlike⟩ rfl rfl (fun a oe c d pn hz hf => pss_never)
    (.cons ⟨by rfl, by decide, .inl T.g_TooMany⟩ rfl rfl (fun a oe c d pn hz hf => pss_never) .nil))))))) (pss_one (ps_ret (pv 1)))), ?_⟩
  case body =>
    refine ⟨fun pins s' σ H' D I h' => ?_⟩
    obtain ⟨Ech, hW, h1, h2, h3⟩ := h'
    exact (pss_one (ps_expr (act W pn xe Ech _ _ tk hW))).run pins s' σ H' D I ⟨h1, h2, h3⟩
  · refine ⟨eWhy T.C_BadText Q, fun cls d σ' H' he => ?_, rfl, hc, h _ fun v H' q => ⟨_, rfl, q⟩⟩
    obtain ⟨l, s', dx, rfl, rfl, hdx, k⟩ := he
    refine ⟨true, exm_self T.xf_BadText T.ox_BadText T.sb_BadText, fun _ hl a ha => ?_, fun h => nomatch h⟩
    have hl : σ'.length = 3 := hl
    have e2 : (σ'.set 2 (some (V.ref a)))[2]? = some (some (.ref a)) := List.getElem?_set_self (by omega)
    refine ⟨_, e2, rfl, rfl, dx, _, _, rfl, hdx, xd_line, _, e2, rfl, rfl, dx, _, _, rfl, hdx, xd_word, (by show 3 ≤ sizeLine; decide), fun p hp => ?_⟩
    refine ⟨_, ?_, k p _ (Same.newA hp) upd_same⟩
    show (((σ'.set 2 (some (V.ref a))).set 1 (some (V.ref p))).set 2 none)[1]? = _
    rw [List.getElem?_set_ne (by decide), List.getElem?_set_self (by rw [List.length_set]; omega)]
end Ag

set_option Elab.async false
set_option linter.all false
set_option maxRecDepth 100000
set_option maxHeartbeats 1000000
/-! A word's text read back; a right text written again. -/
namespace Ag
open PySem PySem.Spec PyProof.Rows L2
abbrev firstL (x : Str) : List Str := Txt.split ((Txt.split x "\n").headD "") " "
abbrev rkT (x : Str) : Option Nat := rk (firstL x) (Txt.split x "\n").length
theorem text_back {x : Str} (h : rkT x = none) : lineW (wordOf (firstL x)) = x := by
  have hj := StrLaws.join_split x "\n"
  unfold rkT firstL at h
  unfold firstL
  generalize Txt.split x "\n" = L at hj h
  have hn : L.length = 1 := by
    unfold rk at h
    split at h
    · split at h
      · rename_i q; exact q.2
      · cases h
    · split at h
      · cases h
      · split at h
        · rename_i q; exact q
        · cases h
  match L, hn with
  | [l0], _ =>
    have hx : l0 = x := hj
    subst hx
    have hw := StrLaws.join_split l0 " "
    show lineW (wordOf (Txt.split l0 " ")) = l0
    have h : rk (Txt.split l0 " ") 1 = none := h
    have hp := split_pos l0 " "
    generalize Txt.split l0 " " = ws at h hw hp
    unfold wordOf
    cases hz : isNilW ws with
    | true =>
      have hl : ws.length = 2 := by
        unfold rk at h
        rw [hz, if_pos rfl] at h
        split at h
        · rename_i q; exact q.1
        · cases h
      match ws, hl with
      | [a, b], _ =>
        unfold isNilW at hz
        simp at hz
        rw [hz.1, hz.2] at hw
        rw [if_pos rfl, ← hw]
        decide +kernel
    | false =>
      rw [if_neg (by decide), ← hw]
      cases ws with
      | nil => cases hp
      | cons a r => rfl
theorem nameB_sign {x : Str} (h : nameB x = true) : ∀ c ∈ x.cps.toList, c ≠ 32 ∧ c ≠ 10 := by
  intro c hc
  unfold nameB at h
  have key := List.all_eq_true.mp (Bool.and_eq_true_iff.mp h).2 c hc
  rcases Bool.or_eq_true_iff.mp key with k | k
  · have := of_decide_eq_true k; omega
  · have := of_decide_eq_true k; omega
theorem join_sign {s : Str} : ∀ {xs : List Str} {c : Nat}, c ∈ (Str.join s xs).cps.toList → c ∈ s.cps.toList ∨ ∃ x ∈ xs, c ∈ x.cps.toList
  | [], c, h => absurd h List.not_mem_nil
  | [x], c, h => .inr ⟨x, List.mem_cons_self, h⟩
  | x :: y :: r, c, h => by
    have e : (Str.join s (x :: y :: r)).cps.toList = (x.cps.toList ++ s.cps.toList) ++ (Str.join s (y :: r)).cps.toList := by
      show (x ++ s ++ Str.join s (y :: r)).cps.toList = _
      rw [show (x ++ s ++ Str.join s (y :: r)).cps.toList = (x ++ s).cps.toList ++ (Str.join s (y :: r)).cps.toList from TL.tl_append _ _, show (x ++ s).cps.toList = x.cps.toList ++ s.cps.toList from TL.tl_append _ _]
    rw [e] at h
    rcases List.mem_append.mp h with h | h
    · rcases List.mem_append.mp h with h | h
      · exact .inr ⟨x, List.mem_cons_self, h⟩
      · exact .inl h
    · rcases join_sign h with h | ⟨z, hz, h⟩
      · exact .inl h
      · exact .inr ⟨z, List.mem_cons_of_mem _ hz, h⟩
theorem line_plain {W : List Str} (h : ∀ x ∈ W, nameB x = true) : (10 : Nat) ∉ (lineW W).cps.toList := by
  cases W with
  | nil => decide +kernel
  | cons a r =>
    intro hc
    have hc : (10 : Nat) ∈ (Str.join " " (a :: r)).cps.toList := hc
    rcases join_sign hc with q | ⟨x, hx, q⟩
    · exact absurd q (by decide +kernel)
    · exact (nameB_sign (h x hx) 10 q).2 rfl
theorem split_one {x : Str} (h : (10 : Nat) ∉ x.cps.toList) : Txt.split x "\n" = [x] := by
  have e := TL.split_join (y := "\n") (s := 10) (S := []) (by decide +kernel) (by decide +kernel) (parts := [x]) (by simp) (fun p hp => by rw [List.mem_singleton.mp hp]; exact h)
  rw [TL.join_eq] at e
  exact e
theorem split_line {a : Str} {r : List Str} (h : ∀ x ∈ a :: r, nameB x = true) : Txt.split (Str.join " " (a :: r)) " " = a :: r := by
  have e := TL.split_join (y := " ") (s := 32) (S := []) (by decide +kernel) (by decide +kernel) (parts := a :: r) (by simp) (fun p hp hc => (nameB_sign (h p hp) 32 hc).1 rfl)
  rw [TL.join_eq] at e
  exact e
/-- a word's line is right, and tells the word -/
theorem word_there {W : List Str} (h : ∀ x ∈ W, nameB x = true) : rkT (lineW W) = none ∧ wordOf (firstL (lineW W)) = W := by
  have e := split_one (line_plain h)
  unfold rkT firstL
  rw [e]
  show rk (Txt.split (lineW W) " ") 1 = none ∧ wordOf (Txt.split (lineW W) " ") = W
  cases W with
  | nil =>
    have e2 : Txt.split (lineW []) " " = (["nil", ";"] : List Str) := by
      have e := TL.split_join (y := " ") (s := 32) (S := []) (by decide +kernel) (by decide +kernel) (parts := (["nil", ";"] : List Str)) (by simp) (fun p hp => by
        simp only [List.mem_cons, List.not_mem_nil, or_false] at hp
        rcases hp with rfl | rfl <;> decide +kernel)
      rw [TL.join_eq] at e
      have z : Str.join " " (["nil", ";"] : List Str) = lineW [] := by decide +kernel
      rw [z] at e; exact e
    rw [e2]
    constructor <;> decide +kernel
  | cons a r =>
    have e2 : Txt.split (lineW (a :: r)) " " = a :: r := split_line h
    rw [e2]
    have hz : isNilW (a :: r) = false := by
      unfold isNilW
      cases r with
      | nil => simp
      | cons b t =>
        have hb := h b (by simp)
        have : b ≠ (";" : Str) := fun q => by rw [q] at hb; exact absurd hb (by decide +kernel)
        simp [this]
    unfold rk wordOf
    rw [hz, if_neg (by decide), firstBad_none fun i y hi => h y (List.mem_of_getElem? hi)]
    exact ⟨if_pos rfl, if_neg (by decide)⟩
end Ag

set_option Elab.async false
set_option linter.all false
set_option maxRecDepth 100000
set_option maxHeartbeats 1000000
/-! What the law's own body needs: parts of plain texts, promises as operations. -/
namespace Ag
open PySem PySem.Spec PyProof.Rows L2
theorem join_mem {s : Str} : ∀ {xs : List Str} {x : Str} {c : Nat}, x ∈ xs → c ∈ x.cps.toList → c ∈ (Str.join s xs).cps.toList
  | [], x, c, h, _ => absurd h List.not_mem_nil
  | [z], x, c, h, hc => by rw [List.mem_singleton.mp h] at hc; exact hc
  | z :: y :: r, x, c, h, hc => by
    have e : (Str.join s (z :: y :: r)).cps.toList = (z.cps.toList ++ s.cps.toList) ++ (Str.join s (y :: r)).cps.toList := by
      show (z ++ s ++ Str.join s (y :: r)).cps.toList = _
      rw [show (z ++ s ++ Str.join s (y :: r)).cps.toList = (z ++ s).cps.toList ++ (Str.join s (y :: r)).cps.toList from TL.tl_append _ _, show (z ++ s).cps.toList = z.cps.toList ++ s.cps.toList from TL.tl_append _ _]
    rw [e]
    rcases List.mem_cons.mp h with rfl | h
    · exact List.mem_append_left _ (List.mem_append_left _ hc)
    · exact List.mem_append_right _ (join_mem h hc)
theorem as_split {n : Nat} {x s : Str} (h : As n x) : ∀ y ∈ Txt.split x s, As n y := fun y hy => by
  refine ⟨fun c hc => h.1 c ?_, Nat.le_trans (PyProof.Rows.part_short hy) h.2⟩
  have := join_mem (s := s) hy hc
  rw [StrLaws.join_split] at this; exact this
theorem as_first {n : Nat} {x : Str} (h : As n x) : ∀ y ∈ firstL x, As n y := by
  have : As n ((Txt.split x "\n").headD "") := by
    cases e : Txt.split x "\n" with
    | nil => exact ⟨fun c hc => absurd hc List.not_mem_nil, Nat.zero_le _⟩
    | cons a r => exact as_split h a (by rw [e]; exact List.mem_cons_self)
  exact as_split this
theorem split_lineW {W : List Str} (h : ∀ x ∈ W, nameB x = true) : Txt.split (lineW W) " " = if W = [] then (["nil", ";"] : List Str) else W := by
  cases W with
  | nil =>
    have e := TL.split_join (y := " ") (s := 32) (S := []) (by decide +kernel) (by decide +kernel) (parts := (["nil", ";"] : List Str)) (by simp) (fun p hp => by
      simp only [List.mem_cons, List.not_mem_nil, or_false] at hp
      rcases hp with rfl | rfl <;> decide +kernel)
    rw [TL.join_eq] at e
    have z : Str.join " " (["nil", ";"] : List Str) = lineW [] := by decide +kernel
    rw [z] at e; rw [if_pos rfl]; exact e
  | cons a r => rw [if_neg (by simp)]; exact split_line h
theorem as_line {W : List Str} {n : Nat} (h : ∀ x ∈ W, As n x) (hl : W.length ≤ 12) (hn : n ≤ 40) : As 600 (lineW W) := by
  cases W with
  | nil => exact as_of (by decide +kernel)
  | cons a r =>
    have := as_join (s := " ") (m := 1) (as_of (by decide +kernel)) h
    refine this.more ?_
    have : (a :: r).length * (n + 1) ≤ 12 * 41 := Nat.mul_le_mul hl (by omega)
    omega
theorem strs_shaped {ws : List Str} (h : ∀ x ∈ ws, As 1000 x) (hl : ws.length ≤ 1000) : gd (.tuple (ws.map .str)) = true ∧ SeqAt.shaped (.tuple (ws.map .str)) = true := by
  have g : gd (.tuple (ws.map .str)) = true := by
    simp only [gd, Bool.and_eq_true, decide_eq_true_eq]
    refine ⟨gds_of fun y hy => ?_, by rw [List.length_map]; exact hl⟩
    obtain ⟨x, hx, rfl⟩ := List.mem_map.mp hy
    exact as_gd (h x hx) (Nat.le_refl _)
  refine ⟨g, ?_⟩
  have d := strs_depth ws
  unfold SeqAt.shaped
  rw [gd_lay g]
  have e : (PyData.tuple (ws.map .str)).depth = 1 + PyData.depthAll (ws.map .str) := by rw [PyData.depth]; first | rfl | omega
  rw [Bool.true_and, e]
  exact decide_eq_true (by omega)
section
variable {K : PySem.W.Frag} {σ : L2.St} {F : Addr → Prop} {H : Hp} {te ta tb : TE} {d e : PyData}
theorem ed_val {v : V} (hd : Df K F H v d) : ED K (tC v) σ F H d := fun H1 s Q q => q v H1 (Same.refl _) (df_mono s Fr.base hd)
/-- a promise that tells by Dp of texts' tuples -/
theorem rdc_read {B : Addr} {E : XK} {x : Str} (hx : x.length < 50000) (hg : ∀ y ∈ firstL x, gd (.str y) = true) (h : rkT x = none) : RDC K (fun vs H Q => spOr (spRead K B) (spReadOdd K B) vs H Q E) [.str x] (.tuple ((wordOf (firstL x)).map .str)) := fun F vs H1 hv Q q => by
  obtain _ | ⟨hv, hn⟩ := hv
  cases hn
  cases hv
  exact .inl ⟨_, x, rfl, .str x, hx, hg, (fun k hk => by
    have h : rk (Txt.split ((Txt.split x "\n").headD "") " ") (Txt.split x "\n").length = none := h
    rw [h] at hk; cases hk), fun _ u H' s' hu => q u H' s' (dp_strsF hu)⟩
theorem rdc_text {E : XK} {d : PyData} {xs : List Str} (hd : wordD xs d) (hl : xs.length ≤ 50000) (ha : ∀ x ∈ xs, x.length ≤ 100) : RDC K (fun vs H Q => spText K vs H Q E) [d] (.str (lineW xs)) := fun F vs H1 hv Q q => by
  obtain _ | ⟨hv, hn⟩ := hv
  cases hn
  exact ⟨_, d, xs, rfl, df_dp hv, hd, hl, ha, fun H' s => q _ H' s (.str _)⟩
theorem rdc_pre {E : XK} {d e : PyData} {xs ys : List Str} (hd : wordD xs d) (hl : xs.length ≤ 50000) (he : wordD ys e) (hm : ys.length ≤ 50000) : RDC K (fun vs H Q => spPre K vs H Q E) [d, e] (.bool (befW xs ys)) := fun F vs H1 hv Q q => by
  obtain _ | ⟨hv, hn⟩ := hv
  obtain _ | ⟨hu, hn⟩ := hn
  cases hn
  exact ⟨_, _, d, e, xs, ys, rfl, df_dp hv, hd, hl, df_dp hu, he, hm, fun H' s => q _ H' s (.bl _)⟩
theorem rdc_same0 {E : XK} {b : Bool} : RDC K (fun vs H Q => spSame0 K vs H Q E) [.bool b, .bool b] (.bool true) := fun F vs H1 hv Q q => by
  obtain _ | ⟨hv, hn⟩ := hv
  obtain _ | ⟨hu, hn⟩ := hn
  cases hn
  exact ⟨_, _, .bool b, rfl, df_dp hv, df_dp hu, rfl, fun H' s => q _ H' s (.bl _)⟩
theorem rdc_orB {E : XK} {sp' : Sp} {f : PyData → Bool} {d : PyData} (hp : gd d = true) : RDC K (fun vs H Q => spOr (spB K (fun d => gd d = true) f) sp' vs H Q E) [d] (.bool (f d)) := fun F vs H1 hv Q q => .inl (rdc_spB (E := E) (pre := fun d => gd d = true) (f := f) hp F vs H1 hv Q q)
/-- the empty dict given to a promise that answers False -/
theorem ed_dictF {E : XK} {sp : Sp} {i : Nat} {a : Addr} (h : σ[i]? = some (some (.ref a))) (ha : H a = some (.dK [])) : ED K (tCall (spOr sp spDictF) [] E (tCons (tVar i) tNil)) σ F H (.bool false) := fun H1 s Q q =>
  ⟨_, h, .inr ⟨a, rfl, s _ _ ha, fun H' s' => q _ H' s' (.bl _)⟩⟩
theorem el_split {a b : Str} (ho : ED K ta σ F H (.str a)) (he : ED K tb σ F H (.str b)) (hb : (b.length == 0) = false) (hl : a.length ≤ 50000) :
    EL (tM1 (fun x xs H Q => ∃ a b, x = .str a ∧ xs = [.str b] ∧ (b.length == 0) = false ∧ a.length + 2 ≤ sizeLine ∧ rNewStrs (Txt.split a b) H Q) ta tb) σ H (Txt.split a b) := fun H1 s Q q =>
  ho H1 s _ fun v H2 s2 hv => by
    cases hv
    refine ⟨⟨a, rfl⟩, he H2 (s.trans s2) _ fun u H3 s3 hu => ?_⟩
    cases hu
    exact ⟨a, b, rfl, rfl, hb, small5 (by omega), fun l hn => q l _ ((s2.trans s3).trans (Same.newA hn)) upd_same⟩
theorem el_listOf {xs : List Str} (h : ED K te σ F H (.tuple (xs.map .str))) : EL (tCB (fun xs H Q => ∃ p ys, xs = [.ref p] ∧ (SqL K H p ys ∨ SqT K H p ys) ∧ ∀ l, H l = none → Q (.ref l) (upd H l (.lst ys))) (tCons te tNil)) σ H xs := fun H1 s Q q =>
  h H1 s _ fun v H2 s2 hv => by
    cases hv with
    | tup ht r =>
      have e := strs_dps (dfs_dps r)
      subst e
      exact ⟨_, _, rfl, .inr ht, fun l hn => q l _ (s2.trans (Same.newA hn)) upd_same⟩
end
section
variable {K : PySem.W.Frag} {σ : L2.St} {F : Addr → Prop} {H : Hp} {te ta tb : TE} {d e : PyData}
theorem run_ed {Q : VK} (h : ED K te σ F H d) (k : ∀ v H1, Same H H1 → Df K (Fr F H) H1 v d → Q v H1) : te σ H Q := h H (Same.refl _) Q k
theorem run_edc {tr : TA} {Q : List V → Hp → Prop} (h : ED K te σ F H d) (k : ∀ v H1, Same H H1 → Df K (Fr F H) H1 v d → tr σ H1 fun vs H2 => Q (v :: vs) H2) : tCons te tr σ H Q := h H (Same.refl _) _ k
/-- the first part of a sum of three, as an argument -/
theorem run_cat2 {r r2 : R2} {tc : TE} {tr : TA} {Q : List V → Hp → Prop} (h : ED K ta σ F H d) (k : ∀ v H1, Same H H1 → Df K (Fr F H) H1 v d → tb σ H1 fun y H2 => r2 v y H2 fun z H3 => tc σ H3 fun u H4 => r z u H4 fun x H5 => tr σ H5 fun vs H6 => Q (x :: vs) H6) :
    tCons (tOp r (tOp r2 ta tb) tc) tr σ H Q := h H (Same.refl _) _ k
theorem run_catT {v y : V} {xs ys : List PyData} {Q : VK} (hv : Df K F H v (.tuple xs)) (hy : Df K F H y (.tuple ys)) (hl : xs.length + ys.length ≤ 100000) (k : ∀ z H1, Same H H1 → Df K (Fr F H) H1 z (.tuple (xs ++ ys)) → Q z H1) : rCatA K v y H Q :=
  ed_catT (σ := []) (ed_val hv) (ed_val hy) hl H (Same.refl _) Q k
theorem cutD_map (xs : List Str) (lo hi : Option Int) : cutD (xs.map PyData.str) lo hi = (cutW xs lo hi).map .str := by
  unfold cutD cutW; rw [List.length_map, List.map_take, List.map_drop]
theorem df_strs {v : V} {xs : List Str} {G : Addr → Prop} (h : Df K F H v (.tuple (xs.map .str))) : Df K G H v (.tuple (xs.map .str)) := dp_strsF (df_dp h)
end
theorem shownAll_strs : ∀ {ws : List Str}, (∀ x ∈ ws, As 100 x) → PyData.showableAll (ws.map .str) = true ∧ (PyData.shownAll (ws.map .str)).length = ws.length ∧ ((PyData.shownAll (ws.map .str)).map (·.length)).sum ≤ 1002 * ws.length
  | [], _ => by simp [PyData.showableAll, PyData.shownAll]
  | x :: r, h => by
    obtain ⟨i1, i2, i3⟩ := shownAll_strs fun y hy => h y (List.mem_cons_of_mem _ hy)
    have hx := h x List.mem_cons_self
    have l := StrLaws.reprText_len x fun c hc => by have := hx.1 c hc; omega
    have l2 := hx.2
    have e1 : PyData.shownAll ((x :: r).map .str) = reprText x :: PyData.shownAll (r.map .str) := by
      rw [List.map_cons, PyData.shownAll, PyData.shown]
    refine ⟨?_, ?_, ?_⟩
    · rw [List.map_cons, PyData.showableAll, i1, PyData.showable]; rfl
    · rw [e1, List.length_cons, i2, List.length_cons]
    · rw [e1, List.map_cons, List.sum_cons, List.length_cons]; omega
theorem shown_strs {ws : List Str} (h : ∀ x ∈ ws, As 100 x) (hl : ws.length ≤ 50) : (PyData.tuple (ws.map .str)).showable = true ∧ (PyData.tuple (ws.map .str)).depth ≤ 50 ∧ (PyData.tuple (ws.map .str)).shown.length ≤ sizeLine := by
  obtain ⟨i1, i2, i3⟩ := shownAll_strs h
  have d := strs_depth ws
  refine ⟨by rw [PyData.showable]; exact i1, ?_, ?_⟩
  · have e : (PyData.tuple (ws.map .str)).depth = 1 + PyData.depthAll (ws.map .str) := by rw [PyData.depth]; first | rfl | omega
    omega
  · rw [PyData.shown]
    have := tupleText_len_le (PyData.shownAll (ws.map .str))
    exact small5 (by omega)
section
variable {P : Program} {w : World} {K : PySem.W.Frag} {mg : Str → Option Value} {base : Heap} (T : Txt w K mg)
theorem ok_word_read_x : FnOk P w K mg base (L2.CX P w) 6 T.a_word_read T.d_word_read ["text"] (spOr (spRead K T.C_BadText) (spReadOdd K T.C_BadText)) := fn_or (ok_word_read T) (ok_word_read_odd T)
end
theorem whyD_sh (r : Option Nat) : SeqAt.shaped (whyD r) = true ∧ PyData.eqv (whyD r) (whyD r) = true := by
  cases r with
  | none => exact ⟨by decide, by simp [whyD, PyData.eqv]⟩
  | some k =>
    have h : (Str.ofString "text").cps.all (· < 0x110000) = true := by decide +kernel
    refine ⟨?_, by simp [whyD, PyData.eqv, PyData.eqvAll]⟩
    have e : (whyD (some k)).canLay0 = true := gd_lay (by
      show (gd (.str "text") && (gd (.int 1) && (gd (.int k) && true))) && decide (3 ≤ 1000) = true
      rw [as_gd (as_of (n := 20) (by decide +kernel)) (by decide)]; rfl)
    unfold SeqAt.shaped
    rw [e]; simp [whyD, PyData.depth, PyData.depthAll]
theorem firstBad_all : ∀ {ws : List Str} {k : Nat}, firstBad ws k = none → ∀ x ∈ ws, nameB x = true
  | [], _, _, x, h => absurd h List.not_mem_nil
  | y :: ws, k, e, x, h => by
    unfold firstBad at e
    split at e
    · rename_i hy
      rcases List.mem_cons.mp h with rfl | h
      · exact hy
      · exact firstBad_all e x h
    · cases e
theorem word_short {X : Str} (h : rkT X = none) : ∀ x ∈ wordOf (firstL X), x.length ≤ 100 := by
  intro x hx
  unfold wordOf at hx
  split at hx
  · cases hx
  · rename_i hz
    have e : firstBad (firstL X) 0 = none := by
      unfold rkT rk at h
      rw [if_neg hz] at h
      split at h
      · cases h
      · assumption
    have hn := firstBad_all e x hx
    unfold nameB at hn
    simp only [Bool.and_eq_true, decide_eq_true_eq] at hn
    have := hn.1.1.2; omega
theorem word_few {X : Str} (h : X.length < 50000) : (wordOf (firstL X)).length ≤ 50000 := by
  unfold wordOf
  split
  · exact Nat.zero_le _
  · have := split_weight ((Txt.split X "\n").headD "") " " (by decide)
    have h2 : ((Txt.split X "\n").headD "").length ≤ X.length := by
      cases e : Txt.split X "\n" with
      | nil => exact Nat.zero_le _
      | cons a r => exact PyProof.Rows.part_short (by rw [e]; exact List.mem_cons_self)
    show (Txt.split ((Txt.split X "\n").headD "") " ").length ≤ _
    omega
/-- where a BadText tells to be wrong, or nothing -/
def whyR : Option (Int × Int) → PyData | none => .none | some (l, s) => .list [.str "text", .int l, .int s]
theorem whyR_sh (l s : Int) : SeqAt.shaped (whyR (some (l, s))) = true ∧ PyData.eqv (whyR (some (l, s))) (whyR (some (l, s))) = true := by
  refine ⟨?_, by simp [whyR, PyData.eqv, PyData.eqvAll]⟩
  have e : (whyR (some (l, s))).canLay0 = true := gd_lay (by
    show (gd (.str "text") && (gd (.int l) && (gd (.int s) && true))) && decide (3 ≤ 1000) = true
    rw [as_gd (as_of (n := 20) (by decide +kernel)) (by decide)]; rfl)
  unfold SeqAt.shaped
  rw [e]; simp [whyR, PyData.depth, PyData.depthAll]
section
open LamX
variable {K : PySem.W.Frag} {σ : L2.St} {H : Hp} {te tv : TE} {B : Addr} {Tb : List (Addr × Str)} {sp : Sp} {v : V} {rr : Option (Int × Int)}
theorem run_why {Q : VK} (tabs : Tabs Tb H) (hte : ∀ H' (Q : VK), Q v H' → te σ H' Q)
    (hp : ∀ H1, ExtN H H1 → ∀ (Q' : VK) (E : XK), (rr = none → ∀ u H', Same H1 H' → Q' u H') → (∀ l s, rr = some (l, s) → BadAt B l s H1 E) → sp [v] H1 Q' E)
    (k : ∀ u H', ExtN H H' → Tabs Tb H' → Dp K H' u (whyR rr) → Q u H') : tLam Tb (TWhy B) (fun E => tCall sp [] E (tCons te tNil)) σ H Q :=
  ⟨tabs, fun H1 ext T1 Q' hQ' => hte H1 _ (hp H1 ext Q' _ (fun e u H' s' => hQ' u H' (k .non H' (ext.trans (ExtN.of s')) (T1.ext s') (by rw [e]; exact .non)))
    (fun l s e d H' s' hd e' => ⟨l, s, d, rfl, rfl, e', fun p2 H2 s2 hp2 => k (.ref p2) H2 (ext.trans (ExtN.of (s'.trans s2))) (T1.ext (s'.trans s2)) (by
      rw [e]; exact .lst (.inl (.inl hp2)) (.cons (.str _) (.cons (.int _) (.cons (.int _) .nil))))⟩))⟩
theorem run_ifwhy {r : R2} {tu tw : TS} {D : Ends} (tabs : Tabs Tb H) (hte : ∀ H' (Q : VK), Q v H' → te σ H' Q)
    (hp : ∀ H1, ExtN H H1 → ∀ (Q' : VK) (E : XK), (rr = none → ∀ u H', Same H1 H' → Q' u H') → (∀ l s, rr = some (l, s) → BadAt B l s H1 E) → sp [v] H1 Q' E)
    (k : ∀ u H', ExtN H H' → Tabs Tb H' → Dp K H' u (whyR rr) → tTest (fun σ H Q => tv σ H fun y H2 => r u y H2 Q) σ H' fun b H1 => if b = true then tu D σ H1 else tw D σ H1) :
    tIfS (tTest (tOp r (tLam Tb (TWhy B) (fun E => tCall sp [] E (tCons te tNil))) tv)) tu tw D σ H := run_why (K := K) tabs hte hp k
theorem run_retwhy {r : R2} {D : Ends} (tabs : Tabs Tb H) (hte : ∀ H' (Q : VK), Q v H' → te σ H' Q)
    (hp : ∀ H1, ExtN H H1 → ∀ (Q' : VK) (E : XK), (rr = none → ∀ u H', Same H1 H' → Q' u H') → (∀ l s, rr = some (l, s) → BadAt B l s H1 E) → sp [v] H1 Q' E)
    (k : ∀ u H', ExtN H H' → Tabs Tb H' → Dp K H' u (whyR rr) → tv σ H' fun y H2 => r u y H2 D.rt) :
    tRet (tOp r (tLam Tb (TWhy B) (fun E => tCall sp [] E (tCons te tNil))) tv) D σ H := run_why (K := K) tabs hte hp k
theorem run_el_set {i : Nat} {D : Ends} {xs : List Str} (h : EL te σ H xs) (k : ∀ p H1, Same H H1 → H1 p = some (.lst (xs.map V.str)) → D.nx (σ.set i (some (.ref p))) H1) : tAsg te (gName i) D σ H := h H (Same.refl _) _ k
end
end Ag

set_option Elab.async false
set_option linter.all false
set_option maxRecDepth 100000
set_option maxHeartbeats 2000000
set_option pp.maxSteps 300
namespace Ag
open PySem PySem.Spec PyProof.Rows L2 LamX
/-- the one table, and the name that its code objects bear -/
def TB1 (tb : Addr) : List (Addr × Str) := [(tb, (envOfC "law" (defScope s_law) 0 0 (.ref 0)).qual ++ "<lambda>")]
section
variable {P : Program} {w : World} {K : PySem.W.Frag} {mg : Str → Option Value} {base : Heap} (T : Txt w K mg)
theorem law_runs {cc tb a : Addr} {zs : List Int} {s : Shared} {H : Hp} (hcode : T.d_law.code = .ref cc) (hTB : TabB base mg cc tb) (hT : H tb = some (.tbl #[])) (hs : SqL K H a (zs.map V.int)) (hl : zs.length ≤ 63) (e0 : Env0 P w K mg base callerA [] s H) :
    codeAny (model P w) callerA (.call (.ref T.a_law) ⟨[.ref a], []⟩) (CR CX0 [] P w H s (fun v _ => v = .bl true) fun _ _ _ => False) s := by
  have G_law_pen := ok_law_pen (P := P) (base := base) T
  have G_law_calls := ok_calls (P := P) (base := base) T
  have G_law_draw := ok_draw (P := P) (base := base) T
  have G_law_pick := ok_pick (P := P) (base := base) T
  have G_law_odd_name := ok_odd_name (P := P) (base := base) T
  have G_law_same := ok_law_same0 (P := P) (base := base) T
  have G_is_name := ok_is_name (P := P) (base := base) T
  have G_law_is_name := ok_law_is_name (P := P) (base := base) T
  have G_law_some_word := ok_some_word (P := P) (base := base) T
  have G_precedes := ok_precedes (P := P) (w := w) (mg := mg) (base := base) T
  have G_law_before := ok_law_before (P := P) (w := w) (mg := mg) (base := base) T
  have G_is_word := ok_is_word_x (P := P) (base := base) T
  have G_law_is_word := ok_law_is_word (P := P) (base := base) T
  have G_word_text := ok_word_text (P := P) (base := base) T
  have G_word_read := ok_word_read_x (P := P) (base := base) T
  have G_law_bent_words := ok_bent (P := P) (base := base) T
  have G_law_first_wrong := ok_first_wrong (P := P) (base := base) T
  obtain ⟨oc, od, kV, doc, pm, an, cdv, ct, osl, efd, lk, hcd⟩ := T.D_law.fn.ex
  obtain ⟨oc', od', kV', doc', pm', an', cdv', ct', osl', efw, lkw, hcw⟩ := T.D_law_why.fn.ex
  have LK := lkw
  rw [efw] at LK
  have BW := T.D_law_why.bd
  rw [efw] at BW
  have BL := T.D_law.bd
  rw [efd] at BL lk hcode
  have hcode : cdv = .ref cc := hcode
  subst hcode
  have kIn : K.In s.heap := e0.mod.kin.keeps fun b o e => (e0.bs b o e).1
  have rm : Room 12 callerA := ⟨rfl, by decide +kernel, by decide +kernel⟩
  refine run_ofS (N := ["script", "pen", "lap", "calls", "name", "word", "at", "other", "value", "text", "words", "turn", "bent", "due", "odd"]) (vs := [.ref a]) (us := [.ref a]) lk hcd sc_law rm e0 (BL s [.ref a] kIn rfl) (.cons rfl .nil) rfl fun hr => ?_
  refine ⟨_, (pss_cons (ps_set (i := 1) sc_law.nd rfl (by first | exact Or.inl rfl | exact Or.inr rfl) (pe_call (G_law_pen) (hr.mono (by omega)) (by rfl) T.D_law_pen.mg T.D_law_pen.fn.kp T.D_law_pen.bd .nil pass0 (pa_cons (pv 0) pa_nil)))
      (pss_cons (ps_for (passes_of rfl) rfl (pi_range1 (by rfl) T.b_range (pa_cons pe_int pa_nil)) (pg_name (i := 2) sc_law.nd rfl (by first | exact Or.inl rfl | exact Or.inr rfl)) (pss_cons (ps_set (i := 3) sc_law.nd rfl (by first | exact Or.inl rfl | exact Or.inr rfl) (pe_call (G_law_calls) (hr.mono (by omega)) (by rfl) T.D_law_calls.mg T.D_law_calls.fn.kp T.D_law_calls.bd .nil pass0 (pa_cons (pv 1) (pa_cons (pe_op op_add pe_int (pe_call (G_law_draw) (hr.mono (by omega)) (by rfl) T.D_law_draw.mg T.D_law_draw.fn.kp T.D_law_draw.bd .nil pass0 (pa_cons (pv 1) (pa_cons pe_int pa_nil)))) pa_nil))))
      (pss_cons (ps_set (i := 4) sc_law.nd rfl (by first | exact Or.inl rfl | exact Or.inr rfl) (pe_call (G_law_pick) (hr.mono (by omega)) (by rfl) T.D_law_pick.mg T.D_law_pick.fn.kp T.D_law_pick.bd .nil pass0 (pa_cons (pv 1) (pa_cons (pe_lst (pa_cons (pe_ix ix_seq (pv 3) pe_int (fun _ _ => rfl)) (pa_cons pe_str (pa_cons (pe_op op_repS pe_str pe_int) (pa_cons pe_str (pa_cons (pe_call (G_law_odd_name) (hr.mono (by omega)) (by rfl) T.D_law_odd_name.mg T.D_law_odd_name.fn.kp T.D_law_odd_name.bd .nil pass0 (pa_cons (pv 1) (pa_cons (pe_ix ix_seq (pv 3) pe_int (fun _ _ => rfl)) pa_nil))) (pa_cons (pe_call (G_law_odd_name) (hr.mono (by omega)) (by rfl) T.D_law_odd_name.mg T.D_law_odd_name.fn.kp T.D_law_odd_name.bd .nil pass0 (pa_cons (pv 1) (pa_cons (pe_ix ix_seq (pv 3) (pe_un un_neg pe_int) (fun _ _ => rfl)) pa_nil))) pa_nil))))))) pa_nil))))
      (pss_cons (ps_if (pt_not (pt_val (pe_call (G_law_same) (hr.mono (by omega)) (by rfl) T.D_law_same.mg T.D_law_same.fn.kp T.D_law_same.bd .nil pass0 (pa_cons (pe_call (G_is_name) (hr.mono (by omega)) (by rfl) T.D_is_name.mg T.D_is_name.fn.kp T.D_is_name.bd .nil pass0 (pa_cons (pv 4) pa_nil)) (pa_cons (pe_call (G_law_is_name) (hr.mono (by omega)) (by rfl) T.D_law_is_name.mg T.D_law_is_name.fn.kp T.D_law_is_name.bd .nil pass0 (pa_cons (pv 4) pa_nil)) pa_nil))))) (pss_one (ps_ret pe_bl)) pss_nil)
      (pss_cons (ps_set (i := 5) sc_law.nd rfl (by first | exact Or.inl rfl | exact Or.inr rfl) (pe_call (G_law_some_word) (hr.mono (by omega)) (by rfl) T.D_law_some_word.mg T.D_law_some_word.fn.kp T.D_law_some_word.bd .nil pass0 (pa_cons (pv 1) (pa_cons (pv 3) (pa_cons pe_int pa_nil)))))
      (pss_cons (ps_set (i := 6) sc_law.nd rfl (by first | exact Or.inl rfl | exact Or.inr rfl) (pe_call (G_law_draw) (hr.mono (by omega)) (by rfl) T.D_law_draw.mg T.D_law_draw.fn.kp T.D_law_draw.bd .nil pass0 (pa_cons (pv 1) (pa_cons (pe_op op_add (pe_callB call_len (by rfl) T.b_len bt_len (pa_cons (pv 5) pa_nil)) pe_int) pa_nil))))
      (pss_cons (ps_set (i := 7) sc_law.nd rfl (by first | exact Or.inl rfl | exact Or.inr rfl) (pe_call (G_law_pick) (hr.mono (by omega)) (by rfl) T.D_law_pick.mg T.D_law_pick.fn.kp T.D_law_pick.bd .nil pass0 (pa_cons (pv 1) (pa_cons (pe_lst (pa_cons (pv 5) (pa_cons (pe_slice sl_tupA (pv 5) po_none (po_some (pv 6))) (pa_cons (pe_op op_catA (pe_op op_catA (pe_slice sl_tupA (pv 5) po_none (po_some (pv 6))) (pe_tup (pa_cons (pe_call (G_law_pick) (hr.mono (by omega)) (by rfl) T.D_law_pick.mg T.D_law_pick.fn.kp T.D_law_pick.bd .nil pass0 (pa_cons (pv 1) (pa_cons (pv 3) pa_nil))) pa_nil))) (pe_slice sl_tupA (pv 5) (po_some (pe_op op_add (pv 6) pe_int)) po_none)) (pa_cons (pe_call (G_law_some_word) (hr.mono (by omega)) (by rfl) T.D_law_some_word.mg T.D_law_some_word.fn.kp T.D_law_some_word.bd .nil pass0 (pa_cons (pv 1) (pa_cons (pv 3) (pa_cons pe_int pa_nil)))) pa_nil))))) pa_nil))))
      (pss_cons (ps_if (pt_not (pt_val (pe_call (G_law_same) (hr.mono (by omega)) (by rfl) T.D_law_same.mg T.D_law_same.fn.kp T.D_law_same.bd .nil pass0 (pa_cons (pe_call (G_precedes) (hr.mono (by omega)) (by rfl) T.D_precedes.mg T.D_precedes.fn.kp T.D_precedes.bd .nil pass0 (pa_cons (pv 5) (pa_cons (pv 7) pa_nil))) (pa_cons (pe_cmpR (op_ltD hr.units) (pe_call (G_law_before) (hr.mono (by omega)) (by rfl) T.D_law_before.mg T.D_law_before.fn.kp T.D_law_before.bd .nil pass0 (pa_cons (pv 5) pa_nil)) (pe_call (G_law_before) (hr.mono (by omega)) (by rfl) T.D_law_before.mg T.D_law_before.fn.kp T.D_law_before.bd .nil pass0 (pa_cons (pv 7) pa_nil)) (nomark _)) pa_nil))))) (pss_one (ps_ret pe_bl)) pss_nil)
      (pss_cons (ps_if (pt_not (pt_val (pe_call (G_law_same) (hr.mono (by omega)) (by rfl) T.D_law_same.mg T.D_law_same.fn.kp T.D_law_same.bd .nil pass0 (pa_cons (pe_call (G_precedes) (hr.mono (by omega)) (by rfl) T.D_precedes.mg T.D_precedes.fn.kp T.D_precedes.bd .nil pass0 (pa_cons (pe_callTy call_list_of (by rfl) T.b_list bt_list (pa_cons (pv 7) pa_nil)) (pa_cons (pv 5) pa_nil))) (pa_cons (pe_cmpR (op_ltD hr.units) (pe_call (G_law_before) (hr.mono (by omega)) (by rfl) T.D_law_before.mg T.D_law_before.fn.kp T.D_law_before.bd .nil pass0 (pa_cons (pv 7) pa_nil)) (pe_call (G_law_before) (hr.mono (by omega)) (by rfl) T.D_law_before.mg T.D_law_before.fn.kp T.D_law_before.bd .nil pass0 (pa_cons (pv 5) pa_nil)) (nomark _)) pa_nil))))) (pss_one (ps_ret pe_bl)) pss_nil)
      (pss_cons (ps_for (passes_of rfl) rfl (pi_list (pe_lst (pa_cons (pv 5) (pa_cons (pv 7) (pa_cons (pe_callTy call_list_of (by rfl) T.b_list bt_list (pa_cons (pv 5) pa_nil)) (pa_cons pe_non (pa_cons pe_int (pa_cons (pe_ix ix_seq (pv 3) pe_int (fun _ _ => rfl)) (pa_cons (pe_op op_catA (pv 5) (pe_tup (pa_cons (pe_call (G_law_odd_name) (hr.mono (by omega)) (by rfl) T.D_law_odd_name.mg T.D_law_odd_name.fn.kp T.D_law_odd_name.bd .nil pass0 (pa_cons (pv 1) (pa_cons (pe_ix ix_seq (pv 3) pe_int (fun _ _ => rfl)) pa_nil))) pa_nil))) (pa_cons (pe_tup (pa_cons pe_non pa_nil)) (pa_cons pe_dnewK pa_nil))))))))))) (pg_name (i := 8) sc_law.nd rfl (by first | exact Or.inl rfl | exact Or.inr rfl)) (pss_one (ps_if (pt_not (pt_val (pe_call (G_law_same) (hr.mono (by omega)) (by rfl) T.D_law_same.mg T.D_law_same.fn.kp T.D_law_same.bd .nil pass0 (pa_cons (pe_call (G_is_word) (hr.mono (by omega)) (by rfl) T.D_is_word.mg T.D_is_word.fn.kp T.D_is_word.bd .nil pass0 (pa_cons (pv 8) pa_nil)) (pa_cons (pe_call (G_law_is_word) (hr.mono (by omega)) (by rfl) T.D_law_is_word.mg T.D_law_is_word.fn.kp T.D_law_is_word.bd .nil pass0 (pa_cons (pv 8) pa_nil)) pa_nil))))) (pss_one (ps_ret pe_bl)) pss_nil)))
      (pss_cons (ps_set (i := 9) sc_law.nd rfl (by first | exact Or.inl rfl | exact Or.inr rfl) (pe_ifExp (pt_cmpR (op_neD hr.units) (pv 5) (pe_tup pa_nil) (nomark _)) (pe_join pe_str (pv 5)) pe_str))
      (pss_cons (ps_if (PW.pt (pw_or (pt_cmpR op_ne (pe_call (G_word_text) (hr.mono (by omega)) (by rfl) T.D_word_text.mg T.D_word_text.fn.kp T.D_word_text.bd .nil pass0 (pa_cons (pv 5) pa_nil)) (pv 9) (nomark _)) (pw_or (pt_cmpR op_ne (pe_call (G_word_text) (hr.mono (by omega)) (by rfl) T.D_word_text.mg T.D_word_text.fn.kp T.D_word_text.bd .nil pass0 (pa_cons (pe_callTy call_list_of (by rfl) T.b_list bt_list (pa_cons (pv 5) pa_nil)) pa_nil)) (pv 9) (nomark _)) (pw_or1 (pt_cmpR op_ne (pe_callB (cr_repr rfl hr.units) (by rfl) T.b_repr bt_repr (pa_cons (pe_call (G_word_read) (hr.mono (by omega)) (by rfl) T.D_word_read.mg T.D_word_read.fn.kp T.D_word_read.bd .nil (passes_call LamX.takes0 fun _ _ _ _ z => z) (pa_cons (pv 9) pa_nil)) pa_nil)) (pe_callB (cr_repr rfl hr.units) (by rfl) T.b_repr bt_repr (pa_cons (pv 5) pa_nil)) (nomark _)))))) (pss_one (ps_ret pe_bl)) pss_nil)
      (pss_cons (ps_set (i := 10) sc_law.nd rfl (by first | exact Or.inl rfl | exact Or.inr rfl) (pe_split (pv 9) pe_str))
      (pss_one (ps_for (passes_of rfl) rfl (pi_range1 (by rfl) T.b_range (pa_cons pe_int pa_nil)) (pg_name (i := 11) sc_law.nd rfl (by first | exact Or.inl rfl | exact Or.inr rfl)) (pss_cons (ps_set (i := 10) sc_law.nd rfl (by first | exact Or.inl rfl | exact Or.inr rfl) (pe_call (G_law_bent_words) (hr.mono (by omega)) (by rfl) T.D_law_bent_words.mg T.D_law_bent_words.fn.kp T.D_law_bent_words.bd .nil pass0 (pa_cons (pv 1) (pa_cons (pv 10) (pa_cons (pe_op op_cat (pe_callTy call_list_of (by rfl) T.b_list bt_list (pa_cons (pv 3) pa_nil)) (pe_lst (pa_cons pe_str (pa_cons pe_str (pa_cons pe_str (pa_cons (pe_op op_add_str (pe_op op_add_str (pe_ix ix_seq (pv 3) pe_int (fun _ _ => rfl)) pe_str) (pe_ix ix_seq (pv 3) pe_int (fun _ _ => rfl))) pa_nil)))))) pa_nil)))))
      (pss_cons (ps_set (i := 12) sc_law.nd rfl (by first | exact Or.inl rfl | exact Or.inr rfl) (pe_join pe_str (pv 10)))
      (pss_cons (ps_set (i := 13) sc_law.nd rfl (by first | exact Or.inl rfl | exact Or.inr rfl) (pe_call (G_law_first_wrong) (hr.mono (by omega)) (by rfl) T.D_law_first_wrong.mg T.D_law_first_wrong.fn.kp T.D_law_first_wrong.bd .nil pass0 (pa_cons (pv 12) pa_nil)))
      (pss_cons (ps_if (pt_cmpR (op_neD hr.units) (pe_lamcall (T := TB1 tb) (P := tb) (c := cc) (k := 6) (by rfl) T.D_law_why.mg T.D_law_why.fn.kp LK hcw BW sc_law_why rfl (.inl rfl) (why_gives T) hTB rfl (List.mem_singleton.mpr rfl) (fun q hq _ => by rw [List.mem_singleton.mp hq]; rfl) (hr.mono (by omega)) (lamS_by (sc := defScope s_law) (by decide +kernel)) rfl (fun _ _ _ _ _ => rfl) (fun A outer s H E f c' hr => pe_call G_word_read (hr.mono (by omega)) (by rfl) T.D_word_read.mg T.D_word_read.fn.kp T.D_word_read.bd .nil (passes_call (takes_of rfl rfl rfl rfl) fun _ _ _ _ z => z) (pa_cons (pv 12) pa_nil))) (pv 13) (nomark _)) (pss_one (ps_ret pe_bl)) pss_nil)
      (pss_one (ps_if (PW.pt (pw_and (pt_cmpR op_isN (pv 13) pe_non (nomark _)) (pw_and1 (pt_cmpR op_ne (pe_call (G_word_text) (hr.mono (by omega)) (by rfl) T.D_word_text.mg T.D_word_text.fn.kp T.D_word_text.bd .nil pass0 (pa_cons (pe_call (G_word_read) (hr.mono (by omega)) (by rfl) T.D_word_read.mg T.D_word_read.fn.kp T.D_word_read.bd .nil (passes_call LamX.takes0 fun _ _ _ _ z => z) (pa_cons (pv 12) pa_nil)) pa_nil)) (pv 12) (nomark _))))) (pss_one (ps_ret pe_bl)) pss_nil)))))))))))))))))))))
      (pss_cons (ps_set (i := 14) sc_law.nd rfl (by first | exact Or.inl rfl | exact Or.inr rfl) (pe_call (G_law_pick) (hr.mono (by omega)) (by rfl) T.D_law_pick.mg T.D_law_pick.fn.kp T.D_law_pick.bd .nil pass0 (pa_cons (pv 1) (pa_cons (pe_lst (pa_cons pe_non (pa_cons pe_int (pa_cons (pe_tup pa_nil) (pa_cons (pe_lst (pa_cons pe_str pa_nil)) (pa_cons pe_bl (pa_cons pe_dnewK pa_nil))))))) pa_nil))))
      (pss_cons (ps_if (pt_cmpR (op_neD hr.units) (pe_lamcall (T := TB1 tb) (P := tb) (c := cc) (k := 6) (by rfl) T.D_law_why.mg T.D_law_why.fn.kp LK hcw BW sc_law_why rfl (.inl rfl) (why_gives T) hTB rfl (List.mem_singleton.mpr rfl) (fun q hq _ => by rw [List.mem_singleton.mp hq]; rfl) (hr.mono (by omega)) (lamS_by (sc := defScope s_law) (by decide +kernel)) rfl (fun _ _ _ _ _ => rfl) (fun A outer s H E f c' hr => pe_call G_word_read (hr.mono (by omega)) (by rfl) T.D_word_read.mg T.D_word_read.fn.kp T.D_word_read.bd .nil (passes_call (takes_of rfl rfl rfl rfl) fun _ _ _ _ z => z) (pa_cons pe_str pa_nil))) (pe_lst (pa_cons pe_str (pa_cons pe_int (pa_cons pe_int pa_nil)))) (nomark _)) (pss_one (ps_ret pe_bl)) pss_nil)
      (pss_one (ps_ret (pe_cmpR (op_eqD hr.units) (pe_lamcall (T := TB1 tb) (P := tb) (c := cc) (k := 6) (by rfl) T.D_law_why.mg T.D_law_why.fn.kp LK hcw BW sc_law_why rfl (.inl rfl) (why_gives T) hTB rfl (List.mem_singleton.mpr rfl) (fun q hq _ => by rw [List.mem_singleton.mp hq]; rfl) (hr.mono (by omega)) (lamS_by (sc := defScope s_law) (by decide +kernel)) rfl (fun _ _ _ _ _ => rfl) (fun A outer s H E f c' hr => pe_call G_word_read (hr.mono (by omega)) (by rfl) T.D_word_read.mg T.D_word_read.fn.kp T.D_word_read.bd .nil (passes_call (takes_of rfl rfl rfl rfl) fun _ _ _ _ z => z) (pa_cons (pv 14) pa_nil))) (pe_lst (pa_cons pe_str (pa_cons pe_int (pa_cons pe_int pa_nil)))) (nomark _)))))))), ?_⟩
  refine ⟨_, rfl, a, zs, rfl, hs, hl, fun p c H1 s1 P1 => ?_⟩
  have T1 : Tabs (TB1 tb) H1 := fun q hq => by
    rw [List.mem_singleton.mp hq]; exact (TabS.nil hT).ext s1
  refine ⟨4, rfl, by decide, by decide, for_range (n := 4) (fun i σ' H' => ∃ (o2 o3 o4 o5 o6 o7 o8 o9 o10 o11 o12 o13 : Option V), σ' = [some (.ref a), some (.ref p), o2, o3, o4, o5, o6, o7, o8, o9, o10, o11, o12, o13, none] ∧ Pen p c (10000 * i) H' ∧ Tabs (TB1 tb) H')
    ⟨none, none, none, none, none, none, none, none, none, none, none, none, rfl, P1, T1⟩ ?_ ?_⟩
  · rintro i σ' H' hi ⟨o2, o3, o4, o5, o6, o7, o8, o9, o10, o11, o12, o13, rfl, P2, T2⟩
    clear P1 T1 s1 hs hT e0 lk hcd BL kIn
    -- calls
    refine ⟨_, rfl, _, rfl, p, c, 4, _, rfl, P2, by decide, by decide, by omega, fun d H3 d0 d1 b3 P3 => ⟨_, _, rfl, rfl, ?_⟩⟩
    obtain ⟨e, rfl⟩ : ∃ e : Nat, d = e := ⟨d.toNat, by omega⟩
    refine ⟨p, c, e + 1, 10000 * i + 1, ?_, P3, by omega, by omega, fun cs ns H4 hn _ ecs b4 P4 => ?_⟩
    · show [V.ref p, V.int (1 + (e : Int))] ++ [] = _
      rw [show (1 : Int) + (e : Int) = ((e + 1 : Nat) : Int) by omega]; rfl
    have good := calls_of hn (by omega) (by omega)
    have T4 := tabs_but P3 b4 (tabs_but P2 b3 T2)
    have st4 : SqT K H4 cs (ns.map V.str) := .of ecs
    clear hn P2 P3 T2 b3 b4 d0 d1 ecs
    obtain ⟨n4, n1, gn⟩ := good
    obtain ⟨x0, hx0⟩ : ∃ x0, ns[0]? = some x0 := ⟨_, List.getElem?_eq_getElem (by omega)⟩
    obtain ⟨xl, hxl⟩ : ∃ xl, ns[ns.length - 1]? = some xl := ⟨_, List.getElem?_eq_getElem (by omega)⟩
    have g0 := gn x0 (List.mem_of_getElem? hx0)
    have gl := gn xl (List.mem_of_getElem? hxl)
    have at0 : atI (ns.map V.str) ((0 : Nat) : Int) = some (V.str x0) := atI_nat (by rw [List.getElem?_map, hx0]; rfl)
    have atl : atI (ns.map V.str) (-1) = some (V.str xl) := by
      have e : ns = ns.take (ns.length - 1) ++ [xl] := by
        have h := List.take_append_drop (ns.length - 1) ns
        have hd : ns.drop (ns.length - 1) = [xl] := by
          rw [List.drop_eq_getElem_cons (by omega)]
          have : ns[ns.length - 1]'(by omega) = xl := by
            have := List.getElem?_eq_getElem (l := ns) (i := ns.length - 1) (by omega)
            rw [hxl] at this; exact (Option.some.inj this).symm
          rw [this, List.drop_eq_nil_of_le (by omega)]
        rw [hd] at h; exact h.symm
      rw [e, List.map_append]; exact atI_last _ _
    -- a name
    refine ⟨_, rfl, _, rfl, .inr (.inl ⟨_, _, _, _, rfl, rfl, st4, at0, "z", 12, rfl, rfl, by decide +kernel, by decide, ?_⟩)⟩
    refine ⟨_, rfl, _, rfl, .inr (.inl ⟨_, _, _, _, rfl, rfl, st4, at0, p, c, x0, _, rfl, P4, g0.2, by omega, fun v1 e1 H5 dv1 gv1 b5 P5 => ?_⟩)⟩
    have st5 := P4.st b5 st4
    refine ⟨_, rfl, _, rfl, 1, rfl, .inr (.inl ⟨_, _, _, _, rfl, rfl, st5, atl, p, c, xl, _, rfl, P5, gl.2, by omega, fun v2 e2 H6 dv2 gv2 b6 P6 => ?_⟩)⟩
    have st6 := P5.st b6 st5
    have dv1' := P5.dp b6 dv1
    refine ⟨(by show 6 ≤ sizeLine; decide), fun q hq => ⟨p, c, q, _, _, rfl, P6.upd (P6.ne_p hq) (P6.ne_c hq), .inl (SqL.of upd_same), (by show 0 < 6; decide), (by show 6 < 100000; decide), by omega, fun j nv H7 hj b7 P7 => ?_⟩⟩
    have T7 : Tabs (TB1 tb) H7 := tabs_but (P6.upd (P6.ne_p hq) (P6.ne_c hq)) b7 ((tabs_but P5 b6 (tabs_but P4 b5 T4)).ext (Same.newA hq))
    have st7 : SqT K H7 cs (ns.map V.str) := (P6.upd (P6.ne_p hq) (P6.ne_c hq)).st b7 ((Same.newA hq).stA st6)
    obtain ⟨dn, hdn, gdn⟩ : ∃ d, Dp K H7 nv d ∧ gd d = true := by
      have hm := List.mem_of_getElem? hj
      simp only [List.mem_cons, List.not_mem_nil, or_false] at hm
      have kp7 : ∀ {v d}, Dp K H6 v d → Dp K H7 v d := fun h => (P6.upd (P6.ne_p hq) (P6.ne_c hq)).dp b7 (dp_mono (Same.newA hq) h)
      rcases hm with rfl | rfl | rfl | rfl | rfl | rfl
      · exact ⟨_, .str _, as_gd g0.2 (by decide)⟩
      · exact ⟨_, .str _, as_gd (as_of (n := 20) (by decide +kernel)) (by decide)⟩
      · exact ⟨_, .str _, as_gd (as_of (n := 20) (by decide +kernel)) (by decide)⟩
      · exact ⟨_, .str _, as_gd (as_of (n := 20) (by decide +kernel)) (by decide)⟩
      · exact ⟨e1, kp7 (P5.dp b6 dv1), gv1⟩
      · exact ⟨e2, kp7 dv2, gv2⟩
    replace P7 := P7.more (m := 10000 * i + 1000) (by omega)
    clear hj dv1 dv1' dv2 gv1 gv2 b5 b6 b7 P5 P6 st5 st6 T4 P4 st4 hq
    refine s_if (b := false) (et_not (et_test (ed_call (ea_cons (ed_call (K := K) (F := nn H7) (ea_cons (ed_var rfl (dp_df hdn)) ea_nil) (rdc_spB gdn)) (ea_cons (ed_call (ea_cons (ed_var rfl (dp_df hdn)) ea_nil) (rdc_spB gdn)) ea_nil)) rdc_same0))) (fun h => nomatch h) fun _ H8 s8 => ?_
    have P8 := P7.same s8
    have T8 := T7.ext s8
    have st8 := s8.stA st7
    clear hdn gdn P7 T7 st7 s8
    -- a word, a place in it, another one
    refine ⟨_, rfl, _, rfl, p, c, cs, ns, _, rfl, P8, st8, n1, n4, by omega, fun l ws H9 hws hwl hl0 el b9 P9 => ?_⟩
    have T9 := tabs_but P8 b9 T8
    have st9 := P8.st b9 st8
    have wl : SqT K H9 l (ws.map V.str) := .of el
    clear P8 T8 st8 b9 hl0
    refine ⟨_, rfl, _, rfl, _, _, rfl, .inr ⟨_, wl, rfl⟩, _, _, rfl, rfl, p, c, _, _, rfl, P9, by omega, by rw [List.length_map]; omega, by omega, fun d2 H10 d20 d21 b10 P10 => ?_⟩
    rw [List.length_map] at d21
    have T10 := tabs_but P9 b10 T9
    have st10 := P9.st b10 st9
    have wl10 := P9.st b10 wl
    clear P9 T9 st9 wl b10 el
    obtain ⟨j2, rfl⟩ : ∃ j2 : Nat, d2 = j2 := ⟨d2.toNat, by omega⟩
    refine ⟨_, rfl, _, rfl, ?_⟩
    have dw10 : Dp K H10 (.ref l) (.tuple (ws.map .str)) := .tup wl10 (dps_strs ws)
    have dwF : ∀ {G : Addr → Prop} {H'}, Dp K H' (.ref l) (.tuple (ws.map .str)) → Df K G H' (.ref l) (.tuple (ws.map .str)) := fun h => dp_strsF h
    refine run_edc (K := K) (F := nn H10) (d := .tuple ((cutW ws none (some (j2 : Int))).map .str)) (ed_is (ed_slT (ed_var rfl (dwF dw10)) eo_none (eo_some (K := K) (F := nn H10) (ed_var rfl (.int _)))) (by rw [cutD_map])) fun v1 H11 s11 dv1 => ?_
    refine run_cat2 (K := K) (F := nn H11) (d := .tuple ((cutW ws none (some (j2 : Int))).map .str)) (ed_is (ed_slT (ed_var rfl (dwF (dp_mono s11 dw10))) eo_none (eo_some (K := K) (F := nn H11) (ed_var rfl (.int _)))) (by rw [cutD_map])) fun v2 H12 s12 dv2 => ?_
    have P12 := P10.same (s11.trans s12)
    have st12 := (s11.trans s12).stA st10
    refine ⟨_, rfl, _, rfl, p, c, cs, ns.map V.str, _, rfl, P12, .inr st12, by rw [List.length_map]; omega, by rw [List.length_map]; omega, by omega, fun j3 nx H13 hj3 b13 P13 => ⟨(by show 1 ≤ sizeLine; decide), fun tq htq => ?_⟩⟩
    obtain ⟨x3, hx3, rfl⟩ := pick_str hj3
    have b14 : But p H12 (upd H13 tq (.tup [.str x3])) := b13.trans (.of (Same.newA htq))
    have P14 := P13.upd (o := .tup [.str x3]) (P13.ne_p htq) (P13.ne_c htq)
    have dv1' := P12.dp b14 (dp_mono s12 (df_dp dv1))
    have dv2' := P12.dp b14 (df_dp dv2)
    have dw14 := P12.dp b14 (dp_mono (s11.trans s12) dw10)
    have T14 : Tabs (TB1 tb) (upd H13 tq (.tup [.str x3])) := tabs_but P12 b14 (T10.ext (s11.trans s12))
    have st14 := P12.st b14 st12
    have dt14 : Dp K (upd H13 tq (.tup [.str x3])) (.ref tq) (.tuple (([x3] : List Str).map .str)) := .tup (.of upd_same) (dps_strs [x3])
    generalize upd H13 tq (HO.tup [V.str x3]) = H14 at b14 P14 dv1' dv2' dw14 T14 st14 dt14
    clear P13 b13 htq P12 st12 dv1 dv2 s11 s12 P10 T10 st10 wl10 dw10 b14
    have lc1 := cutW_len (xs := ws) (lo := none) (hi := some (j2 : Int))
    have lc2 := cutW_len (xs := ws) (lo := some ((j2 : Int) + 1)) (hi := none)
    refine run_catT (K := K) (F := nn H14) (dp_strsF dv2') (dp_strsF dt14) (by rw [List.length_map, List.length_map]; show _ + 1 ≤ _; omega) fun v3 H15 s15 dv3 => ?_
    refine run_ed (K := K) (F := nn H15) (d := .tuple ((cutW ws (some ((j2 : Int) + 1)) none).map .str)) (ed_is (ed_slT (ed_var rfl (dwF (dp_mono s15 dw14))) (eo_some (K := K) (F := nn H15) (ed_add (ed_var rfl (.int _)) ed_int)) eo_none) (by rw [cutD_map])) fun v4 H16 s16 dv4 => ?_
    rw [← List.map_append] at dv3
    refine run_catT (K := K) (F := nn H16) (dp_strsF (dp_mono s16 (df_dp dv3))) (df_strs dv4) (by rw [List.length_map, List.length_map, List.length_append]; show _ + 1 + _ ≤ _; omega) fun v5 H17 s17 dv5 => ?_
    rw [← List.map_append] at dv5
    have s47 := (s15.trans s16).trans s17
    have P17 := P14.same s47
    have T17 := T14.ext s47
    have st17 := s47.stA st14
    have dl17 := dp_mono s47 dw14
    have d117 := dp_mono s47 dv1'
    have d517 := df_dp dv5
    clear P14 T14 st14 dw14 dv1' dv2' dt14 dv3 dv4 dv5 s47 s15 s16 s17
    refine ⟨_, rfl, _, rfl, p, c, cs, ns, _, rfl, P17, st17, n1, n4, by omega, fun l2 ws2 H18 hws2 hwl2 _ el2 b18 P18 => ⟨(by show 4 ≤ sizeLine; decide), fun q hq => ⟨p, c, q, _, _, rfl, P18.upd (P18.ne_p hq) (P18.ne_c hq), .inl (SqL.of upd_same), (by show 0 < 4; decide), (by show 4 < 100000; decide), by omega, fun j4 ov H19 hj4 b19 P19 => ?_⟩⟩⟩
    have P18' := P18.upd (o := .lst [.ref l, v1, v5, .ref l2]) (P18.ne_p hq) (P18.ne_c hq)
    have T19 : Tabs (TB1 tb) H19 := tabs_but P18' b19 ((tabs_but P17 b18 T17).ext (Same.newA hq))
    have k19 : ∀ {v d}, Dp K H17 v d → Dp K H19 v d := fun h => P18'.dp b19 (dp_mono (Same.newA hq) (P17.dp b18 h))
    have st19 : SqT K H19 cs (ns.map V.str) := P18'.st b19 ((Same.newA hq).stA (P17.st b18 st17))
    have dl19 := k19 dl17
    obtain ⟨os, hos, hol, do19⟩ : ∃ os : List Str, (∀ x ∈ os, x ∈ ns) ∧ os.length ≤ 25 ∧ Dp K H19 ov (.tuple (os.map .str)) := by
      have hm := List.mem_of_getElem? hj4
      simp only [List.mem_cons, List.not_mem_nil, or_false] at hm
      rcases hm with rfl | rfl | rfl | rfl
      · exact ⟨ws, hws, by omega, dl19⟩
      · exact ⟨_, fun x hx => hws x (cutW_mem hx), by omega, k19 d117⟩
      · refine ⟨_, fun x hx => ?_, ?_, k19 d517⟩
        · rcases List.mem_append.mp hx with hx | hx
          · rcases List.mem_append.mp hx with hx | hx
            · exact hws x (cutW_mem hx)
            · rw [List.mem_singleton.mp hx]; exact hx3
          · exact hws x (cutW_mem hx)
        · rw [List.length_append, List.length_append]; show _ + 1 + _ ≤ _; omega
      · exact ⟨ws2, hws2, by omega, P18'.dp b19 (dp_mono (Same.newA hq) (.tup (.of el2) (dps_strs ws2)))⟩
    replace P19 := P19.more (m := 10000 * i + 2000) (by omega)
    clear hj4 k19 d117 d517 dl17 P17 T17 st17 P18 P18' b18 b19 hq el2 hws2 hwl2 hx3 hj3 lc1 lc2
    -- which of both precedes
    have aW : ∀ {xs : List Str}, (∀ x ∈ xs, x ∈ ns) → (∀ x ∈ xs, nameB x = true) ∧ ∀ x ∈ xs, As 12 x := fun h => ⟨fun x hx => (gn x (h x hx)).1, fun x hx => (gn x (h x hx)).2⟩
    refine s_if (b := false) (et_not (et_test (ed_call (ea_cons (ed_call (K := K) (F := nn H19) (ea_cons (ed_var rfl (dp_df dl19)) (ea_cons (ed_var rfl (dp_df do19)) ea_nil)) (rdc_pre (wordD.t ws) (by omega) (wordD.t os) (by omega))) (ea_cons (ed_ltD (ed_call (ea_cons (ed_var rfl (dp_df dl19)) ea_nil) (rdc_before (by omega))) (ed_call (ea_cons (ed_var rfl (dp_df do19)) ea_nil) (rdc_before (by omega))) (ord_alike ws os) (by simp [ordD]) (ord_depth ws os)) ea_nil)) rdc_same0))) (fun h => nomatch h) fun _ H20 s20 => ?_
    have dl20 := dp_mono s20 dl19
    have do20 := dp_mono s20 do19
    refine s_if (b := false) (et_not (et_test (ed_call (ea_cons (ed_call (K := K) (F := nn H20) (ea_cons (ed_listOf (ed_var rfl (dp_df do20)) rfl) (ea_cons (ed_var rfl (dp_df dl20)) ea_nil)) (rdc_pre (wordD.l os) (by omega) (wordD.t ws) (by omega))) (ea_cons (ed_ltD (ed_call (ea_cons (ed_var rfl (dp_df do20)) ea_nil) (rdc_before (by omega))) (ed_call (ea_cons (ed_var rfl (dp_df dl20)) ea_nil) (rdc_before (by omega))) (ord_alike os ws) (by simp [ordD]) (ord_depth os ws)) ea_nil)) rdc_same0))) (fun h => nomatch h) fun _ H21 s21 => ?_
    have s191 := s20.trans s21
    have dl21 := dp_mono s191 dl19
    have do21 := dp_mono s191 do19
    have P21 := P19.same s191
    have T21 := T19.ext s191
    have st21 := s191.stA st19
    clear dl19 do19 dl20 do20 P19 T19 st19 s20 s21 s191
    -- values that are words, and such that are none
    have gW : ∀ {xs : List Str}, (∀ x ∈ xs, x ∈ ns) → xs.length ≤ 1000 → gd (.tuple (xs.map .str)) = true ∧ SeqAt.shaped (.tuple (xs.map .str)) = true := fun h hl => strs_shaped (fun x hx => ((aW h).2 x hx).more (by decide)) hl
    have gL : ∀ {xs : List PyData}, gd (.tuple xs) = true → gd (.list xs) = true := fun h => by simpa [gd] using h
    refine ⟨_, rfl, _, rfl, ?_⟩
    refine run_edc (K := K) (F := nn H21) (ed_listOf (ed_var rfl (dp_df dl21)) rfl) fun v3 H22 s22 dv3 => ?_
    have P22 := P21.same s22
    have st22 := s22.stA st21
    refine ⟨_, rfl, .inr (.inl ⟨_, _, _, _, rfl, rfl, st22, at0, _, rfl, _, rfl, _, rfl, .inr (.inl ⟨_, _, _, _, rfl, rfl, st22, at0, p, c, x0, _, rfl, P22, g0.2, by omega, fun v6 e6 H23 dv6 gv6 b23 P23 => ⟨(by show 1 ≤ sizeLine; decide), fun tq htq => ?_⟩⟩)⟩)⟩
    have b24 : But p H22 (upd H23 tq (.tup [v6])) := b23.trans (.of (Same.newA htq))
    have P24 := P23.upd (o := .tup [v6]) (P23.ne_p htq) (P23.ne_c htq)
    have k24 : ∀ {v d}, Dp K H21 v d → Dp K (upd H23 tq (.tup [v6])) v d := fun h => P22.dp b24 (dp_mono s22 h)
    have dl24 := k24 dl21
    have do24 := k24 do21
    have dv24 := P22.dp b24 (df_dp dv3)
    have st24 := P22.st b24 st22
    have T24 : Tabs (TB1 tb) (upd H23 tq (.tup [v6])) := tabs_but P22 b24 (T21.ext s22)
    have dt24 : Dp K (upd H23 tq (.tup [v6])) (.ref tq) (.tuple [e6]) := .tup (.of upd_same) (.cons (dp_mono (Same.newA htq) dv6) .nil)
    generalize upd H23 tq (HO.tup [v6]) = H24 at b24 P24 k24 dl24 do24 dv24 st24 T24 dt24
    clear k24 b24 dv6 b23 P23 P22 st22 dv3 s22 dl21 do21 P21 T21 st21 htq
    refine run_catT (K := K) (F := nn H24) (dp_strsF dl24) (dp_df dt24) (by rw [List.length_map]; show _ + 1 ≤ _; omega) fun v7 H25 s25 dv7 => ?_
    refine ⟨(by show 1 ≤ sizeLine; decide), fun t2 ht2 ad had => ⟨(by show 9 ≤ sizeLine; decide), fun q hq => ?_⟩⟩
    refine ⟨q, rfl, ⟨_, .of upd_same⟩, ?_⟩
    have s27 : Same H25 (upd (upd H25 t2 (.tup [.non])) ad (.dK [])) := (Same.newA ht2).trans (Same.newA had)
    have sA : Same H25 (upd (upd (upd H25 t2 (.tup [.non])) ad (.dK [])) q (.lst [.ref l, ov, v3, .non, .int 5, .str x0, v7, .ref t2, .ref ad])) := s27.trans (Same.newA hq)
    have sB : Same (upd H25 t2 (.tup [.non])) (upd (upd (upd H25 t2 (.tup [.non])) ad (.dK [])) q (.lst [.ref l, ov, v3, .non, .int 5, .str x0, v7, .ref t2, .ref ad])) := (Same.newA had).trans (Same.newA hq)
    have sC := Same.newA (o := .lst [.ref l, ov, v3, .non, .int 5, .str x0, v7, .ref t2, .ref ad]) hq
    have all9 : ∀ v ∈ ([.ref l, ov, v3, .non, .int 5, .str x0, v7, .ref t2, .ref ad] : List V), (∃ d, Dp K (upd (upd (upd H25 t2 (.tup [.non])) ad (.dK [])) q (.lst [.ref l, ov, v3, .non, .int 5, .str x0, v7, .ref t2, .ref ad])) v d ∧ gd d = true) ∨
        ∃ a2, v = .ref a2 ∧ upd (upd (upd H25 t2 (.tup [.non])) ad (.dK [])) q (.lst [.ref l, ov, v3, .non, .int 5, .str x0, v7, .ref t2, .ref ad]) a2 = some (.dK []) := by
      intro v hm
      simp only [List.mem_cons, List.not_mem_nil, or_false] at hm
      rcases hm with rfl | rfl | rfl | rfl | rfl | rfl | rfl | rfl | rfl
      · exact .inl ⟨_, dp_mono (s25.trans sA) dl24, (gW hws (by omega)).1⟩
      · exact .inl ⟨_, dp_mono (s25.trans sA) do24, (gW hos (by omega)).1⟩
      · exact .inl ⟨_, dp_mono (s25.trans sA) dv24, gL (gW hws (by omega)).1⟩
      · exact .inl ⟨_, .non, rfl⟩
      · exact .inl ⟨_, .int 5, rfl⟩
      · exact .inl ⟨_, .str x0, as_gd g0.2 (by decide)⟩
      · refine .inl ⟨_, dp_mono sA (df_dp dv7), ?_⟩
        obtain ⟨q1, q2⟩ := gd_tup (gW hws (by omega)).1
        simp only [gd, Bool.and_eq_true, decide_eq_true_eq]
        refine ⟨gds_of fun y hy => ?_, by rw [List.length_append, List.length_map]; show _ + 1 ≤ _; omega⟩
        rcases List.mem_append.mp hy with hy | hy
        · exact q1 y hy
        · rw [List.mem_singleton.mp hy]; exact gv6
      · exact .inl ⟨.tuple [.none], .tup (.of (sB _ _ upd_same)) (.cons .non .nil), rfl⟩
      · exact .inr ⟨ad, rfl, sC _ _ upd_same⟩
    have P28 := (P24.same s25).same sA
    have T28 := (T24.ext s25).ext sA
    have st28 := sA.stA (s25.stA st24)
    have dl28 := dp_mono (s25.trans sA) dl24
    have sq28 : SqL K (upd (upd (upd H25 t2 (.tup [.non])) ad (.dK [])) q (.lst [.ref l, ov, v3, .non, .int 5, .str x0, v7, .ref t2, .ref ad])) q [.ref l, ov, v3, .non, .int 5, .str x0, v7, .ref t2, .ref ad] := .of upd_same
    generalize upd (upd (upd H25 t2 (.tup [.non])) ad (.dK [])) q (.lst [.ref l, ov, v3, .non, .int 5, .str x0, v7, .ref t2, .ref ad]) = H28 at all9 P28 T28 st28 dl28 sq28
    generalize ([.ref l, ov, v3, .non, .int 5, .str x0, v7, .ref t2, .ref ad] : List V) = vals at all9 sq28
    refine for_list (K := K) (a := q) (xs := vals) (fun i' σ' H' => ∃ o8, σ' = [some (.ref a), some (.ref p), some (.int (0 + (i : Int))), some (.ref cs), some nv, some (.ref l), some (.int (j2 : Int)), some ov, o8, o9, o10, o11, o12, o13, none] ∧ Same H28 H') ⟨o8, rfl, Same.refl _⟩ ?_ ?_ ?_
    · rintro i' σ' H' _ ⟨o8', rfl, s29⟩; exact s29.slA sq28
    · rintro i' v σ' H' hv ⟨o8', rfl, s29⟩
      rcases all9 v (List.mem_of_getElem? hv) with ⟨d, hd, gdd⟩ | ⟨a2, rfl, ha2⟩
      · have hd' := dp_mono s29 hd
        refine s_if (b := false) (et_not (et_test (ed_call (ea_cons (ed_call (K := K) (F := nn H') (ea_cons (ed_var rfl (dp_df hd')) ea_nil) (rdc_orB gdd)) (ea_cons (ed_call (ea_cons (ed_var rfl (dp_df hd')) ea_nil) (rdc_orB gdd)) ea_nil)) rdc_same0))) (fun h => nomatch h) fun _ H30 s30 => ⟨some v, rfl, s29.trans s30⟩
      · have hd' := s29 _ _ ha2
        refine s_if (b := false) (et_not (et_test (ed_call (ea_cons (ed_dictF (K := K) (F := nn H') rfl hd') (ea_cons (ed_dictF rfl hd') ea_nil)) rdc_same0))) (fun h => nomatch h) fun _ H30 s30 => ⟨some (.ref a2), rfl, s29.trans s30⟩
    · rintro σ' H' ⟨o8', rfl, s29⟩
      have P29 := P28.same s29
      have T29 := T28.ext s29
      have st29 := s29.stA st28
      have dl29 := dp_mono s29 dl28
      clear all9 sq28 P28 T28 st28 dl28 s29 sA sB sC s27 s25 dv7 had ht2 hq dt24 dv24 do24 dl24 P24 T24 st24
      -- the word's text
      obtain ⟨aN, aA⟩ := aW hws
      have sh := (gW hws (by omega)).2
      have l100 : ∀ x ∈ ws, x.length ≤ 100 := fun x hx => Nat.le_trans (aA x hx).2 (by decide)
      have dv5 : ∀ {H5 : Hp}, Dp K H5 (.ref l) (.tuple (ws.map .str)) → ED K (tVar 5) [some (.ref a), some (.ref p), some (.int (0 + (i : Int))), some (.ref cs), some nv, some (.ref l), some (.int (j2 : Int)), some ov, o8', o9, o10, o11, o12, o13, none] (nn H5) H5 (.tuple (ws.map .str)) := fun h => ed_var rfl (dp_df h)
      have eqvE : PyData.eqv (.tuple (ws.map .str)) (.tuple []) = decide (ws = []) := by
        cases ws with
        | nil => simp [PyData.eqv, PyData.eqvAll]
        | cons x r => simp [PyData.eqv, PyData.eqvAll]
      refine s_set (K := K) (F := nn H') (d := .str (lineW ws)) (ed_if (et_test (ed_neD (dv5 dl29) (ed_tup ea_nil (by decide)) sh (by decide))) (fun hb => ?_) fun hb => ?_) fun tv H30 s30 htv => ?_
      · have hne : ws ≠ [] := fun z => by rw [eqvE, decide_eq_true z] at hb; cases hb
        refine ed_is (ed_join (a := " ") (ed_str (x := " ")) (dv5 dl29) (.inr rfl) ?_) ?_
        · have := sum_le100 l100
          have e1 : (" " : Str).length = 1 := rfl
          rw [e1]; omega
        · rw [TL.join_eq]
          cases ws with
          | nil => exact absurd rfl hne
          | cons x r => rfl
      · have hne : ws = [] := by
          rw [eqvE] at hb
          by_cases z : ws = []
          · exact z
          · rw [decide_eq_false z] at hb; cases hb
        subst hne
        exact ed_is ed_str rfl
      · cases htv
        have P30 := P29.same s30
        have T30 := T29.ext s30
        have st30 := s30.stA st29
        have dl30 := dp_mono s30 dl29
        clear P29 T29 st29 dl29 s30 dv5 eqvE
        obtain ⟨w1, w2⟩ := word_there aN
        have aL := as_line aA hwl (by decide)
        have gF : ∀ y ∈ firstL (lineW ws), gd (.str y) = true := fun y hy => as_gd (as_first aL y hy) (by decide)
        have vw : ∀ {H5 : Hp}, Same H30 H5 → ED K (tVar 5) [some (.ref a), some (.ref p), some (.int (0 + (i : Int))), some (.ref cs), some nv, some (.ref l), some (.int (j2 : Int)), some ov, o8', some (.str (lineW ws)), o10, o11, o12, o13, none] (nn H5) H5 (.tuple (ws.map .str)) := fun h => ed_var rfl (dp_df (dp_mono h dl30))
        have vt : ∀ H5 : Hp, ED K (tVar 9) [some (.ref a), some (.ref p), some (.int (0 + (i : Int))), some (.ref cs), some nv, some (.ref l), some (.int (j2 : Int)), some ov, o8', some (.str (lineW ws)), o10, o11, o12, o13, none] (nn H5) H5 (.str (lineW ws)) := fun H5 => ed_var rfl (.str _)
        obtain ⟨sw1, sw2, sw3⟩ := shown_strs (fun x hx => (aA x hx).more (by decide)) (by omega : ws.length ≤ 50)
        have neS : ∀ x : Str, (!decide (x = x)) = false := fun x => by rw [decide_eq_true rfl]; rfl
        refine s_if (b := false) (et_is (et_or (et_test (ed_neS (ed_call (ea_cons (vw (Same.refl _)) ea_nil) (rdc_text (wordD.t ws) (by omega) l100)) (vt H30))) fun _ => et_or (et_test (ed_neS (ed_call (ea_cons (ed_listOf (vw (Same.refl _)) rfl) ea_nil) (rdc_text (wordD.l ws) (by omega) l100)) (vt H30))) fun _ => et_test (ed_neS (ed_repr (ed_is (ed_call (ea_cons (vt H30) ea_nil) (rdc_read (by have := aL.2; omega) gF w1)) (by rw [w2])) sw1 sw2 sw3) (ed_repr (vw (Same.refl _)) sw1 sw2 sw3))) (by simp)) (fun h => nomatch h) fun _ H31 s31 => ?_
        refine run_el_set (el_split (K := K) (F := nn H31) (ed_var rfl (.str (lineW ws))) (ed_str (x := " ")) (by decide +kernel) (by have := aL.2; omega)) fun wd H32 s32 hwd => ?_
        have hys : ∃ ys : List Str, Txt.split (lineW ws) " " = ys ∧ ys.length ≤ 12 ∧ ∀ x ∈ ys, As 40 x := by
          refine ⟨_, split_lineW aN, ?_, ?_⟩
          · split
            · show 2 ≤ 12; decide
            · exact hwl
          · split
            · intro x hx
              simp only [List.mem_cons, List.not_mem_nil, or_false] at hx
              rcases hx with rfl | rfl
              · exact as_of (by decide +kernel)
              · exact as_of (by decide +kernel)
            · exact fun x hx => (aA x hx).more (by decide)
        obtain ⟨ys0, eys, ly0, ay0⟩ := hys
        rw [eys] at hwd
        have s302 := s31.trans s32
        have P32 := P30.same s302
        have T32 := T30.ext s302
        have st32 := s302.stA st30
        clear P30 T30 st30 dl30 s31 s32 s302 vw vt w1 w2 gF aL sw1 sw2 sw3 eys sh l100
        refine ⟨2, rfl, by decide, by decide, for_range (n := 2) (fun t σ' H' => ∃ (o11 o12 o13 : Option V) (wd : Addr) (ys : List Str), σ' = [some (.ref a), some (.ref p), some (.int (0 + (i : Int))), some (.ref cs), some nv, some (.ref l), some (.int (j2 : Int)), some ov, o8', some (.str (lineW ws)), some (.ref wd), o11, o12, o13, none] ∧
          Pen p c (10000 * i + 3000 + 100 * t) H' ∧ Tabs (TB1 tb) H' ∧ SqT K H' cs (ns.map V.str) ∧ H' wd = some (.lst (ys.map V.str)) ∧ (∀ x ∈ ys, As 40 x) ∧ ys.length ≤ 12 + t)
          ⟨o11, o12, o13, wd, ys0, rfl, P32.more (by omega), T32, st32, hwd, ay0, ly0⟩ ?_ ?_⟩
        · clear P32 T32 st32 hwd ay0 ly0
          rintro t σ' H' ht ⟨o11, o12, o13, wd, ys, rfl, P33, T33, st33, hwd, ays, lys⟩
          have dc : Dp K H' (.ref cs) (.tuple (ns.map .str)) := .tup st33 (dps_strs ns)
          refine ⟨_, rfl, _, rfl, run_el1 (el_cat (xs := ns) (ys := ["nil", ";", "\n", x0 ++ "\n" ++ x0]) (el_listOf (K := K) (F := nn H') (ed_var rfl (dp_df dc))) (el_lst (K := K) (F := nn H') (ea_cons ed_str (ea_cons ed_str (ea_cons ed_str (ea_cons (ed_catS (ed_catS (ed_ixT (j := 0) (ed_var rfl (dp_df dc)) ed_int (by rw [List.getElem?_map, hx0]; rfl)) ed_str ?_) (ed_ixT (j := 0) (ed_var rfl (dp_df dc)) ed_int (by rw [List.getElem?_map, hx0]; rfl)) ?_) ea_nil)))) (by show 4 ≤ 100000; decide)) (by show ns.length + 4 ≤ 100000; omega)) fun q H34 s34 hq => ⟨p, c, wd, q, ys, _, _, rfl, P33.same s34, s34 _ _ hwd, hq, ays, ?_, by omega, ?_, by omega, fun wd2 ys2 H35 ays2 lys2 hwd2 b35 P35 => ?_⟩⟩
          · have h1 := g0.2.2
            have h2 : ("\n" : Str).length = 1 := rfl
            omega
          · have h1 := g0.2.2
            have h2 : ("\n" : Str).length = 1 := rfl
            rw [Str.length_append]; omega
          · refine all_app (fun x hx => (gn x hx).2.more (by decide)) fun x hx => ?_
            simp only [List.mem_cons, List.not_mem_nil, or_false] at hx
            rcases hx with rfl | rfl | rfl | rfl
            · exact as_of (by decide +kernel)
            · exact as_of (by decide +kernel)
            · exact as_of (by decide +kernel)
            · exact (as_cat (as_cat g0.2 (as_of (n := 1) (by decide +kernel))) g0.2).more (by decide)
          · rw [List.length_append]; show ns.length + 4 ≤ 100; omega
          · have T35 : Tabs (TB1 tb) H35 := tabs_but (P33.same s34) b35 (T33.ext s34)
            have st35 : SqT K H35 cs (ns.map V.str) := (P33.same s34).st b35 (s34.stA st33)
            clear P33 T33 st33 dc s34 hq hwd b35
            have aJ := as_join (s := " ") (m := 1) (as_of (by decide +kernel)) ays2
            have lJ : ys2.length * (40 + 1) ≤ 15 * 41 := Nat.mul_le_mul (by omega) (Nat.le_refl _)
            have aX : As 700 (Str.join " " ys2) := aJ.more (by omega)
            refine s_set (K := K) (F := nn H35) (d := .str (Str.join " " ys2)) (ed_is (ed_join (a := " ") (ed_str (x := " ")) (ed_var rfl (dp_df (.lst (.inl (.inl hwd2)) (dps_strs ys2)))) (.inl rfl) ?_) (by rw [TL.join_eq])) fun xv H36 s36 hxv => ?_
            · have := sum_le100 (xs := ys2) fun x hx => Nat.le_trans (ays2 x hx).2 (by decide)
              have e1 : (" " : Str).length = 1 := rfl
              rw [e1]; omega
            · cases hxv
              have P36 := P35.same s36
              have T36 := T35.ext s36
              have st36 := s36.stA st35
              have hwd36 := s36 _ _ hwd2
              clear P35 T35 st35 hwd2 s36 aJ lJ
              generalize Str.join " " ys2 = X at aX
              have gX : ∀ y ∈ firstL X, gd (.str y) = true := fun y hy => as_gd (as_first aX y hy) (by decide)
              have lX : X.length < 50000 := by have := aX.2; omega
              refine ⟨_, rfl, X, rfl, lX, gX, fun due H37 s37 ddue => ?_⟩
              have P37 := P36.same s37
              have T37 := T36.ext s37
              have st37 := s37.stA st36
              have hwd37 := s37 _ _ hwd36
              have ddue : Dp K H37 due (whyD (rkT X)) := ddue
              clear P36 T36 st36 hwd36 s37
              have eW : whyR ((rkT X).map fun k => ((1 : Int), (k : Int))) = whyD (rkT X) := by cases rkT X <;> rfl
              refine run_ifwhy (K := K) (rr := (rkT X).map fun k => ((1 : Int), (k : Int))) T37 (fun H' Q q => ⟨_, rfl, q⟩) (fun H1 ext Q' E hn hb => .inl ⟨_, X, rfl, .str X, lX, gX, fun k hk => hb 1 k (by
                have hk : rkT X = some k := hk
                rw [hk]; rfl), fun hk u H2 s2 _ => hn (by
                have hk : rkT X = none := hk
                rw [hk]; rfl) u H2 s2⟩) fun u H38 ext T38 du => ?_
              rw [eW] at du
              have ddue8 := P37.dpK (Kp.ext ext) ddue
              have P38 := P37.ext ext
              have st38 := P37.stK (Kp.ext ext) st37
              have hwd38 := ext _ _ hwd37 (fun _ z => nomatch z)
              obtain ⟨sh1, sh2⟩ := whyD_sh (rkT X)
              clear P37 T37 st37 hwd37 ddue ext eW
              refine ⟨_, rfl, _, _, du, ddue8, sh1, sh1, _, rfl, ite2 (fun h => absurd h (by rw [sh2]; decide)) fun _ => ?_⟩
              refine s_if (b := false) (et_is (et_and (et_test (ed_isN (K := K) (F := nn H38) (ed_var rfl (dp_df ddue8)))) fun hb => et_test (ed_neS (ed_call (ea_cons (ed_call (K := K) (F := nn H38) (ea_cons (ed_var rfl (.str X)) ea_nil) (rdc_read lX gX ?_)) ea_nil) (rdc_text (wordD.t _) (word_few lX) (word_short ?_))) (ed_var rfl (.str X)))) ?_) (fun h => nomatch h) fun _ H39 s39 => ?_
              · cases e : rkT X with
                | none => rfl
                | some k => rw [e] at hb; cases hb
              · cases e : rkT X with
                | none => rfl
                | some k => rw [e] at hb; cases hb
              · cases e : rkT X with
                | none => rw [text_back e]; simp
                | some k => rfl
              · exact ⟨_, _, _, wd2, ys2, rfl, (P38.same s39).more (by omega), T38.ext s39, s39.stA st38, s39 _ _ hwd38, ays2, by omega⟩
        · rintro σ' H' ⟨o11, o12, o13, wd, ys, rfl, P33, T33, _⟩
          exact ⟨_, _, _, _, _, _, _, _, _, _, _, _, rfl, P33.more (by omega), T33⟩
  · rintro σ' H' ⟨o2, o3, o4, o5, o6, o7, o8, o9, o10, o11, o12, o13, rfl, P2, T2⟩
    refine ⟨_, rfl, (by show 0 ≤ sizeLine; decide), fun t1 ht1 => ⟨(by show 1 ≤ sizeLine; decide), fun q1 hq1 ad had => ⟨(by show 6 ≤ sizeLine; decide), fun q hq => ⟨p, c, q, _, 10000 * 4, rfl, ?_, .inl (SqL.of upd_same), (by show 0 < 6; decide), (by show 6 < 100000; decide), by omega, fun j v H3 hj b3 P3 => ?_⟩⟩⟩⟩
    · exact (((P2.same (Same.newA ht1)).same (Same.newA hq1)).same (Same.newA had)).same (Same.newA hq)
    · have sA := Same.newA (H := H') (o := .tup []) ht1
      have sB := Same.newA (o := .lst [.str "a"]) hq1
      have sC := Same.newA (o := .dK []) had
      have sD := Same.newA (o := .lst [.non, .int 5, .ref t1, .ref q1, .bl true, .ref ad]) hq
      have PD := (((P2.same sA).same sB).same sC).same sD
      have TD := (((T2.ext sA).ext sB).ext sC).ext sD
      have T3 := tabs_but PD b3 TD
      obtain ⟨d, dv, nd⟩ : ∃ d, Dx K H3 v d ∧ isiB "str" d = false := by
        have hm := List.mem_of_getElem? hj
        simp only [List.mem_cons, List.not_mem_nil, or_false] at hm
        rcases hm with rfl | rfl | rfl | rfl | rfl | rfl
        · exact ⟨_, .inl .non, rfl⟩
        · exact ⟨_, .inl (.int 5), rfl⟩
        · exact ⟨.tuple [], .inl (PD.dp b3 (dp_mono ((sB.trans sC).trans sD) (.tup (.of upd_same) .nil))), by decide⟩
        · exact ⟨.list [.str "a"], .inl (PD.dp b3 (dp_mono (sC.trans sD) (.lst (.of upd_same) (.cons (.str _) .nil)))), by decide⟩
        · exact ⟨_, .inl (.bl true), by decide⟩
        · have ne : ad ≠ p := P2.ne_p (sA.freshA (sB.freshA had))
          exact ⟨.dict [], .inr ⟨rfl, ad, rfl, b3 _ _ ne (sD _ _ upd_same)⟩, by decide⟩
      clear hj PD TD sA sB sC sD b3 P2 T2
      have emp : rkT "" = some 1 := by decide +kernel
      have gE : ∀ y ∈ firstL "", gd (.str y) = true := fun y hy => as_gd (as_first (n := 10) (as_of (by decide +kernel)) y hy) (by decide)
      refine run_ifwhy (K := K) (v := .str "") (rr := some (1, 1)) T3 (fun H' Q q => q) (fun H1 ext Q' E hn hb => .inl ⟨_, "", rfl, .str "", by decide +kernel, gE, fun k hk => ?_, fun hk u H2 s2 _ => ?_⟩) fun u H4 ext T4 du => ?_
      · have hk : rkT "" = some k := hk
        rw [emp] at hk; cases hk; exact hb 1 1 rfl
      · have hk : rkT "" = none := hk
        rw [emp] at hk; cases hk
      · obtain ⟨sh1, sh2⟩ := whyR_sh 1 1
        refine ⟨(by show 3 ≤ sizeLine; decide), fun q hq => ⟨_, whyR (some (1, 1)), dp_mono (Same.newA hq) du, .lst (.of upd_same) (.cons (.str _) (.cons (.int _) (.cons (.int _) .nil))), sh1, sh1, _, rfl, ite2 (fun h => absurd h (by rw [sh2]; decide)) fun _ => ?_⟩⟩
        have sQ := Same.newA (o := .lst [.str "text", .int 1, .int 1]) hq
        have T5 := T4.ext sQ
        have dv5 : Dx K (upd H4 q (.lst [.str "text", .int 1, .int 1])) v d := by
          refine Dx.mono sQ ?_
          rcases dv with dv | ⟨rfl, a2, rfl, ha2⟩
          · exact .inl (P3.dpK (Kp.ext ext) dv)
          · exact .inr ⟨rfl, a2, rfl, ext _ _ ha2 (fun _ z => nomatch z)⟩
        have P5 := (P3.ext ext).same sQ
        clear T4 dv P3 T3
        refine run_retwhy (K := K) (v := v) (rr := some (0, 0)) T5 (fun H' Q q => ⟨_, rfl, q⟩) (fun H1 ext2 Q' E hn hb => .inr ⟨v, d, rfl, ?_, nd, hb 0 0 rfl⟩) fun u H6 ext6 T6 du6 => ?_
        · rcases dv5 with dv | ⟨rfl, a2, rfl, ha2⟩
          · exact .inl (P5.dpK (Kp.ext ext2) dv)
          · exact .inr ⟨rfl, a2, rfl, ext2 _ _ ha2 (fun _ z => nomatch z)⟩
        · obtain ⟨sh3, sh4⟩ := whyR_sh 0 0
          refine ⟨(by show 3 ≤ sizeLine; decide), fun q2 hq2 => ⟨_, whyR (some (0, 0)), dp_mono (Same.newA hq2) du6, .lst (.of upd_same) (.cons (.str _) (.cons (.int _) (.cons (.int _) .nil))), sh3, sh3, ?_⟩⟩
          show V.bl _ = V.bl true
          rw [sh4]
end
end Ag

set_option Elab.async false
set_option linter.all false
set_option maxRecDepth 100000
set_option maxHeartbeats 0
namespace Ag
open PySem PySem.Spec PyProof.Rows L2
/-! ### a table with text keys, as written -/
def TabOf : List DictEntry → List (Str × Int) → Prop
  | [], [] => True
  | e :: r, q :: s => (∃ t u, e.key = .str q.1 t ∧ e.val = .int q.2 u) ∧ TabOf r s
  | _, _ => False
theorem tab_find : ∀ {es : List DictEntry} {kvs : List (Str × Int)} (z : Str), TabOf es kvs → es.any (·.refKey) = false ∧ ((∃ i e u, (z, i) ∈ kvs ∧ (∀ j, kvs.lookup z = some j → j = i) ∧ es.find? (·.key.isStr z) = some e ∧ e.val = .int i u) ∨ (z ∉ kvs.map (·.1) ∧ es.find? (·.key.isStr z) = none))
  | [], [], z, _ => ⟨rfl, .inr ⟨by simp, rfl⟩⟩
  | e :: r, q :: s, z, ⟨⟨t, u, h1, h2⟩, h⟩ => by
    obtain ⟨a, b⟩ := tab_find z h
    have hr : e.refKey = false := by unfold DictEntry.refKey; rw [h1]
    refine ⟨by rw [List.any_cons, hr, a]; rfl, ?_⟩
    have hs : e.key.isStr z = (q.1 == z) := by rw [h1]; rfl
    by_cases hz : q.1 = z
    · refine .inl ⟨q.2, e, u, ?_, fun j hj => ?_, ?_, h2⟩
      · rw [← hz]; exact List.mem_cons_self
      · obtain ⟨q1, q2⟩ := q
        simp only at hz; subst hz
        simp at hj; exact hj.symm
      · rw [List.find?_cons, hs, beq_iff_eq.mpr hz]
    · have hf : (q.1 == z) = false := beq_eq_false_iff_ne.mpr hz
      have hf2 : (z == q.1) = false := beq_eq_false_iff_ne.mpr fun w => hz w.symm
      rcases b with ⟨i, e2, u2, m, l, f, v⟩ | ⟨m, f⟩
      · refine .inl ⟨i, e2, u2, List.mem_cons_of_mem _ m, fun j hj => l j ?_, ?_, v⟩
        · obtain ⟨q1, q2⟩ := q
          simp only at hf2
          rw [List.lookup_cons, hf2] at hj; exact hj
        · rw [List.find?_cons, hs, hf]; exact f
      · refine .inr ⟨?_, ?_⟩
        · rw [List.map_cons, List.mem_cons]; rintro (w | w)
          · exact hz w.symm
          · exact m w
        · rw [List.find?_cons, hs, hf]; exact f
section
variable {w : World} {K : PySem.W.Frag} {a : Addr} {es : Array DictEntry} {n : Nat} {kvs : List (Str × Int)}
theorem tab_in (l : K.lookup a = some ⟨.type "dict", none, .dict es n, #[]⟩) (t : TabOf es.toList kvs) (z : Str) : ∃ r, PySem.W.nsIn K a z = some r ∧ r.isSome = decide (z ∈ kvs.map (·.1)) := by
  obtain ⟨h1, h2⟩ := tab_find z t
  unfold PySem.W.nsIn
  rw [l]
  rcases h2 with ⟨i, e, u, m, _, f, v⟩ | ⟨m, f⟩
  · refine ⟨some e.val, ?_, ?_⟩
    · simp only [f]
    · exact (decide_eq_true (List.mem_map.mpr ⟨_, m, rfl⟩)).symm
  · refine ⟨none, ?_, (decide_eq_false m).symm⟩
    simp only [f, h1]; rfl
theorem tab_at (l : K.lookup a = some ⟨.type "dict", none, .dict es n, #[]⟩) (k : PySem.W.KeysLit w.params es.toList) (t : TabOf es.toList kvs) (nd : kvs.all (fun q => kvs.lookup q.1 == some q.2) = true) (z : Str) (i : Int) (hm : (z, i) ∈ kvs) : KDct K w a z (.int i) := by
  obtain ⟨h1, h2⟩ := tab_find z t
  have hl : kvs.lookup z = some i := by simpa using List.all_eq_true.mp nd _ hm
  rcases h2 with ⟨j, e, u, m, lk, f, v⟩ | ⟨m, f⟩
  · have := lk i hl; subst this
    refine ⟨es, n, e.val, l, k, ?_, u, v⟩
    unfold PySem.W.nsIn
    rw [l]
    simp only [f]
  · exact absurd (List.mem_map.mpr ⟨_, hm, rfl⟩) m
end
theorem binds_all {K : PySem.W.Frag} {fd : FuncData} {ps : List Str} (h : ∃ ds, Vals [] ds ∧ Binds K fd ps ds) : Binds K fd ps [] := by
  obtain ⟨ds, v, b⟩ := h
  cases v
  exact b
theorem all_mk {l : PySem.W.OpenLaw} {w : World} {K : PySem.W.Frag} {q : Program} {loose : List Str} {mean : ExcName → Option Value} {mg mb : Str → Option Value} {s : Shared} {d : DefRec} {fa cc tb : Addr} {xc : Value} {xo : Option Addr} {xs : Array (Option Value)} {vsx : Array Value} (TP : PyProof.Rows.Top q (PySem.W.looseW q loose) mean mg mb s.heap) (X : K.In s.heap)
    (hrec : (PyProof.Rows.recsOf q).find? (fun e => e.name == ("law" : Str)) = some d) (ntb : K.lookup tb = none) (hfa : mg "law" = some (.ref fa))
    {f0 : Addr} {od0 an0 : Option Addr} {sl0 : Array (Option Value)} {oc0 kV0 dc0 pm0 cd0 ct0 : Value}
    {f1 : Addr} {od1 an1 : Option Addr} {sl1 : Array (Option Value)} {oc1 kV1 dc1 pm1 cd1 ct1 : Value}
    {f2 : Addr} {od2 an2 : Option Addr} {sl2 : Array (Option Value)} {oc2 kV2 dc2 pm2 cd2 ct2 : Value}
    {f3 : Addr} {od3 an3 : Option Addr} {sl3 : Array (Option Value)} {oc3 kV3 dc3 pm3 cd3 ct3 : Value}
    {f4 : Addr} {od4 an4 : Option Addr} {sl4 : Array (Option Value)} {oc4 kV4 dc4 pm4 cd4 ct4 : Value}
    {f5 : Addr} {od5 an5 : Option Addr} {sl5 : Array (Option Value)} {oc5 kV5 dc5 pm5 cd5 ct5 : Value}
    {f6 : Addr} {od6 an6 : Option Addr} {sl6 : Array (Option Value)} {oc6 kV6 dc6 pm6 cd6 ct6 : Value}
    {f7 : Addr} {od7 an7 : Option Addr} {sl7 : Array (Option Value)} {oc7 kV7 dc7 pm7 cd7 ct7 : Value}
    {f8 : Addr} {od8 an8 : Option Addr} {sl8 : Array (Option Value)} {oc8 kV8 dc8 pm8 cd8 ct8 : Value}
    {f9 : Addr} {od9 an9 : Option Addr} {sl9 : Array (Option Value)} {oc9 kV9 dc9 pm9 cd9 ct9 : Value}
    {f10 : Addr} {od10 an10 : Option Addr} {sl10 : Array (Option Value)} {oc10 kV10 dc10 pm10 cd10 ct10 : Value}
    {f11 : Addr} {od11 an11 : Option Addr} {sl11 : Array (Option Value)} {oc11 kV11 dc11 pm11 cd11 ct11 : Value}
    {f12 : Addr} {od12 an12 : Option Addr} {sl12 : Array (Option Value)} {oc12 kV12 dc12 pm12 cd12 ct12 : Value}
    {f13 : Addr} {od13 an13 : Option Addr} {sl13 : Array (Option Value)} {oc13 kV13 dc13 pm13 cd13 ct13 : Value}
    {f14 : Addr} {od14 an14 : Option Addr} {sl14 : Array (Option Value)} {oc14 kV14 dc14 pm14 cd14 ct14 : Value}
    {f15 : Addr} {od15 an15 : Option Addr} {sl15 : Array (Option Value)} {oc15 kV15 dc15 pm15 cd15 ct15 : Value}
    {f16 : Addr} {od16 an16 : Option Addr} {sl16 : Array (Option Value)} {oc16 kV16 dc16 pm16 cd16 ct16 : Value}
    {f17 : Addr} {od17 an17 : Option Addr} {sl17 : Array (Option Value)} {oc17 kV17 dc17 pm17 cd17 ct17 : Value}
    {f18 : Addr} {od18 an18 : Option Addr} {sl18 : Array (Option Value)} {oc18 kV18 dc18 pm18 cd18 ct18 : Value}
    {f19 : Addr} {od19 an19 : Option Addr} {sl19 : Array (Option Value)} {oc19 kV19 dc19 pm19 cd19 ct19 : Value}
    {f20 : Addr} {od20 an20 : Option Addr} {sl20 : Array (Option Value)} {oc20 kV20 dc20 pm20 cd20 ct20 : Value}
    {f21 : Addr} {od21 an21 : Option Addr} {sl21 : Array (Option Value)} {oc21 kV21 dc21 pm21 cd21 ct21 : Value}
    {f22 : Addr} {od22 an22 : Option Addr} {sl22 : Array (Option Value)} {oc22 kV22 dc22 pm22 cd22 ct22 : Value}
    {f23 : Addr} {od23 an23 : Option Addr} {sl23 : Array (Option Value)} {oc23 kV23 dc23 pm23 cd23 ct23 : Value}
    {f24 : Addr} {od24 an24 : Option Addr} {sl24 : Array (Option Value)} {oc24 kV24 dc24 pm24 cd24 ct24 : Value}
    {CAgainError : Addr}
    {CBadText : Addr}
    {fBadText0 : Addr} {odBadText0 anBadText0 : Option Addr} {slBadText0 : Array (Option Value)} {ocBadText0 kVBadText0 dcBadText0 pmBadText0 cdBadText0 ctBadText0 : Value}
    {CBadNumber : Addr}
    {fBadNumber0 : Addr} {odBadNumber0 anBadNumber0 : Option Addr} {slBadNumber0 : Array (Option Value)} {ocBadNumber0 kVBadNumber0 dcBadNumber0 pmBadNumber0 cdBadNumber0 ctBadNumber0 : Value}
    {CBadRow : Addr}
    {fBadRow0 : Addr} {odBadRow0 anBadRow0 : Option Addr} {slBadRow0 : Array (Option Value)} {ocBadRow0 kVBadRow0 dcBadRow0 pmBadRow0 cdBadRow0 ctBadRow0 : Value}
    {CNoName : Addr}
    {fNoName0 : Addr} {odNoName0 anNoName0 : Option Addr} {slNoName0 : Array (Option Value)} {ocNoName0 kVNoName0 dcNoName0 pmNoName0 cdNoName0 ctNoName0 : Value}
    {CUnlike : Addr}
    {fUnlike0 : Addr} {odUnlike0 anUnlike0 : Option Addr} {slUnlike0 : Array (Option Value)} {ocUnlike0 kVUnlike0 dcUnlike0 pmUnlike0 cdUnlike0 ctUnlike0 : Value}
    {CTooMany : Addr}
    {fTooMany0 : Addr} {odTooMany0 anTooMany0 : Option Addr} {slTooMany0 : Array (Option Value)} {ocTooMany0 kVTooMany0 dcTooMany0 pmTooMany0 cdTooMany0 ctTooMany0 : Value}
    {CCursor : Addr}
    {fCursor0 : Addr} {odCursor0 anCursor0 : Option Addr} {slCursor0 : Array (Option Value)} {ocCursor0 kVCursor0 dcCursor0 pmCursor0 cdCursor0 ctCursor0 : Value}
    {fCursor1 : Addr} {odCursor1 anCursor1 : Option Addr} {slCursor1 : Array (Option Value)} {ocCursor1 kVCursor1 dcCursor1 pmCursor1 cdCursor1 ctCursor1 : Value}
    {fCursor2 : Addr} {odCursor2 anCursor2 : Option Addr} {slCursor2 : Array (Option Value)} {ocCursor2 kVCursor2 dcCursor2 pmCursor2 cdCursor2 ctCursor2 : Value}
    {fCursor3 : Addr} {odCursor3 anCursor3 : Option Addr} {slCursor3 : Array (Option Value)} {ocCursor3 kVCursor3 dcCursor3 pmCursor3 cdCursor3 ctCursor3 : Value}
    {fCursor4 : Addr} {odCursor4 anCursor4 : Option Addr} {slCursor4 : Array (Option Value)} {ocCursor4 kVCursor4 dcCursor4 pmCursor4 cdCursor4 ctCursor4 : Value}
    {fCursor5 : Addr} {odCursor5 anCursor5 : Option Addr} {slCursor5 : Array (Option Value)} {ocCursor5 kVCursor5 dcCursor5 pmCursor5 cdCursor5 ctCursor5 : Value}
    {fCursor6 : Addr} {odCursor6 anCursor6 : Option Addr} {slCursor6 : Array (Option Value)} {ocCursor6 kVCursor6 dcCursor6 pmCursor6 cdCursor6 ctCursor6 : Value}
    {fCursor7 : Addr} {odCursor7 anCursor7 : Option Addr} {slCursor7 : Array (Option Value)} {ocCursor7 kVCursor7 dcCursor7 pmCursor7 cdCursor7 ctCursor7 : Value}
    {fCursor8 : Addr} {odCursor8 anCursor8 : Option Addr} {slCursor8 : Array (Option Value)} {ocCursor8 kVCursor8 dcCursor8 pmCursor8 cdCursor8 ctCursor8 : Value}
    {tFIGURES : Tok}
    {tNIL : Tok}
    {tEND : Tok}
    {tLETTERS : Tok}
    (a0 : PySem.W.nsIn K mainGlobals "_wall" = some (some (.ref f0)))
    (l0 : K.lookup f0 = some ⟨oc0, od0, .func (PySem.W.fnOf "_wall" "_wall" (defArgs s_wall) (defBody s_wall) (defScope s_wall) .none kV0 dc0 pm0 an0 cd0 ct0), sl0⟩)
    (c0 : PySem.W.codeIn K cd0 "_wall" = true)
    (k0 : PySem.W.keepIn K (.ref f0) = true)
    (a1 : PySem.W.nsIn K mainGlobals "rows_of" = some (some (.ref f1)))
    (l1 : K.lookup f1 = some ⟨oc1, od1, .func (PySem.W.fnOf "rows_of" "rows_of" (defArgs s_rows_of) (defBody s_rows_of) (defScope s_rows_of) .none kV1 dc1 pm1 an1 cd1 ct1), sl1⟩)
    (c1 : PySem.W.codeIn K cd1 "rows_of" = true)
    (k1 : PySem.W.keepIn K (.ref f1) = true)
    (a2 : PySem.W.nsIn K mainGlobals "is_name" = some (some (.ref f2)))
    (l2 : K.lookup f2 = some ⟨oc2, od2, .func (PySem.W.fnOf "is_name" "is_name" (defArgs s_is_name) (defBody s_is_name) (defScope s_is_name) .none kV2 dc2 pm2 an2 cd2 ct2), sl2⟩)
    (c2 : PySem.W.codeIn K cd2 "is_name" = true)
    (k2 : PySem.W.keepIn K (.ref f2) = true)
    (a3 : PySem.W.nsIn K mainGlobals "is_word" = some (some (.ref f3)))
    (l3 : K.lookup f3 = some ⟨oc3, od3, .func (PySem.W.fnOf "is_word" "is_word" (defArgs s_is_word) (defBody s_is_word) (defScope s_is_word) .none kV3 dc3 pm3 an3 cd3 ct3), sl3⟩)
    (c3 : PySem.W.codeIn K cd3 "is_word" = true)
    (k3 : PySem.W.keepIn K (.ref f3) = true)
    (a4 : PySem.W.nsIn K mainGlobals "order_of_word" = some (some (.ref f4)))
    (l4 : K.lookup f4 = some ⟨oc4, od4, .func (PySem.W.fnOf "order_of_word" "order_of_word" (defArgs s_order_of_word) (defBody s_order_of_word) (defScope s_order_of_word) .none kV4 dc4 pm4 an4 cd4 ct4), sl4⟩)
    (c4 : PySem.W.codeIn K cd4 "order_of_word" = true)
    (k4 : PySem.W.keepIn K (.ref f4) = true)
    (a5 : PySem.W.nsIn K mainGlobals "precedes" = some (some (.ref f5)))
    (l5 : K.lookup f5 = some ⟨oc5, od5, .func (PySem.W.fnOf "precedes" "precedes" (defArgs s_precedes) (defBody s_precedes) (defScope s_precedes) .none kV5 dc5 pm5 an5 cd5 ct5), sl5⟩)
    (c5 : PySem.W.codeIn K cd5 "precedes" = true)
    (k5 : PySem.W.keepIn K (.ref f5) = true)
    (a6 : PySem.W.nsIn K mainGlobals "word_text" = some (some (.ref f6)))
    (l6 : K.lookup f6 = some ⟨oc6, od6, .func (PySem.W.fnOf "word_text" "word_text" (defArgs s_word_text) (defBody s_word_text) (defScope s_word_text) .none kV6 dc6 pm6 an6 cd6 ct6), sl6⟩)
    (c6 : PySem.W.codeIn K cd6 "word_text" = true)
    (k6 : PySem.W.keepIn K (.ref f6) = true)
    (a7 : PySem.W.nsIn K mainGlobals "word_read" = some (some (.ref f7)))
    (l7 : K.lookup f7 = some ⟨oc7, od7, .func (PySem.W.fnOf "word_read" "word_read" (defArgs s_word_read) (defBody s_word_read) (defScope s_word_read) .none kV7 dc7 pm7 an7 cd7 ct7), sl7⟩)
    (c7 : PySem.W.codeIn K cd7 "word_read" = true)
    (k7 : PySem.W.keepIn K (.ref f7) = true)
    (a8 : PySem.W.nsIn K mainGlobals "_law_pen" = some (some (.ref f8)))
    (l8 : K.lookup f8 = some ⟨oc8, od8, .func (PySem.W.fnOf "_law_pen" "_law_pen" (defArgs s_law_pen) (defBody s_law_pen) (defScope s_law_pen) .none kV8 dc8 pm8 an8 cd8 ct8), sl8⟩)
    (c8 : PySem.W.codeIn K cd8 "_law_pen" = true)
    (k8 : PySem.W.keepIn K (.ref f8) = true)
    (a9 : PySem.W.nsIn K mainGlobals "_law_draw" = some (some (.ref f9)))
    (l9 : K.lookup f9 = some ⟨oc9, od9, .func (PySem.W.fnOf "_law_draw" "_law_draw" (defArgs s_law_draw) (defBody s_law_draw) (defScope s_law_draw) .none kV9 dc9 pm9 an9 cd9 ct9), sl9⟩)
    (c9 : PySem.W.codeIn K cd9 "_law_draw" = true)
    (k9 : PySem.W.keepIn K (.ref f9) = true)
    (a10 : PySem.W.nsIn K mainGlobals "_law_pick" = some (some (.ref f10)))
    (l10 : K.lookup f10 = some ⟨oc10, od10, .func (PySem.W.fnOf "_law_pick" "_law_pick" (defArgs s_law_pick) (defBody s_law_pick) (defScope s_law_pick) .none kV10 dc10 pm10 an10 cd10 ct10), sl10⟩)
    (c10 : PySem.W.codeIn K cd10 "_law_pick" = true)
    (k10 : PySem.W.keepIn K (.ref f10) = true)
    (a11 : PySem.W.nsIn K mainGlobals "_law_shuffled" = some (some (.ref f11)))
    (l11 : K.lookup f11 = some ⟨oc11, od11, .func (PySem.W.fnOf "_law_shuffled" "_law_shuffled" (defArgs s_law_shuffled) (defBody s_law_shuffled) (defScope s_law_shuffled) .none kV11 dc11 pm11 an11 cd11 ct11), sl11⟩)
    (c11 : PySem.W.codeIn K cd11 "_law_shuffled" = true)
    (k11 : PySem.W.keepIn K (.ref f11) = true)
    (a12 : PySem.W.nsIn K mainGlobals "_law_name" = some (some (.ref f12)))
    (l12 : K.lookup f12 = some ⟨oc12, od12, .func (PySem.W.fnOf "_law_name" "_law_name" (defArgs s_law_name) (defBody s_law_name) (defScope s_law_name) .none kV12 dc12 pm12 an12 cd12 ct12), sl12⟩)
    (c12 : PySem.W.codeIn K cd12 "_law_name" = true)
    (k12 : PySem.W.keepIn K (.ref f12) = true)
    (a13 : PySem.W.nsIn K mainGlobals "_law_names" = some (some (.ref f13)))
    (l13 : K.lookup f13 = some ⟨oc13, od13, .func (PySem.W.fnOf "_law_names" "_law_names" (defArgs s_law_names) (defBody s_law_names) (defScope s_law_names) .none kV13 dc13 pm13 an13 cd13 ct13), sl13⟩)
    (c13 : PySem.W.codeIn K cd13 "_law_names" = true)
    (k13 : PySem.W.keepIn K (.ref f13) = true)
    (a14 : PySem.W.nsIn K mainGlobals "_law_same" = some (some (.ref f14)))
    (l14 : K.lookup f14 = some ⟨oc14, od14, .func (PySem.W.fnOf "_law_same" "_law_same" (defArgs s_law_same) (defBody s_law_same) (defScope s_law_same) .none kV14 dc14 pm14 an14 cd14 ct14), sl14⟩)
    (c14 : PySem.W.codeIn K cd14 "_law_same" = true)
    (k14 : PySem.W.keepIn K (.ref f14) = true)
    (a15 : PySem.W.nsIn K mainGlobals "_law_is_name" = some (some (.ref f15)))
    (l15 : K.lookup f15 = some ⟨oc15, od15, .func (PySem.W.fnOf "_law_is_name" "_law_is_name" (defArgs s_law_is_name) (defBody s_law_is_name) (defScope s_law_is_name) .none kV15 dc15 pm15 an15 cd15 ct15), sl15⟩)
    (c15 : PySem.W.codeIn K cd15 "_law_is_name" = true)
    (k15 : PySem.W.keepIn K (.ref f15) = true)
    (a16 : PySem.W.nsIn K mainGlobals "_law_calls" = some (some (.ref f16)))
    (l16 : K.lookup f16 = some ⟨oc16, od16, .func (PySem.W.fnOf "_law_calls" "_law_calls" (defArgs s_law_calls) (defBody s_law_calls) (defScope s_law_calls) .none kV16 dc16 pm16 an16 cd16 ct16), sl16⟩)
    (c16 : PySem.W.codeIn K cd16 "_law_calls" = true)
    (k16 : PySem.W.keepIn K (.ref f16) = true)
    (a17 : PySem.W.nsIn K mainGlobals "_law_some_word" = some (some (.ref f17)))
    (l17 : K.lookup f17 = some ⟨oc17, od17, .func (PySem.W.fnOf "_law_some_word" "_law_some_word" (defArgs s_law_some_word) (defBody s_law_some_word) (defScope s_law_some_word) .none kV17 dc17 pm17 an17 cd17 ct17), sl17⟩)
    (c17 : PySem.W.codeIn K cd17 "_law_some_word" = true)
    (k17 : PySem.W.keepIn K (.ref f17) = true)
    (a18 : PySem.W.nsIn K mainGlobals "_law_odd_name" = some (some (.ref f18)))
    (l18 : K.lookup f18 = some ⟨oc18, od18, .func (PySem.W.fnOf "_law_odd_name" "_law_odd_name" (defArgs s_law_odd_name) (defBody s_law_odd_name) (defScope s_law_odd_name) .none kV18 dc18 pm18 an18 cd18 ct18), sl18⟩)
    (c18 : PySem.W.codeIn K cd18 "_law_odd_name" = true)
    (k18 : PySem.W.keepIn K (.ref f18) = true)
    (a19 : PySem.W.nsIn K mainGlobals "_law_before" = some (some (.ref f19)))
    (l19 : K.lookup f19 = some ⟨oc19, od19, .func (PySem.W.fnOf "_law_before" "_law_before" (defArgs s_law_before) (defBody s_law_before) (defScope s_law_before) .none kV19 dc19 pm19 an19 cd19 ct19), sl19⟩)
    (c19 : PySem.W.codeIn K cd19 "_law_before" = true)
    (k19 : PySem.W.keepIn K (.ref f19) = true)
    (a20 : PySem.W.nsIn K mainGlobals "_law_why" = some (some (.ref f20)))
    (l20 : K.lookup f20 = some ⟨oc20, od20, .func (PySem.W.fnOf "_law_why" "_law_why" (defArgs s_law_why) (defBody s_law_why) (defScope s_law_why) .none kV20 dc20 pm20 an20 cd20 ct20), sl20⟩)
    (c20 : PySem.W.codeIn K cd20 "_law_why" = true)
    (k20 : PySem.W.keepIn K (.ref f20) = true)
    (a21 : PySem.W.nsIn K mainGlobals "_law_bent_words" = some (some (.ref f21)))
    (l21 : K.lookup f21 = some ⟨oc21, od21, .func (PySem.W.fnOf "_law_bent_words" "_law_bent_words" (defArgs s_law_bent_words) (defBody s_law_bent_words) (defScope s_law_bent_words) .none kV21 dc21 pm21 an21 cd21 ct21), sl21⟩)
    (c21 : PySem.W.codeIn K cd21 "_law_bent_words" = true)
    (k21 : PySem.W.keepIn K (.ref f21) = true)
    (a22 : PySem.W.nsIn K mainGlobals "_law_first_wrong" = some (some (.ref f22)))
    (l22 : K.lookup f22 = some ⟨oc22, od22, .func (PySem.W.fnOf "_law_first_wrong" "_law_first_wrong" (defArgs s_law_first_wrong) (defBody s_law_first_wrong) (defScope s_law_first_wrong) .none kV22 dc22 pm22 an22 cd22 ct22), sl22⟩)
    (c22 : PySem.W.codeIn K cd22 "_law_first_wrong" = true)
    (k22 : PySem.W.keepIn K (.ref f22) = true)
    (a23 : PySem.W.nsIn K mainGlobals "_law_is_word" = some (some (.ref f23)))
    (l23 : K.lookup f23 = some ⟨oc23, od23, .func (PySem.W.fnOf "_law_is_word" "_law_is_word" (defArgs s_law_is_word) (defBody s_law_is_word) (defScope s_law_is_word) .none kV23 dc23 pm23 an23 cd23 ct23), sl23⟩)
    (c23 : PySem.W.codeIn K cd23 "_law_is_word" = true)
    (k23 : PySem.W.keepIn K (.ref f23) = true)
    (a24 : PySem.W.nsIn K mainGlobals "law" = some (some (.ref f24)))
    (l24 : K.lookup f24 = some ⟨oc24, od24, .func (PySem.W.fnOf "law" "law" (defArgs s_law) (defBody s_law) (defScope s_law) .none kV24 dc24 pm24 an24 cd24 ct24), sl24⟩)
    (c24 : PySem.W.codeIn K cd24 "law" = true)
    (k24 : PySem.W.keepIn K (.ref f24) = true)
    (gAgainError : PySem.W.nsIn K mainGlobals "AgainError" = some (some (.ref CAgainError)))
    (saAgainError : PySem.W.findIn K (.ref CAgainError) "__setattr__" = some (some (.builtin "object.__setattr__")))
    (kcAgainError : PySem.W.keepIn K (.ref CAgainError) = true)
    (hdAgainError : PySem.W.hasDictIn K CAgainError = true)
    (gaAgainError : PySem.W.findIn K (.ref CAgainError) "__getattribute__" = some (some (.builtin "BaseException.__getattribute__")))
    (ggAgainError : PySem.W.findIn K (.ref CAgainError) "__getattr__" = some none)
    (exAgainError : PySem.W.subIn K (.ref CAgainError) (.type "BaseException") = some true)
    (tyAgainError : PySem.W.typeIn K (.ref CAgainError) = some (.type "type"))
    (sbAgainError : PySem.W.subIn K (.ref CAgainError) (.ref CAgainError) = some true)
    (xlAgainError : ∃ nm q N bs bm sn sub ab col dd k0 k1 k2 k3 k5, K.lookup CAgainError = some (excClassObj nm q CAgainError N bs bm true sn sub ab col dd k0 k1 k2 k3 k5 "ValueError.__new__") ∧ PySem.HandSPX.refsVE bm = true)
    (gBadText : PySem.W.nsIn K mainGlobals "BadText" = some (some (.ref CBadText)))
    (aBadText0 : PySem.W.findIn K (.ref CBadText) "__init__" = some (some (.ref fBadText0)))
    (lBadText0 : K.lookup fBadText0 = some ⟨ocBadText0, odBadText0, .func (PySem.W.fnOf "__init__" "BadText.__init__" (defArgs s_BadText___init__) (defBody s_BadText___init__) (defScope s_BadText___init__) .none kVBadText0 dcBadText0 pmBadText0 anBadText0 cdBadText0 ctBadText0), slBadText0⟩)
    (cBadText0 : PySem.W.codeIn K cdBadText0 "BadText.__init__" = true)
    (kBadText0 : PySem.W.keepIn K (.ref fBadText0) = true)
    (tBadText0 : PySem.W.typeIn K (.ref fBadText0) = some (.type "function"))
    (nBadTextline : PySem.W.findIn K (.ref CBadText) "line" = some none)
    (nBadTextword : PySem.W.findIn K (.ref CBadText) "word" = some none)
    (saBadText : PySem.W.findIn K (.ref CBadText) "__setattr__" = some (some (.builtin "object.__setattr__")))
    (kcBadText : PySem.W.keepIn K (.ref CBadText) = true)
    (hdBadText : PySem.W.hasDictIn K CBadText = true)
    (gaBadText : PySem.W.findIn K (.ref CBadText) "__getattribute__" = some (some (.builtin "BaseException.__getattribute__")))
    (ggBadText : PySem.W.findIn K (.ref CBadText) "__getattr__" = some none)
    (exBadText : PySem.W.subIn K (.ref CBadText) (.type "BaseException") = some true)
    (tyBadText : PySem.W.typeIn K (.ref CBadText) = some (.type "type"))
    (sbBadText : PySem.W.subIn K (.ref CBadText) (.ref CBadText) = some true)
    (xlBadText : ∃ nm q N bs bm sn sub ab col dd k0 k1 k2 k3 k5, K.lookup CBadText = some (excClassObj nm q CBadText N bs bm true sn sub ab col dd k0 k1 k2 k3 k5 "ValueError.__new__") ∧ PySem.HandSPX.refsVE bm = true)
    (gBadNumber : PySem.W.nsIn K mainGlobals "BadNumber" = some (some (.ref CBadNumber)))
    (aBadNumber0 : PySem.W.findIn K (.ref CBadNumber) "__init__" = some (some (.ref fBadNumber0)))
    (lBadNumber0 : K.lookup fBadNumber0 = some ⟨ocBadNumber0, odBadNumber0, .func (PySem.W.fnOf "__init__" "BadNumber.__init__" (defArgs s_BadNumber___init__) (defBody s_BadNumber___init__) (defScope s_BadNumber___init__) .none kVBadNumber0 dcBadNumber0 pmBadNumber0 anBadNumber0 cdBadNumber0 ctBadNumber0), slBadNumber0⟩)
    (cBadNumber0 : PySem.W.codeIn K cdBadNumber0 "BadNumber.__init__" = true)
    (kBadNumber0 : PySem.W.keepIn K (.ref fBadNumber0) = true)
    (tBadNumber0 : PySem.W.typeIn K (.ref fBadNumber0) = some (.type "function"))
    (nBadNumberwhat : PySem.W.findIn K (.ref CBadNumber) "what" = some none)
    (nBadNumbernumber : PySem.W.findIn K (.ref CBadNumber) "number" = some none)
    (saBadNumber : PySem.W.findIn K (.ref CBadNumber) "__setattr__" = some (some (.builtin "object.__setattr__")))
    (kcBadNumber : PySem.W.keepIn K (.ref CBadNumber) = true)
    (hdBadNumber : PySem.W.hasDictIn K CBadNumber = true)
    (gaBadNumber : PySem.W.findIn K (.ref CBadNumber) "__getattribute__" = some (some (.builtin "BaseException.__getattribute__")))
    (ggBadNumber : PySem.W.findIn K (.ref CBadNumber) "__getattr__" = some none)
    (exBadNumber : PySem.W.subIn K (.ref CBadNumber) (.type "BaseException") = some true)
    (tyBadNumber : PySem.W.typeIn K (.ref CBadNumber) = some (.type "type"))
    (sbBadNumber : PySem.W.subIn K (.ref CBadNumber) (.ref CBadNumber) = some true)
    (xlBadNumber : ∃ nm q N bs bm sn sub ab col dd k0 k1 k2 k3 k5, K.lookup CBadNumber = some (excClassObj nm q CBadNumber N bs bm true sn sub ab col dd k0 k1 k2 k3 k5 "ValueError.__new__") ∧ PySem.HandSPX.refsVE bm = true)
    (gBadRow : PySem.W.nsIn K mainGlobals "BadRow" = some (some (.ref CBadRow)))
    (aBadRow0 : PySem.W.findIn K (.ref CBadRow) "__init__" = some (some (.ref fBadRow0)))
    (lBadRow0 : K.lookup fBadRow0 = some ⟨ocBadRow0, odBadRow0, .func (PySem.W.fnOf "__init__" "BadRow.__init__" (defArgs s_BadRow___init__) (defBody s_BadRow___init__) (defScope s_BadRow___init__) .none kVBadRow0 dcBadRow0 pmBadRow0 anBadRow0 cdBadRow0 ctBadRow0), slBadRow0⟩)
    (cBadRow0 : PySem.W.codeIn K cdBadRow0 "BadRow.__init__" = true)
    (kBadRow0 : PySem.W.keepIn K (.ref fBadRow0) = true)
    (tBadRow0 : PySem.W.typeIn K (.ref fBadRow0) = some (.type "function"))
    (nBadRowwhat : PySem.W.findIn K (.ref CBadRow) "what" = some none)
    (nBadRowrow : PySem.W.findIn K (.ref CBadRow) "row" = some none)
    (saBadRow : PySem.W.findIn K (.ref CBadRow) "__setattr__" = some (some (.builtin "object.__setattr__")))
    (kcBadRow : PySem.W.keepIn K (.ref CBadRow) = true)
    (hdBadRow : PySem.W.hasDictIn K CBadRow = true)
    (gaBadRow : PySem.W.findIn K (.ref CBadRow) "__getattribute__" = some (some (.builtin "BaseException.__getattribute__")))
    (ggBadRow : PySem.W.findIn K (.ref CBadRow) "__getattr__" = some none)
    (exBadRow : PySem.W.subIn K (.ref CBadRow) (.type "BaseException") = some true)
    (tyBadRow : PySem.W.typeIn K (.ref CBadRow) = some (.type "type"))
    (sbBadRow : PySem.W.subIn K (.ref CBadRow) (.ref CBadRow) = some true)
    (xlBadRow : ∃ nm q N bs bm sn sub ab col dd k0 k1 k2 k3 k5, K.lookup CBadRow = some (excClassObj nm q CBadRow N bs bm true sn sub ab col dd k0 k1 k2 k3 k5 "ValueError.__new__") ∧ PySem.HandSPX.refsVE bm = true)
    (gNoName : PySem.W.nsIn K mainGlobals "NoName" = some (some (.ref CNoName)))
    (aNoName0 : PySem.W.findIn K (.ref CNoName) "__init__" = some (some (.ref fNoName0)))
    (lNoName0 : K.lookup fNoName0 = some ⟨ocNoName0, odNoName0, .func (PySem.W.fnOf "__init__" "NoName.__init__" (defArgs s_NoName___init__) (defBody s_NoName___init__) (defScope s_NoName___init__) .none kVNoName0 dcNoName0 pmNoName0 anNoName0 cdNoName0 ctNoName0), slNoName0⟩)
    (cNoName0 : PySem.W.codeIn K cdNoName0 "NoName.__init__" = true)
    (kNoName0 : PySem.W.keepIn K (.ref fNoName0) = true)
    (tNoName0 : PySem.W.typeIn K (.ref fNoName0) = some (.type "function"))
    (nNoNamename : PySem.W.findIn K (.ref CNoName) "name" = some none)
    (saNoName : PySem.W.findIn K (.ref CNoName) "__setattr__" = some (some (.builtin "object.__setattr__")))
    (kcNoName : PySem.W.keepIn K (.ref CNoName) = true)
    (hdNoName : PySem.W.hasDictIn K CNoName = true)
    (gaNoName : PySem.W.findIn K (.ref CNoName) "__getattribute__" = some (some (.builtin "BaseException.__getattribute__")))
    (ggNoName : PySem.W.findIn K (.ref CNoName) "__getattr__" = some none)
    (exNoName : PySem.W.subIn K (.ref CNoName) (.type "BaseException") = some true)
    (tyNoName : PySem.W.typeIn K (.ref CNoName) = some (.type "type"))
    (sbNoName : PySem.W.subIn K (.ref CNoName) (.ref CNoName) = some true)
    (xlNoName : ∃ nm q N bs bm sn sub ab col dd k0 k1 k2 k3 k5, K.lookup CNoName = some (excClassObj nm q CNoName N bs bm true sn sub ab col dd k0 k1 k2 k3 k5 "ValueError.__new__") ∧ PySem.HandSPX.refsVE bm = true)
    (gUnlike : PySem.W.nsIn K mainGlobals "Unlike" = some (some (.ref CUnlike)))
    (aUnlike0 : PySem.W.findIn K (.ref CUnlike) "__init__" = some (some (.ref fUnlike0)))
    (lUnlike0 : K.lookup fUnlike0 = some ⟨ocUnlike0, odUnlike0, .func (PySem.W.fnOf "__init__" "Unlike.__init__" (defArgs s_Unlike___init__) (defBody s_Unlike___init__) (defScope s_Unlike___init__) .none kVUnlike0 dcUnlike0 pmUnlike0 anUnlike0 cdUnlike0 ctUnlike0), slUnlike0⟩)
    (cUnlike0 : PySem.W.codeIn K cdUnlike0 "Unlike.__init__" = true)
    (kUnlike0 : PySem.W.keepIn K (.ref fUnlike0) = true)
    (tUnlike0 : PySem.W.typeIn K (.ref fUnlike0) = some (.type "function"))
    (nUnlikewhat : PySem.W.findIn K (.ref CUnlike) "what" = some none)
    (saUnlike : PySem.W.findIn K (.ref CUnlike) "__setattr__" = some (some (.builtin "object.__setattr__")))
    (kcUnlike : PySem.W.keepIn K (.ref CUnlike) = true)
    (hdUnlike : PySem.W.hasDictIn K CUnlike = true)
    (gaUnlike : PySem.W.findIn K (.ref CUnlike) "__getattribute__" = some (some (.builtin "BaseException.__getattribute__")))
    (ggUnlike : PySem.W.findIn K (.ref CUnlike) "__getattr__" = some none)
    (exUnlike : PySem.W.subIn K (.ref CUnlike) (.type "BaseException") = some true)
    (tyUnlike : PySem.W.typeIn K (.ref CUnlike) = some (.type "type"))
    (sbUnlike : PySem.W.subIn K (.ref CUnlike) (.ref CUnlike) = some true)
    (xlUnlike : ∃ nm q N bs bm sn sub ab col dd k0 k1 k2 k3 k5, K.lookup CUnlike = some (excClassObj nm q CUnlike N bs bm true sn sub ab col dd k0 k1 k2 k3 k5 "ValueError.__new__") ∧ PySem.HandSPX.refsVE bm = true)
    (gTooMany : PySem.W.nsIn K mainGlobals "TooMany" = some (some (.ref CTooMany)))
    (aTooMany0 : PySem.W.findIn K (.ref CTooMany) "__init__" = some (some (.ref fTooMany0)))
    (lTooMany0 : K.lookup fTooMany0 = some ⟨ocTooMany0, odTooMany0, .func (PySem.W.fnOf "__init__" "TooMany.__init__" (defArgs s_TooMany___init__) (defBody s_TooMany___init__) (defScope s_TooMany___init__) .none kVTooMany0 dcTooMany0 pmTooMany0 anTooMany0 cdTooMany0 ctTooMany0), slTooMany0⟩)
    (cTooMany0 : PySem.W.codeIn K cdTooMany0 "TooMany.__init__" = true)
    (kTooMany0 : PySem.W.keepIn K (.ref fTooMany0) = true)
    (tTooMany0 : PySem.W.typeIn K (.ref fTooMany0) = some (.type "function"))
    (nTooManywhat : PySem.W.findIn K (.ref CTooMany) "what" = some none)
    (nTooManymany : PySem.W.findIn K (.ref CTooMany) "many" = some none)
    (nTooManylimit : PySem.W.findIn K (.ref CTooMany) "limit" = some none)
    (saTooMany : PySem.W.findIn K (.ref CTooMany) "__setattr__" = some (some (.builtin "object.__setattr__")))
    (kcTooMany : PySem.W.keepIn K (.ref CTooMany) = true)
    (hdTooMany : PySem.W.hasDictIn K CTooMany = true)
    (gaTooMany : PySem.W.findIn K (.ref CTooMany) "__getattribute__" = some (some (.builtin "BaseException.__getattribute__")))
    (ggTooMany : PySem.W.findIn K (.ref CTooMany) "__getattr__" = some none)
    (exTooMany : PySem.W.subIn K (.ref CTooMany) (.type "BaseException") = some true)
    (tyTooMany : PySem.W.typeIn K (.ref CTooMany) = some (.type "type"))
    (sbTooMany : PySem.W.subIn K (.ref CTooMany) (.ref CTooMany) = some true)
    (xlTooMany : ∃ nm q N bs bm sn sub ab col dd k0 k1 k2 k3 k5, K.lookup CTooMany = some (excClassObj nm q CTooMany N bs bm true sn sub ab col dd k0 k1 k2 k3 k5 "ValueError.__new__") ∧ PySem.HandSPX.refsVE bm = true)
    (gCursor : PySem.W.nsIn K mainGlobals "Cursor" = some (some (.ref CCursor)))
    (aCursor0 : PySem.W.findIn K (.ref CCursor) "__init__" = some (some (.ref fCursor0)))
    (lCursor0 : K.lookup fCursor0 = some ⟨ocCursor0, odCursor0, .func (PySem.W.fnOf "__init__" "Cursor.__init__" (defArgs s_Cursor___init__) (defBody s_Cursor___init__) (defScope s_Cursor___init__) .none kVCursor0 dcCursor0 pmCursor0 anCursor0 cdCursor0 ctCursor0), slCursor0⟩)
    (cCursor0 : PySem.W.codeIn K cdCursor0 "Cursor.__init__" = true)
    (kCursor0 : PySem.W.keepIn K (.ref fCursor0) = true)
    (iCursor0 : PySem.W.isFn K (.ref fCursor0) = true)
    (aCursor1 : PySem.W.findIn K (.ref CCursor) "seen" = some (some (.ref fCursor1)))
    (lCursor1 : K.lookup fCursor1 = some ⟨ocCursor1, odCursor1, .func (PySem.W.fnOf "seen" "Cursor.seen" (defArgs s_Cursor_seen) (defBody s_Cursor_seen) (defScope s_Cursor_seen) .none kVCursor1 dcCursor1 pmCursor1 anCursor1 cdCursor1 ctCursor1), slCursor1⟩)
    (cCursor1 : PySem.W.codeIn K cdCursor1 "Cursor.seen" = true)
    (kCursor1 : PySem.W.keepIn K (.ref fCursor1) = true)
    (iCursor1 : PySem.W.isFn K (.ref fCursor1) = true)
    (aCursor2 : PySem.W.findIn K (.ref CCursor) "refuse" = some (some (.ref fCursor2)))
    (lCursor2 : K.lookup fCursor2 = some ⟨ocCursor2, odCursor2, .func (PySem.W.fnOf "refuse" "Cursor.refuse" (defArgs s_Cursor_refuse) (defBody s_Cursor_refuse) (defScope s_Cursor_refuse) .none kVCursor2 dcCursor2 pmCursor2 anCursor2 cdCursor2 ctCursor2), slCursor2⟩)
    (cCursor2 : PySem.W.codeIn K cdCursor2 "Cursor.refuse" = true)
    (kCursor2 : PySem.W.keepIn K (.ref fCursor2) = true)
    (iCursor2 : PySem.W.isFn K (.ref fCursor2) = true)
    (aCursor3 : PySem.W.findIn K (.ref CCursor) "take" = some (some (.ref fCursor3)))
    (lCursor3 : K.lookup fCursor3 = some ⟨ocCursor3, odCursor3, .func (PySem.W.fnOf "take" "Cursor.take" (defArgs s_Cursor_take) (defBody s_Cursor_take) (defScope s_Cursor_take) .none kVCursor3 dcCursor3 pmCursor3 anCursor3 cdCursor3 ctCursor3), slCursor3⟩)
    (cCursor3 : PySem.W.codeIn K cdCursor3 "Cursor.take" = true)
    (kCursor3 : PySem.W.keepIn K (.ref fCursor3) = true)
    (iCursor3 : PySem.W.isFn K (.ref fCursor3) = true)
    (aCursor4 : PySem.W.findIn K (.ref CCursor) "need" = some (some (.ref fCursor4)))
    (lCursor4 : K.lookup fCursor4 = some ⟨ocCursor4, odCursor4, .func (PySem.W.fnOf "need" "Cursor.need" (defArgs s_Cursor_need) (defBody s_Cursor_need) (defScope s_Cursor_need) .none kVCursor4 dcCursor4 pmCursor4 anCursor4 cdCursor4 ctCursor4), slCursor4⟩)
    (cCursor4 : PySem.W.codeIn K cdCursor4 "Cursor.need" = true)
    (kCursor4 : PySem.W.keepIn K (.ref fCursor4) = true)
    (iCursor4 : PySem.W.isFn K (.ref fCursor4) = true)
    (aCursor5 : PySem.W.findIn K (.ref CCursor) "need_number" = some (some (.ref fCursor5)))
    (lCursor5 : K.lookup fCursor5 = some ⟨ocCursor5, odCursor5, .func (PySem.W.fnOf "need_number" "Cursor.need_number" (defArgs s_Cursor_need_number) (defBody s_Cursor_need_number) (defScope s_Cursor_need_number) .none kVCursor5 dcCursor5 pmCursor5 anCursor5 cdCursor5 ctCursor5), slCursor5⟩)
    (cCursor5 : PySem.W.codeIn K cdCursor5 "Cursor.need_number" = true)
    (kCursor5 : PySem.W.keepIn K (.ref fCursor5) = true)
    (iCursor5 : PySem.W.isFn K (.ref fCursor5) = true)
    (aCursor6 : PySem.W.findIn K (.ref CCursor) "need_end" = some (some (.ref fCursor6)))
    (lCursor6 : K.lookup fCursor6 = some ⟨ocCursor6, odCursor6, .func (PySem.W.fnOf "need_end" "Cursor.need_end" (defArgs s_Cursor_need_end) (defBody s_Cursor_need_end) (defScope s_Cursor_need_end) .none kVCursor6 dcCursor6 pmCursor6 anCursor6 cdCursor6 ctCursor6), slCursor6⟩)
    (cCursor6 : PySem.W.codeIn K cdCursor6 "Cursor.need_end" = true)
    (kCursor6 : PySem.W.keepIn K (.ref fCursor6) = true)
    (iCursor6 : PySem.W.isFn K (.ref fCursor6) = true)
    (aCursor7 : PySem.W.findIn K (.ref CCursor) "is_last" = some (some (.ref fCursor7)))
    (lCursor7 : K.lookup fCursor7 = some ⟨ocCursor7, odCursor7, .func (PySem.W.fnOf "is_last" "Cursor.is_last" (defArgs s_Cursor_is_last) (defBody s_Cursor_is_last) (defScope s_Cursor_is_last) .none kVCursor7 dcCursor7 pmCursor7 anCursor7 cdCursor7 ctCursor7), slCursor7⟩)
    (cCursor7 : PySem.W.codeIn K cdCursor7 "Cursor.is_last" = true)
    (kCursor7 : PySem.W.keepIn K (.ref fCursor7) = true)
    (iCursor7 : PySem.W.isFn K (.ref fCursor7) = true)
    (aCursor8 : PySem.W.findIn K (.ref CCursor) "goes_on" = some (some (.ref fCursor8)))
    (lCursor8 : K.lookup fCursor8 = some ⟨ocCursor8, odCursor8, .func (PySem.W.fnOf "goes_on" "Cursor.goes_on" (defArgs s_Cursor_goes_on) (defBody s_Cursor_goes_on) (defScope s_Cursor_goes_on) .none kVCursor8 dcCursor8 pmCursor8 anCursor8 cdCursor8 ctCursor8), slCursor8⟩)
    (cCursor8 : PySem.W.codeIn K cdCursor8 "Cursor.goes_on" = true)
    (kCursor8 : PySem.W.keepIn K (.ref fCursor8) = true)
    (iCursor8 : PySem.W.isFn K (.ref fCursor8) = true)
    (nCursorrows : PySem.W.findIn K (.ref CCursor) "rows" = some none)
    (nCursorline : PySem.W.findIn K (.ref CCursor) "line" = some none)
    (nCursorat : PySem.W.findIn K (.ref CCursor) "at" = some none)
    (saCursor : PySem.W.findIn K (.ref CCursor) "__setattr__" = some (some (.builtin "object.__setattr__")))
    (kcCursor : PySem.W.keepIn K (.ref CCursor) = true)
    (hdCursor : PySem.W.hasDictIn K CCursor = true)
    (pgCursor : PySem.W.plainGet K CCursor Str.empty = true)
    (poCursor : PySem.W.plainOver K CCursor = true)
    (miCursor : PySem.W.makesIn K CCursor = true)
    (gFIGURES : PySem.W.nsIn K mainGlobals "FIGURES" = some (some (.str "0123456789" tFIGURES)))
    (gNIL : PySem.W.nsIn K mainGlobals "NIL" = some (some (.str "nil" tNIL)))
    (gEND : PySem.W.nsIn K mainGlobals "END" = some (some (.str ";" tEND)))
    (gLETTERS : PySem.W.nsIn K mainGlobals "LETTERS" = some (some (.str "abcdefghijklmnopqrstuvwxyz" tLETTERS)))
    (ball : PySem.W.nsIn K mainGlobals "all" = some none)
    (btuple : PySem.W.nsIn K mainGlobals "tuple" = some none)
    (brange : PySem.W.nsIn K mainGlobals "range" = some none)
    (bisinstance : PySem.W.nsIn K mainGlobals "isinstance" = some none)
    (bint : PySem.W.nsIn K mainGlobals "int" = some none)
    (benumerate : PySem.W.nsIn K mainGlobals "enumerate" = some none)
    (bstr : PySem.W.nsIn K mainGlobals "str" = some none)
    (blen : PySem.W.nsIn K mainGlobals "len" = some none)
    (blist : PySem.W.nsIn K mainGlobals "list" = some none)
    (bsorted : PySem.W.nsIn K mainGlobals "sorted" = some none)
    (bbool : PySem.W.nsIn K mainGlobals "bool" = some none)
    (brepr : PySem.W.nsIn K mainGlobals "repr" = some none)
    (bzip : PySem.W.nsIn K mainGlobals "zip" = some none)
    (hcd : cd24 = .ref cc) (lcc : K.lookup cc = some ⟨xc, xo, .fields vsx, xs⟩) (hv : (vsx[11]? : Option Value) = some (.ref tb)) :
    LawG l w K 63 mg fa s := by
  have G := TP.g
  have htb : PySem.W.tabIn K "law" = some (cc, tb) := by
    simp only [PySem.W.tabIn, a24, l24, PySem.W.fnOf, hcd, lcc, hv]
  have e : f24 = fa := Value.ref.inj (Option.some.inj ((PySem.W.mg_of X G a24).symm.trans hfa))
  subst e
  let T : Txt w K mg := {
    a_wall := f0
    d_wall := (PySem.W.fnOf "_wall" "_wall" (defArgs s_wall) (defBody s_wall) (defScope s_wall) .none kV0 dc0 pm0 an0 cd0 ct0)
    D_wall := ⟨fun_mk (st := s_wall) l0 c0 k0, PySem.W.mg_of X G a0, (fun_mk (x := "_wall") (qual := "_wall") (st := s_wall) l0 c0 k0).binds (ps := ["k"]) fun _ _ _ _ _ _ us hl => match us, hl with | [_], _ => rfl⟩
    a_rows_of := f1
    d_rows_of := (PySem.W.fnOf "rows_of" "rows_of" (defArgs s_rows_of) (defBody s_rows_of) (defScope s_rows_of) .none kV1 dc1 pm1 an1 cd1 ct1)
    D_rows_of := ⟨fun_mk (st := s_rows_of) l1 c1 k1, PySem.W.mg_of X G a1, (fun_mk (x := "rows_of") (qual := "rows_of") (st := s_rows_of) l1 c1 k1).binds (ps := ["text"]) fun _ _ _ _ _ _ us hl => match us, hl with | [_], _ => rfl⟩
    a_is_name := f2
    d_is_name := (PySem.W.fnOf "is_name" "is_name" (defArgs s_is_name) (defBody s_is_name) (defScope s_is_name) .none kV2 dc2 pm2 an2 cd2 ct2)
    D_is_name := ⟨fun_mk (st := s_is_name) l2 c2 k2, PySem.W.mg_of X G a2, (fun_mk (x := "is_name") (qual := "is_name") (st := s_is_name) l2 c2 k2).binds (ps := ["value"]) fun _ _ _ _ _ _ us hl => match us, hl with | [_], _ => rfl⟩
    a_is_word := f3
    d_is_word := (PySem.W.fnOf "is_word" "is_word" (defArgs s_is_word) (defBody s_is_word) (defScope s_is_word) .none kV3 dc3 pm3 an3 cd3 ct3)
    D_is_word := ⟨fun_mk (st := s_is_word) l3 c3 k3, PySem.W.mg_of X G a3, (fun_mk (x := "is_word") (qual := "is_word") (st := s_is_word) l3 c3 k3).binds (ps := ["value"]) fun _ _ _ _ _ _ us hl => match us, hl with | [_], _ => rfl⟩
    a_order_of_word := f4
    d_order_of_word := (PySem.W.fnOf "order_of_word" "order_of_word" (defArgs s_order_of_word) (defBody s_order_of_word) (defScope s_order_of_word) .none kV4 dc4 pm4 an4 cd4 ct4)
    D_order_of_word := ⟨fun_mk (st := s_order_of_word) l4 c4 k4, PySem.W.mg_of X G a4, (fun_mk (x := "order_of_word") (qual := "order_of_word") (st := s_order_of_word) l4 c4 k4).binds (ps := ["word"]) fun _ _ _ _ _ _ us hl => match us, hl with | [_], _ => rfl⟩
    a_precedes := f5
    d_precedes := (PySem.W.fnOf "precedes" "precedes" (defArgs s_precedes) (defBody s_precedes) (defScope s_precedes) .none kV5 dc5 pm5 an5 cd5 ct5)
    D_precedes := ⟨fun_mk (st := s_precedes) l5 c5 k5, PySem.W.mg_of X G a5, (fun_mk (x := "precedes") (qual := "precedes") (st := s_precedes) l5 c5 k5).binds (ps := ["word", "other"]) fun _ _ _ _ _ _ us hl => match us, hl with | [_, _], _ => rfl⟩
    a_word_text := f6
    d_word_text := (PySem.W.fnOf "word_text" "word_text" (defArgs s_word_text) (defBody s_word_text) (defScope s_word_text) .none kV6 dc6 pm6 an6 cd6 ct6)
    D_word_text := ⟨fun_mk (st := s_word_text) l6 c6 k6, PySem.W.mg_of X G a6, (fun_mk (x := "word_text") (qual := "word_text") (st := s_word_text) l6 c6 k6).binds (ps := ["word"]) fun _ _ _ _ _ _ us hl => match us, hl with | [_], _ => rfl⟩
    a_word_read := f7
    d_word_read := (PySem.W.fnOf "word_read" "word_read" (defArgs s_word_read) (defBody s_word_read) (defScope s_word_read) .none kV7 dc7 pm7 an7 cd7 ct7)
    D_word_read := ⟨fun_mk (st := s_word_read) l7 c7 k7, PySem.W.mg_of X G a7, (fun_mk (x := "word_read") (qual := "word_read") (st := s_word_read) l7 c7 k7).binds (ps := ["text"]) fun _ _ _ _ _ _ us hl => match us, hl with | [_], _ => rfl⟩
    a_law_pen := f8
    d_law_pen := (PySem.W.fnOf "_law_pen" "_law_pen" (defArgs s_law_pen) (defBody s_law_pen) (defScope s_law_pen) .none kV8 dc8 pm8 an8 cd8 ct8)
    D_law_pen := ⟨fun_mk (st := s_law_pen) l8 c8 k8, PySem.W.mg_of X G a8, (fun_mk (x := "_law_pen") (qual := "_law_pen") (st := s_law_pen) l8 c8 k8).binds (ps := ["script"]) fun _ _ _ _ _ _ us hl => match us, hl with | [_], _ => rfl⟩
    a_law_draw := f9
    d_law_draw := (PySem.W.fnOf "_law_draw" "_law_draw" (defArgs s_law_draw) (defBody s_law_draw) (defScope s_law_draw) .none kV9 dc9 pm9 an9 cd9 ct9)
    D_law_draw := ⟨fun_mk (st := s_law_draw) l9 c9 k9, PySem.W.mg_of X G a9, (fun_mk (x := "_law_draw") (qual := "_law_draw") (st := s_law_draw) l9 c9 k9).binds (ps := ["pen", "many"]) fun _ _ _ _ _ _ us hl => match us, hl with | [_, _], _ => rfl⟩
    a_law_pick := f10
    d_law_pick := (PySem.W.fnOf "_law_pick" "_law_pick" (defArgs s_law_pick) (defBody s_law_pick) (defScope s_law_pick) .none kV10 dc10 pm10 an10 cd10 ct10)
    D_law_pick := ⟨fun_mk (st := s_law_pick) l10 c10 k10, PySem.W.mg_of X G a10, (fun_mk (x := "_law_pick") (qual := "_law_pick") (st := s_law_pick) l10 c10 k10).binds (ps := ["pen", "some"]) fun _ _ _ _ _ _ us hl => match us, hl with | [_, _], _ => rfl⟩
    a_law_shuffled := f11
    d_law_shuffled := (PySem.W.fnOf "_law_shuffled" "_law_shuffled" (defArgs s_law_shuffled) (defBody s_law_shuffled) (defScope s_law_shuffled) .none kV11 dc11 pm11 an11 cd11 ct11)
    D_law_shuffled := ⟨fun_mk (st := s_law_shuffled) l11 c11 k11, PySem.W.mg_of X G a11, (fun_mk (x := "_law_shuffled") (qual := "_law_shuffled") (st := s_law_shuffled) l11 c11 k11).binds (ps := ["pen", "some"]) fun _ _ _ _ _ _ us hl => match us, hl with | [_, _], _ => rfl⟩
    a_law_name := f12
    d_law_name := (PySem.W.fnOf "_law_name" "_law_name" (defArgs s_law_name) (defBody s_law_name) (defScope s_law_name) .none kV12 dc12 pm12 an12 cd12 ct12)
    D_law_name := ⟨fun_mk (st := s_law_name) l12 c12 k12, PySem.W.mg_of X G a12, (fun_mk (x := "_law_name") (qual := "_law_name") (st := s_law_name) l12 c12 k12).binds (ps := ["pen", "index"]) fun _ _ _ _ _ _ us hl => match us, hl with | [_, _], _ => rfl⟩
    a_law_names := f13
    d_law_names := (PySem.W.fnOf "_law_names" "_law_names" (defArgs s_law_names) (defBody s_law_names) (defScope s_law_names) .none kV13 dc13 pm13 an13 cd13 ct13)
    D_law_names := ⟨fun_mk (st := s_law_names) l13 c13 k13, PySem.W.mg_of X G a13, (fun_mk (x := "_law_names") (qual := "_law_names") (st := s_law_names) l13 c13 k13).binds (ps := ["pen", "many"]) fun _ _ _ _ _ _ us hl => match us, hl with | [_, _], _ => rfl⟩
    a_law_same := f14
    d_law_same := (PySem.W.fnOf "_law_same" "_law_same" (defArgs s_law_same) (defBody s_law_same) (defScope s_law_same) .none kV14 dc14 pm14 an14 cd14 ct14)
    D_law_same := ⟨fun_mk (st := s_law_same) l14 c14 k14, PySem.W.mg_of X G a14, (fun_mk (x := "_law_same") (qual := "_law_same") (st := s_law_same) l14 c14 k14).binds (ps := ["told", "due"]) fun _ _ _ _ _ _ us hl => match us, hl with | [_, _], _ => rfl⟩
    a_law_is_name := f15
    d_law_is_name := (PySem.W.fnOf "_law_is_name" "_law_is_name" (defArgs s_law_is_name) (defBody s_law_is_name) (defScope s_law_is_name) .none kV15 dc15 pm15 an15 cd15 ct15)
    D_law_is_name := ⟨fun_mk (st := s_law_is_name) l15 c15 k15, PySem.W.mg_of X G a15, (fun_mk (x := "_law_is_name") (qual := "_law_is_name") (st := s_law_is_name) l15 c15 k15).binds (ps := ["value"]) fun _ _ _ _ _ _ us hl => match us, hl with | [_], _ => rfl⟩
    a_law_calls := f16
    d_law_calls := (PySem.W.fnOf "_law_calls" "_law_calls" (defArgs s_law_calls) (defBody s_law_calls) (defScope s_law_calls) .none kV16 dc16 pm16 an16 cd16 ct16)
    D_law_calls := ⟨fun_mk (st := s_law_calls) l16 c16 k16, PySem.W.mg_of X G a16, (fun_mk (x := "_law_calls") (qual := "_law_calls") (st := s_law_calls) l16 c16 k16).binds (ps := ["pen", "many"]) fun _ _ _ _ _ _ us hl => match us, hl with | [_, _], _ => rfl⟩
    a_law_some_word := f17
    d_law_some_word := (PySem.W.fnOf "_law_some_word" "_law_some_word" (defArgs s_law_some_word) (defBody s_law_some_word) (defScope s_law_some_word) .none kV17 dc17 pm17 an17 cd17 ct17)
    D_law_some_word := ⟨fun_mk (st := s_law_some_word) l17 c17 k17, PySem.W.mg_of X G a17, (fun_mk (x := "_law_some_word") (qual := "_law_some_word") (st := s_law_some_word) l17 c17 k17).binds (ps := ["pen", "calls", "most"]) fun _ _ _ _ _ _ us hl => match us, hl with | [_, _, _], _ => rfl⟩
    a_law_odd_name := f18
    d_law_odd_name := (PySem.W.fnOf "_law_odd_name" "_law_odd_name" (defArgs s_law_odd_name) (defBody s_law_odd_name) (defScope s_law_odd_name) .none kV18 dc18 pm18 an18 cd18 ct18)
    D_law_odd_name := ⟨fun_mk (st := s_law_odd_name) l18 c18 k18, PySem.W.mg_of X G a18, (fun_mk (x := "_law_odd_name") (qual := "_law_odd_name") (st := s_law_odd_name) l18 c18 k18).binds (ps := ["pen", "name"]) fun _ _ _ _ _ _ us hl => match us, hl with | [_, _], _ => rfl⟩
    a_law_before := f19
    d_law_before := (PySem.W.fnOf "_law_before" "_law_before" (defArgs s_law_before) (defBody s_law_before) (defScope s_law_before) .none kV19 dc19 pm19 an19 cd19 ct19)
    D_law_before := ⟨fun_mk (st := s_law_before) l19 c19 k19, PySem.W.mg_of X G a19, (fun_mk (x := "_law_before") (qual := "_law_before") (st := s_law_before) l19 c19 k19).binds (ps := ["word"]) fun _ _ _ _ _ _ us hl => match us, hl with | [_], _ => rfl⟩
    a_law_why := f20
    d_law_why := (PySem.W.fnOf "_law_why" "_law_why" (defArgs s_law_why) (defBody s_law_why) (defScope s_law_why) .none kV20 dc20 pm20 an20 cd20 ct20)
    D_law_why := ⟨fun_mk (st := s_law_why) l20 c20 k20, PySem.W.mg_of X G a20, (fun_mk (x := "_law_why") (qual := "_law_why") (st := s_law_why) l20 c20 k20).binds (ps := ["call"]) fun _ _ _ _ _ _ us hl => match us, hl with | [_], _ => rfl⟩
    a_law_bent_words := f21
    d_law_bent_words := (PySem.W.fnOf "_law_bent_words" "_law_bent_words" (defArgs s_law_bent_words) (defBody s_law_bent_words) (defScope s_law_bent_words) .none kV21 dc21 pm21 an21 cd21 ct21)
    D_law_bent_words := ⟨fun_mk (st := s_law_bent_words) l21 c21 k21, PySem.W.mg_of X G a21, (fun_mk (x := "_law_bent_words") (qual := "_law_bent_words") (st := s_law_bent_words) l21 c21 k21).binds (ps := ["pen", "words", "more"]) fun _ _ _ _ _ _ us hl => match us, hl with | [_, _, _], _ => rfl⟩
    a_law_first_wrong := f22
    d_law_first_wrong := (PySem.W.fnOf "_law_first_wrong" "_law_first_wrong" (defArgs s_law_first_wrong) (defBody s_law_first_wrong) (defScope s_law_first_wrong) .none kV22 dc22 pm22 an22 cd22 ct22)
    D_law_first_wrong := ⟨fun_mk (st := s_law_first_wrong) l22 c22 k22, PySem.W.mg_of X G a22, (fun_mk (x := "_law_first_wrong") (qual := "_law_first_wrong") (st := s_law_first_wrong) l22 c22 k22).binds (ps := ["text"]) fun _ _ _ _ _ _ us hl => match us, hl with | [_], _ => rfl⟩
    a_law_is_word := f23
    d_law_is_word := (PySem.W.fnOf "_law_is_word" "_law_is_word" (defArgs s_law_is_word) (defBody s_law_is_word) (defScope s_law_is_word) .none kV23 dc23 pm23 an23 cd23 ct23)
    D_law_is_word := ⟨fun_mk (st := s_law_is_word) l23 c23 k23, PySem.W.mg_of X G a23, (fun_mk (x := "_law_is_word") (qual := "_law_is_word") (st := s_law_is_word) l23 c23 k23).binds (ps := ["value"]) fun _ _ _ _ _ _ us hl => match us, hl with | [_], _ => rfl⟩
    a_law := f24
    d_law := (PySem.W.fnOf "law" "law" (defArgs s_law) (defBody s_law) (defScope s_law) .none kV24 dc24 pm24 an24 cd24 ct24)
    D_law := ⟨fun_mk (st := s_law) l24 c24 k24, PySem.W.mg_of X G a24, (fun_mk (x := "law") (qual := "law") (st := s_law) l24 c24 k24).binds (ps := ["script"]) fun _ _ _ _ _ _ us hl => match us, hl with | [_], _ => rfl⟩
    C_AgainError := CAgainError
    g_AgainError := PySem.W.mg_of X G gAgainError
    ox_AgainError := ⟨xlAgainError, saAgainError, exAgainError, tyAgainError, kcAgainError⟩
    xf_AgainError := ⟨gaAgainError, ggAgainError, exAgainError, hdAgainError⟩
    sb_AgainError := sbAgainError
    C_BadText := CBadText
    g_BadText := PySem.W.mg_of X G gBadText
    a_BadText___init__ := fBadText0
    d_BadText___init__ := (PySem.W.fnOf "__init__" "BadText.__init__" (defArgs s_BadText___init__) (defBody s_BadText___init__) (defScope s_BadText___init__) .none kVBadText0 dcBadText0 pmBadText0 anBadText0 cdBadText0 ctBadText0)
    D_BadText___init__ := ⟨fun_mk (st := s_BadText___init__) lBadText0 cBadText0 kBadText0, (fun_mk (x := "__init__") (qual := "BadText.__init__") (st := s_BadText___init__) lBadText0 cBadText0 kBadText0).binds (ps := ["self", "line", "word"]) fun _ _ _ _ _ _ us hl => match us, hl with | [_, _, _], _ => rfl⟩
    ic_BadText := aBadText0
    ti_BadText := tBadText0
    na_BadText_line := nBadTextline
    na_BadText_word := nBadTextword
    ox_BadText := ⟨xlBadText, saBadText, exBadText, tyBadText, kcBadText⟩
    xf_BadText := ⟨gaBadText, ggBadText, exBadText, hdBadText⟩
    sb_BadText := sbBadText
    C_BadNumber := CBadNumber
    g_BadNumber := PySem.W.mg_of X G gBadNumber
    a_BadNumber___init__ := fBadNumber0
    d_BadNumber___init__ := (PySem.W.fnOf "__init__" "BadNumber.__init__" (defArgs s_BadNumber___init__) (defBody s_BadNumber___init__) (defScope s_BadNumber___init__) .none kVBadNumber0 dcBadNumber0 pmBadNumber0 anBadNumber0 cdBadNumber0 ctBadNumber0)
    D_BadNumber___init__ := ⟨fun_mk (st := s_BadNumber___init__) lBadNumber0 cBadNumber0 kBadNumber0, (fun_mk (x := "__init__") (qual := "BadNumber.__init__") (st := s_BadNumber___init__) lBadNumber0 cBadNumber0 kBadNumber0).binds (ps := ["self", "what", "number"]) fun _ _ _ _ _ _ us hl => match us, hl with | [_, _, _], _ => rfl⟩
    ic_BadNumber := aBadNumber0
    ti_BadNumber := tBadNumber0
    na_BadNumber_what := nBadNumberwhat
    na_BadNumber_number := nBadNumbernumber
    ox_BadNumber := ⟨xlBadNumber, saBadNumber, exBadNumber, tyBadNumber, kcBadNumber⟩
    xf_BadNumber := ⟨gaBadNumber, ggBadNumber, exBadNumber, hdBadNumber⟩
    sb_BadNumber := sbBadNumber
    C_BadRow := CBadRow
    g_BadRow := PySem.W.mg_of X G gBadRow
    a_BadRow___init__ := fBadRow0
    d_BadRow___init__ := (PySem.W.fnOf "__init__" "BadRow.__init__" (defArgs s_BadRow___init__) (defBody s_BadRow___init__) (defScope s_BadRow___init__) .none kVBadRow0 dcBadRow0 pmBadRow0 anBadRow0 cdBadRow0 ctBadRow0)
    D_BadRow___init__ := ⟨fun_mk (st := s_BadRow___init__) lBadRow0 cBadRow0 kBadRow0, (fun_mk (x := "__init__") (qual := "BadRow.__init__") (st := s_BadRow___init__) lBadRow0 cBadRow0 kBadRow0).binds (ps := ["self", "what", "row"]) fun _ _ _ _ _ _ us hl => match us, hl with | [_, _, _], _ => rfl⟩
    ic_BadRow := aBadRow0
    ti_BadRow := tBadRow0
    na_BadRow_what := nBadRowwhat
    na_BadRow_row := nBadRowrow
    ox_BadRow := ⟨xlBadRow, saBadRow, exBadRow, tyBadRow, kcBadRow⟩
    xf_BadRow := ⟨gaBadRow, ggBadRow, exBadRow, hdBadRow⟩
    sb_BadRow := sbBadRow
    C_NoName := CNoName
    g_NoName := PySem.W.mg_of X G gNoName
    a_NoName___init__ := fNoName0
    d_NoName___init__ := (PySem.W.fnOf "__init__" "NoName.__init__" (defArgs s_NoName___init__) (defBody s_NoName___init__) (defScope s_NoName___init__) .none kVNoName0 dcNoName0 pmNoName0 anNoName0 cdNoName0 ctNoName0)
    D_NoName___init__ := ⟨fun_mk (st := s_NoName___init__) lNoName0 cNoName0 kNoName0, (fun_mk (x := "__init__") (qual := "NoName.__init__") (st := s_NoName___init__) lNoName0 cNoName0 kNoName0).binds (ps := ["self", "name"]) fun _ _ _ _ _ _ us hl => match us, hl with | [_, _], _ => rfl⟩
    ic_NoName := aNoName0
    ti_NoName := tNoName0
    na_NoName_name := nNoNamename
    ox_NoName := ⟨xlNoName, saNoName, exNoName, tyNoName, kcNoName⟩
    xf_NoName := ⟨gaNoName, ggNoName, exNoName, hdNoName⟩
    sb_NoName := sbNoName
    C_Unlike := CUnlike
    g_Unlike := PySem.W.mg_of X G gUnlike
    a_Unlike___init__ := fUnlike0
    d_Unlike___init__ := (PySem.W.fnOf "__init__" "Unlike.__init__" (defArgs s_Unlike___init__) (defBody s_Unlike___init__) (defScope s_Unlike___init__) .none kVUnlike0 dcUnlike0 pmUnlike0 anUnlike0 cdUnlike0 ctUnlike0)
    D_Unlike___init__ := ⟨fun_mk (st := s_Unlike___init__) lUnlike0 cUnlike0 kUnlike0, (fun_mk (x := "__init__") (qual := "Unlike.__init__") (st := s_Unlike___init__) lUnlike0 cUnlike0 kUnlike0).binds (ps := ["self", "what"]) fun _ _ _ _ _ _ us hl => match us, hl with | [_, _], _ => rfl⟩
    ic_Unlike := aUnlike0
    ti_Unlike := tUnlike0
    na_Unlike_what := nUnlikewhat
    ox_Unlike := ⟨xlUnlike, saUnlike, exUnlike, tyUnlike, kcUnlike⟩
    xf_Unlike := ⟨gaUnlike, ggUnlike, exUnlike, hdUnlike⟩
    sb_Unlike := sbUnlike
    C_TooMany := CTooMany
    g_TooMany := PySem.W.mg_of X G gTooMany
    a_TooMany___init__ := fTooMany0
    d_TooMany___init__ := (PySem.W.fnOf "__init__" "TooMany.__init__" (defArgs s_TooMany___init__) (defBody s_TooMany___init__) (defScope s_TooMany___init__) .none kVTooMany0 dcTooMany0 pmTooMany0 anTooMany0 cdTooMany0 ctTooMany0)
    D_TooMany___init__ := ⟨fun_mk (st := s_TooMany___init__) lTooMany0 cTooMany0 kTooMany0, (fun_mk (x := "__init__") (qual := "TooMany.__init__") (st := s_TooMany___init__) lTooMany0 cTooMany0 kTooMany0).binds (ps := ["self", "what", "many", "limit"]) fun _ _ _ _ _ _ us hl => match us, hl with | [_, _, _, _], _ => rfl⟩
    ic_TooMany := aTooMany0
    ti_TooMany := tTooMany0
    na_TooMany_what := nTooManywhat
    na_TooMany_many := nTooManymany
    na_TooMany_limit := nTooManylimit
    ox_TooMany := ⟨xlTooMany, saTooMany, exTooMany, tyTooMany, kcTooMany⟩
    xf_TooMany := ⟨gaTooMany, ggTooMany, exTooMany, hdTooMany⟩
    sb_TooMany := sbTooMany
    C_Cursor := CCursor
    g_Cursor := PySem.W.mg_of X G gCursor
    a_Cursor___init__ := fCursor0
    d_Cursor___init__ := (PySem.W.fnOf "__init__" "Cursor.__init__" (defArgs s_Cursor___init__) (defBody s_Cursor___init__) (defScope s_Cursor___init__) .none kVCursor0 dcCursor0 pmCursor0 anCursor0 cdCursor0 ctCursor0)
    D_Cursor___init__ := ⟨fun_mk (st := s_Cursor___init__) lCursor0 cCursor0 kCursor0, (fun_mk (x := "__init__") (qual := "Cursor.__init__") (st := s_Cursor___init__) lCursor0 cCursor0 kCursor0).binds (ps := ["self", "rows"]) fun _ _ _ _ _ _ us hl => match us, hl with | [_, _], _ => rfl⟩
    mk_Cursor := ⟨miCursor, aCursor0, iCursor0, kcCursor⟩
    a_Cursor_seen := fCursor1
    d_Cursor_seen := (PySem.W.fnOf "seen" "Cursor.seen" (defArgs s_Cursor_seen) (defBody s_Cursor_seen) (defScope s_Cursor_seen) .none kVCursor1 dcCursor1 pmCursor1 anCursor1 cdCursor1 ctCursor1)
    D_Cursor_seen := ⟨fun_mk (st := s_Cursor_seen) lCursor1 cCursor1 kCursor1, (fun_mk (x := "seen") (qual := "Cursor.seen") (st := s_Cursor_seen) lCursor1 cCursor1 kCursor1).binds (ps := ["self"]) fun _ _ _ _ _ _ us hl => match us, hl with | [_], _ => rfl⟩
    mt_Cursor_seen := ⟨aCursor1, iCursor1, kCursor1⟩
    a_Cursor_refuse := fCursor2
    d_Cursor_refuse := (PySem.W.fnOf "refuse" "Cursor.refuse" (defArgs s_Cursor_refuse) (defBody s_Cursor_refuse) (defScope s_Cursor_refuse) .none kVCursor2 dcCursor2 pmCursor2 anCursor2 cdCursor2 ctCursor2)
    D_Cursor_refuse := ⟨fun_mk (st := s_Cursor_refuse) lCursor2 cCursor2 kCursor2, (fun_mk (x := "refuse") (qual := "Cursor.refuse") (st := s_Cursor_refuse) lCursor2 cCursor2 kCursor2).binds (ps := ["self"]) fun _ _ _ _ _ _ us hl => match us, hl with | [_], _ => rfl⟩
    mt_Cursor_refuse := ⟨aCursor2, iCursor2, kCursor2⟩
    a_Cursor_take := fCursor3
    d_Cursor_take := (PySem.W.fnOf "take" "Cursor.take" (defArgs s_Cursor_take) (defBody s_Cursor_take) (defScope s_Cursor_take) .none kVCursor3 dcCursor3 pmCursor3 anCursor3 cdCursor3 ctCursor3)
    D_Cursor_take := ⟨fun_mk (st := s_Cursor_take) lCursor3 cCursor3 kCursor3, (fun_mk (x := "take") (qual := "Cursor.take") (st := s_Cursor_take) lCursor3 cCursor3 kCursor3).binds (ps := ["self", "is_right"]) fun _ _ _ _ _ _ us hl => match us, hl with | [_, _], _ => rfl⟩
    mt_Cursor_take := ⟨aCursor3, iCursor3, kCursor3⟩
    a_Cursor_need := fCursor4
    d_Cursor_need := (PySem.W.fnOf "need" "Cursor.need" (defArgs s_Cursor_need) (defBody s_Cursor_need) (defScope s_Cursor_need) .none kVCursor4 dcCursor4 pmCursor4 anCursor4 cdCursor4 ctCursor4)
    D_Cursor_need := ⟨fun_mk (st := s_Cursor_need) lCursor4 cCursor4 kCursor4, (fun_mk (x := "need") (qual := "Cursor.need") (st := s_Cursor_need) lCursor4 cCursor4 kCursor4).binds (ps := ["self", "some"]) fun _ _ _ _ _ _ us hl => match us, hl with | [_, _], _ => rfl⟩
    mt_Cursor_need := ⟨aCursor4, iCursor4, kCursor4⟩
    a_Cursor_need_number := fCursor5
    d_Cursor_need_number := (PySem.W.fnOf "need_number" "Cursor.need_number" (defArgs s_Cursor_need_number) (defBody s_Cursor_need_number) (defScope s_Cursor_need_number) .none kVCursor5 dcCursor5 pmCursor5 anCursor5 cdCursor5 ctCursor5)
    D_Cursor_need_number := ⟨fun_mk (st := s_Cursor_need_number) lCursor5 cCursor5 kCursor5, (fun_mk (x := "need_number") (qual := "Cursor.need_number") (st := s_Cursor_need_number) lCursor5 cCursor5 kCursor5).binds (ps := ["self", "least", "most"]) fun _ _ _ _ _ _ us hl => match us, hl with | [_, _, _], _ => rfl⟩
    mt_Cursor_need_number := ⟨aCursor5, iCursor5, kCursor5⟩
    a_Cursor_need_end := fCursor6
    d_Cursor_need_end := (PySem.W.fnOf "need_end" "Cursor.need_end" (defArgs s_Cursor_need_end) (defBody s_Cursor_need_end) (defScope s_Cursor_need_end) .none kVCursor6 dcCursor6 pmCursor6 anCursor6 cdCursor6 ctCursor6)
    D_Cursor_need_end := ⟨fun_mk (st := s_Cursor_need_end) lCursor6 cCursor6 kCursor6, (fun_mk (x := "need_end") (qual := "Cursor.need_end") (st := s_Cursor_need_end) lCursor6 cCursor6 kCursor6).binds (ps := ["self"]) fun _ _ _ _ _ _ us hl => match us, hl with | [_], _ => rfl⟩
    mt_Cursor_need_end := ⟨aCursor6, iCursor6, kCursor6⟩
    a_Cursor_is_last := fCursor7
    d_Cursor_is_last := (PySem.W.fnOf "is_last" "Cursor.is_last" (defArgs s_Cursor_is_last) (defBody s_Cursor_is_last) (defScope s_Cursor_is_last) .none kVCursor7 dcCursor7 pmCursor7 anCursor7 cdCursor7 ctCursor7)
    D_Cursor_is_last := ⟨fun_mk (st := s_Cursor_is_last) lCursor7 cCursor7 kCursor7, (fun_mk (x := "is_last") (qual := "Cursor.is_last") (st := s_Cursor_is_last) lCursor7 cCursor7 kCursor7).binds (ps := ["self"]) fun _ _ _ _ _ _ us hl => match us, hl with | [_], _ => rfl⟩
    mt_Cursor_is_last := ⟨aCursor7, iCursor7, kCursor7⟩
    a_Cursor_goes_on := fCursor8
    d_Cursor_goes_on := (PySem.W.fnOf "goes_on" "Cursor.goes_on" (defArgs s_Cursor_goes_on) (defBody s_Cursor_goes_on) (defScope s_Cursor_goes_on) .none kVCursor8 dcCursor8 pmCursor8 anCursor8 cdCursor8 ctCursor8)
    D_Cursor_goes_on := ⟨fun_mk (st := s_Cursor_goes_on) lCursor8 cCursor8 kCursor8, (fun_mk (x := "goes_on") (qual := "Cursor.goes_on") (st := s_Cursor_goes_on) lCursor8 cCursor8 kCursor8).binds (ps := ["self", "may_end", "may_follow"]) fun _ _ _ _ _ _ us hl => match us, hl with | [_, _, _], _ => rfl⟩
    mt_Cursor_goes_on := ⟨aCursor8, iCursor8, kCursor8⟩
    na_Cursor_rows := nCursorrows
    na_Cursor_line := nCursorline
    na_Cursor_at := nCursorat
    cl_Cursor := ⟨pgCursor, hdCursor, poCursor, saCursor⟩
    t_FIGURES := tFIGURES
    g_FIGURES := PySem.W.mg_of X G gFIGURES
    t_NIL := tNIL
    g_NIL := PySem.W.mg_of X G gNIL
    t_END := tEND
    g_END := PySem.W.mg_of X G gEND
    t_LETTERS := tLETTERS
    g_LETTERS := PySem.W.mg_of X G gLETTERS
    b_all := PySem.W.mg_none_of X G ball
    b_tuple := PySem.W.mg_none_of X G btuple
    b_range := PySem.W.mg_none_of X G brange
    b_isinstance := PySem.W.mg_none_of X G bisinstance
    b_int := PySem.W.mg_none_of X G bint
    b_enumerate := PySem.W.mg_none_of X G benumerate
    b_str := PySem.W.mg_none_of X G bstr
    b_len := PySem.W.mg_none_of X G blen
    b_list := PySem.W.mg_none_of X G blist
    b_sorted := PySem.W.mg_none_of X G bsorted
    b_bool := PySem.W.mg_none_of X G bbool
    b_repr := PySem.W.mg_none_of X G brepr
    b_zip := PySem.W.mg_none_of X G bzip }
  obtain ⟨hd, ht⟩ := PySem.W.tab_of TP X hrec htb
  refine ⟨[(cc, tb)], fun p hp => by rw [List.mem_singleton.mp hp]; exact ht, fun p hp => by rw [List.mem_singleton.mp hp]; exact ntb, fun p hp => by rw [List.mem_singleton.mp hp]; exact hd, fun a ns base H hl _ _ _ hTB hT hs e0 => ?_⟩
  exact law_runs T (PySem.W.law_code X G htb hfa (X _ _ l24) rfl) (hTB _ (List.mem_singleton.mpr rfl)) (hT _ (List.mem_singleton.mpr rfl)) hs hl e0
end Ag
open PySem PySem.W PyProof.Rows in
set_option maxRecDepth 100000 in
set_option maxHeartbeats 0 in
theorem PySem.Challenge.cw_againnotes_k02_names_and_words_holds : PySem.Challenge.rw_againnotes_k02_names_and_words.Holds := by
  w_on; o_law; k_head; (case hw => w_witness2)
  k_fill
  refine Ag.walk_G (l := PySem.Challenge.rw_againnotes_k02_names_and_words) (n := 63) rfl (by decide) rfl (fun w h Y => PySem.W.km_in_of Y) ?F
  case F =>
    intro w mg mb fa s mean TP KX hmg
    refine' Ag.all_mk TP KX ?hrec ?ntb hmg ?a0 ?l0 ?c0 ?k0 ?a1 ?l1 ?c1 ?k1 ?a2 ?l2 ?c2 ?k2 ?a3 ?l3 ?c3 ?k3 ?a4 ?l4 ?c4 ?k4 ?a5 ?l5 ?c5 ?k5 ?a6 ?l6 ?c6 ?k6 ?a7 ?l7 ?c7 ?k7 ?a8 ?l8 ?c8 ?k8 ?a9 ?l9 ?c9 ?k9 ?a10 ?l10 ?c10 ?k10 ?a11 ?l11 ?c11 ?k11 ?a12 ?l12 ?c12 ?k12 ?a13 ?l13 ?c13 ?k13 ?a14 ?l14 ?c14 ?k14 ?a15 ?l15 ?c15 ?k15 ?a16 ?l16 ?c16 ?k16 ?a17 ?l17 ?c17 ?k17 ?a18 ?l18 ?c18 ?k18 ?a19 ?l19 ?c19 ?k19 ?a20 ?l20 ?c20 ?k20 ?a21 ?l21 ?c21 ?k21 ?a22 ?l22 ?c22 ?k22 ?a23 ?l23 ?c23 ?k23 ?a24 ?l24 ?c24 ?k24 ?gAgainError ?saAgainError ?kcAgainError ?hdAgainError ?gaAgainError ?ggAgainError ?exAgainError ?tyAgainError ?sbAgainError ?xlAgainError ?gBadText ?aBadText0 ?lBadText0 ?cBadText0 ?kBadText0 ?tBadText0 ?nBadTextline ?nBadTextword ?saBadText ?kcBadText ?hdBadText ?gaBadText ?ggBadText ?exBadText ?tyBadText ?sbBadText ?xlBadText ?gBadNumber ?aBadNumber0 ?lBadNumber0 ?cBadNumber0 ?kBadNumber0 ?tBadNumber0 ?nBadNumberwhat ?nBadNumbernumber ?saBadNumber ?kcBadNumber ?hdBadNumber ?gaBadNumber ?ggBadNumber ?exBadNumber ?tyBadNumber ?sbBadNumber ?xlBadNumber ?gBadRow ?aBadRow0 ?lBadRow0 ?cBadRow0 ?kBadRow0 ?tBadRow0 ?nBadRowwhat ?nBadRowrow ?saBadRow ?kcBadRow ?hdBadRow ?gaBadRow ?ggBadRow ?exBadRow ?tyBadRow ?sbBadRow ?xlBadRow ?gNoName ?aNoName0 ?lNoName0 ?cNoName0 ?kNoName0 ?tNoName0 ?nNoNamename ?saNoName ?kcNoName ?hdNoName ?gaNoName ?ggNoName ?exNoName ?tyNoName ?sbNoName ?xlNoName ?gUnlike ?aUnlike0 ?lUnlike0 ?cUnlike0 ?kUnlike0 ?tUnlike0 ?nUnlikewhat ?saUnlike ?kcUnlike ?hdUnlike ?gaUnlike ?ggUnlike ?exUnlike ?tyUnlike ?sbUnlike ?xlUnlike ?gTooMany ?aTooMany0 ?lTooMany0 ?cTooMany0 ?kTooMany0 ?tTooMany0 ?nTooManywhat ?nTooManymany ?nTooManylimit ?saTooMany ?kcTooMany ?hdTooMany ?gaTooMany ?ggTooMany ?exTooMany ?tyTooMany ?sbTooMany ?xlTooMany ?gCursor ?aCursor0 ?lCursor0 ?cCursor0 ?kCursor0 ?iCursor0 ?aCursor1 ?lCursor1 ?cCursor1 ?kCursor1 ?iCursor1 ?aCursor2 ?lCursor2 ?cCursor2 ?kCursor2 ?iCursor2 ?aCursor3 ?lCursor3 ?cCursor3 ?kCursor3 ?iCursor3 ?aCursor4 ?lCursor4 ?cCursor4 ?kCursor4 ?iCursor4 ?aCursor5 ?lCursor5 ?cCursor5 ?kCursor5 ?iCursor5 ?aCursor6 ?lCursor6 ?cCursor6 ?kCursor6 ?iCursor6 ?aCursor7 ?lCursor7 ?cCursor7 ?kCursor7 ?iCursor7 ?aCursor8 ?lCursor8 ?cCursor8 ?kCursor8 ?iCursor8 ?nCursorrows ?nCursorline ?nCursorat ?saCursor ?kcCursor ?hdCursor ?pgCursor ?poCursor ?miCursor ?gFIGURES ?gNIL ?gEND ?gLETTERS ?ball ?btuple ?brange ?bisinstance ?bint ?benumerate ?bstr ?blen ?blist ?bsorted ?bbool ?brepr ?bzip ?hcd ?lcc ?hv
    (case hrec => rfl)
    (case a0 => k_is)
    (case l0 => k_is)
    (case c0 => k_is)
    (case k0 => k_is)
    (case a1 => k_is)
    (case l1 => k_is)
    (case c1 => k_is)
    (case k1 => k_is)
    (case a2 => k_is)
    (case l2 => k_is)
    (case c2 => k_is)
    (case k2 => k_is)
    (case a3 => k_is)
    (case l3 => k_is)
    (case c3 => k_is)
    (case k3 => k_is)
    (case a4 => k_is)
    (case l4 => k_is)
    (case c4 => k_is)
    (case k4 => k_is)
    (case a5 => k_is)
    (case l5 => k_is)
    (case c5 => k_is)
    (case k5 => k_is)
    (case a6 => k_is)
    (case l6 => k_is)
    (case c6 => k_is)
    (case k6 => k_is)
    (case a7 => k_is)
    (case l7 => k_is)
    (case c7 => k_is)
    (case k7 => k_is)
    (case a8 => k_is)
    (case l8 => k_is)
    (case c8 => k_is)
    (case k8 => k_is)
    (case a9 => k_is)
    (case l9 => k_is)
    (case c9 => k_is)
    (case k9 => k_is)
    (case a10 => k_is)
    (case l10 => k_is)
    (case c10 => k_is)
    (case k10 => k_is)
    (case a11 => k_is)
    (case l11 => k_is)
    (case c11 => k_is)
    (case k11 => k_is)
    (case a12 => k_is)
    (case l12 => k_is)
    (case c12 => k_is)
    (case k12 => k_is)
    (case a13 => k_is)
    (case l13 => k_is)
    (case c13 => k_is)
    (case k13 => k_is)
    (case a14 => k_is)
    (case l14 => k_is)
    (case c14 => k_is)
    (case k14 => k_is)
    (case a15 => k_is)
    (case l15 => k_is)
    (case c15 => k_is)
    (case k15 => k_is)
    (case a16 => k_is)
    (case l16 => k_is)
    (case c16 => k_is)
    (case k16 => k_is)
    (case a17 => k_is)
    (case l17 => k_is)
    (case c17 => k_is)
    (case k17 => k_is)
    (case a18 => k_is)
    (case l18 => k_is)
    (case c18 => k_is)
    (case k18 => k_is)
    (case a19 => k_is)
    (case l19 => k_is)
    (case c19 => k_is)
    (case k19 => k_is)
    (case a20 => k_is)
    (case l20 => k_is)
    (case c20 => k_is)
    (case k20 => k_is)
    (case a21 => k_is)
    (case l21 => k_is)
    (case c21 => k_is)
    (case k21 => k_is)
    (case a22 => k_is)
    (case l22 => k_is)
    (case c22 => k_is)
    (case k22 => k_is)
    (case a23 => k_is)
    (case l23 => k_is)
    (case c23 => k_is)
    (case k23 => k_is)
    (case a24 => k_is)
    (case l24 => k_is)
    (case c24 => k_is)
    (case k24 => k_is)
    (case gAgainError => k_is)
    (case saAgainError => k_is)
    (case kcAgainError => k_is)
    (case hdAgainError => k_is)
    (case gaAgainError => k_is)
    (case ggAgainError => k_is)
    (case exAgainError => k_is)
    (case tyAgainError => k_is)
    (case sbAgainError => k_is)
    (case xlAgainError => exact ⟨_, _, _, _, _, _, _, _, _, _, _, _, _, _, _, by k_is, by rfl⟩)
    (case gBadText => k_is)
    (case aBadText0 => k_is)
    (case lBadText0 => k_is)
    (case cBadText0 => k_is)
    (case kBadText0 => k_is)
    (case tBadText0 => k_is)
    (case nBadTextline => k_is)
    (case nBadTextword => k_is)
    (case saBadText => k_is)
    (case kcBadText => k_is)
    (case hdBadText => k_is)
    (case gaBadText => k_is)
    (case ggBadText => k_is)
    (case exBadText => k_is)
    (case tyBadText => k_is)
    (case sbBadText => k_is)
    (case xlBadText => exact ⟨_, _, _, _, _, _, _, _, _, _, _, _, _, _, _, by k_is, by rfl⟩)
    (case gBadNumber => k_is)
    (case aBadNumber0 => k_is)
    (case lBadNumber0 => k_is)
    (case cBadNumber0 => k_is)
    (case kBadNumber0 => k_is)
    (case tBadNumber0 => k_is)
    (case nBadNumberwhat => k_is)
    (case nBadNumbernumber => k_is)
    (case saBadNumber => k_is)
    (case kcBadNumber => k_is)
    (case hdBadNumber => k_is)
    (case gaBadNumber => k_is)
    (case ggBadNumber => k_is)
    (case exBadNumber => k_is)
    (case tyBadNumber => k_is)
    (case sbBadNumber => k_is)
    (case xlBadNumber => exact ⟨_, _, _, _, _, _, _, _, _, _, _, _, _, _, _, by k_is, by rfl⟩)
    (case gBadRow => k_is)
    (case aBadRow0 => k_is)
    (case lBadRow0 => k_is)
    (case cBadRow0 => k_is)
    (case kBadRow0 => k_is)
    (case tBadRow0 => k_is)
    (case nBadRowwhat => k_is)
    (case nBadRowrow => k_is)
    (case saBadRow => k_is)
    (case kcBadRow => k_is)
    (case hdBadRow => k_is)
    (case gaBadRow => k_is)
    (case ggBadRow => k_is)
    (case exBadRow => k_is)
    (case tyBadRow => k_is)
    (case sbBadRow => k_is)
    (case xlBadRow => exact ⟨_, _, _, _, _, _, _, _, _, _, _, _, _, _, _, by k_is, by rfl⟩)
    (case gNoName => k_is)
    (case aNoName0 => k_is)
    (case lNoName0 => k_is)
    (case cNoName0 => k_is)
    (case kNoName0 => k_is)
    (case tNoName0 => k_is)
    (case nNoNamename => k_is)
    (case saNoName => k_is)
    (case kcNoName => k_is)
    (case hdNoName => k_is)
    (case gaNoName => k_is)
    (case ggNoName => k_is)
    (case exNoName => k_is)
    (case tyNoName => k_is)
    (case sbNoName => k_is)
    (case xlNoName => exact ⟨_, _, _, _, _, _, _, _, _, _, _, _, _, _, _, by k_is, by rfl⟩)
    (case gUnlike => k_is)
    (case aUnlike0 => k_is)
    (case lUnlike0 => k_is)
    (case cUnlike0 => k_is)
    (case kUnlike0 => k_is)
    (case tUnlike0 => k_is)
    (case nUnlikewhat => k_is)
    (case saUnlike => k_is)
    (case kcUnlike => k_is)
    (case hdUnlike => k_is)
    (case gaUnlike => k_is)
    (case ggUnlike => k_is)
    (case exUnlike => k_is)
    (case tyUnlike => k_is)
    (case sbUnlike => k_is)
    (case xlUnlike => exact ⟨_, _, _, _, _, _, _, _, _, _, _, _, _, _, _, by k_is, by rfl⟩)
    (case gTooMany => k_is)
    (case aTooMany0 => k_is)
    (case lTooMany0 => k_is)
    (case cTooMany0 => k_is)
    (case kTooMany0 => k_is)
    (case tTooMany0 => k_is)
    (case nTooManywhat => k_is)
    (case nTooManymany => k_is)
    (case nTooManylimit => k_is)
    (case saTooMany => k_is)
    (case kcTooMany => k_is)
    (case hdTooMany => k_is)
    (case gaTooMany => k_is)
    (case ggTooMany => k_is)
    (case exTooMany => k_is)
    (case tyTooMany => k_is)
    (case sbTooMany => k_is)
    (case xlTooMany => exact ⟨_, _, _, _, _, _, _, _, _, _, _, _, _, _, _, by k_is, by rfl⟩)
    (case gCursor => k_is)
    (case aCursor0 => k_is)
    (case lCursor0 => k_is)
    (case cCursor0 => k_is)
    (case kCursor0 => k_is)
    (case iCursor0 => k_is)
    (case aCursor1 => k_is)
    (case lCursor1 => k_is)
    (case cCursor1 => k_is)
    (case kCursor1 => k_is)
    (case iCursor1 => k_is)
    (case aCursor2 => k_is)
    (case lCursor2 => k_is)
    (case cCursor2 => k_is)
    (case kCursor2 => k_is)
    (case iCursor2 => k_is)
    (case aCursor3 => k_is)
    (case lCursor3 => k_is)
    (case cCursor3 => k_is)
    (case kCursor3 => k_is)
    (case iCursor3 => k_is)
    (case aCursor4 => k_is)
    (case lCursor4 => k_is)
    (case cCursor4 => k_is)
    (case kCursor4 => k_is)
    (case iCursor4 => k_is)
    (case aCursor5 => k_is)
    (case lCursor5 => k_is)
    (case cCursor5 => k_is)
    (case kCursor5 => k_is)
    (case iCursor5 => k_is)
    (case aCursor6 => k_is)
    (case lCursor6 => k_is)
    (case cCursor6 => k_is)
    (case kCursor6 => k_is)
    (case iCursor6 => k_is)
    (case aCursor7 => k_is)
    (case lCursor7 => k_is)
    (case cCursor7 => k_is)
    (case kCursor7 => k_is)
    (case iCursor7 => k_is)
    (case aCursor8 => k_is)
    (case lCursor8 => k_is)
    (case cCursor8 => k_is)
    (case kCursor8 => k_is)
    (case iCursor8 => k_is)
    (case nCursorrows => k_is)
    (case nCursorline => k_is)
    (case nCursorat => k_is)
    (case saCursor => k_is)
    (case kcCursor => k_is)
    (case hdCursor => k_is)
    (case pgCursor => k_is)
    (case poCursor => k_is)
    (case miCursor => k_is)
    (case gFIGURES => k_is)
    (case gNIL => k_is)
    (case gEND => k_is)
    (case gLETTERS => k_is)
    (case ball => k_is)
    (case btuple => k_is)
    (case brange => k_is)
    (case bisinstance => k_is)
    (case bint => k_is)
    (case benumerate => k_is)
    (case bstr => k_is)
    (case blen => k_is)
    (case blist => k_is)
    (case bsorted => k_is)
    (case bbool => k_is)
    (case brepr => k_is)
    (case bzip => k_is)
    (case hcd => rfl)
    (case lcc => k_is)
    (case hv => rfl)
    (case ntb => first | kernel_rfl | rfl | decide)
#print axioms PySem.Challenge.cw_againnotes_k02_names_and_words_holds
