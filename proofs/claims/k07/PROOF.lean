import PyProof.Rows.All
import Wide.All
import OpenK.AllK
import Wide.FinOn
import HandS.ForMost
import HandS.Set
import HandS.SetKeys
import HandS.TupSets
import PyProof.Rows.SortShellAny
import HandS.Strs
import HandS.IsInst
import HandS.TupAny
import HandS.TupMul
import HandS.TupLe
import HandS.Style
import HandS.Deep
import HandS.NoneIn
import HandS.Codes
import HandS.Lambda
import HandS.EndTab
import PyProof.ReprRoads
import HandS.TryMany
import HandS.ExcField
import HandS.Zip
import PyProof.IsRules
import PyProof.AutoSeq1
import PyProof.NeData
import PyProof.StrBlock2
import PyProof.Rows.StrMul
import KE.SortCalls
import HandS.Text
import PyProof.StrLawsRepr
import PyProof.CallFns
import HandS.ExcInit
import HandS.ExcIs
import HandS.ExcValue
import KE.KExcIs
import KE.DataCmp
import KE.GoesMore
import HandS.Iter
import KE.GoesEnum
import HandS.OwnEq
import KE.KRevSl
import HandS.DictComp
import HandS.WordsExc
import HandS.Defaults
import HandS.Conv
import KE.KNest
import KE.KNestM
import HandS.HeadWalk
import PySem.Challenge.RW_againnotes_k07_machines_made
set_option Elab.async false
set_option linter.all false
set_option maxRecDepth 100000
set_option maxHeartbeats 4000000
/-! Sets of scannable keys of one kind, with what a walk over them asks for; set(list of texts), sorted of such a set. -/
namespace Ag
open PySem PySem.Spec PyProof.Rows L2

section gen
variable {P : Program} {w : World} {κ : Type} [DecidableEq κ] {kd : KeyKind P w κ}
/-- two entries have no key in common -/
def Apart (kd : KeyKind P w κ) (e f : Int × Value) : Prop := ∀ k, kd.is k e.2 = true → kd.is k f.2 = false
theorem Apart.symm {e f : Int × Value} (h : Apart kd e f) : Apart kd f e := fun k hf => by
  cases q : kd.is k e.2 with
  | false => rfl
  | true => have := h k q; rw [hf] at this; cases this

structure SetG (kd : KeyKind P w κ) (h : Heap) (a : Addr) (S : κ → Bool) (n : Nat) (o : Obj) (es : Array (Int × Value)) (ep : Nat) (t : SetTable) : Prop where
  at_ : h.get? a = some o
  ex : o.ExactSet
  dat : o.data = .set es ep t
  els : ElemsOf kd es.toList
  mem : ∀ k, S k = true ↔ ∃ e ∈ es.toList, kd.is k e.2 = true
  room : es.size < scanBound
  fit : t.fits es.size = true
  num : es.size = n
  ris : Ris t.place.toList
  led : w.params.followText "set-order" = true ∨ t.led = true
  nd : es.toList.Pairwise (Apart kd)

def SetAtG (kd : KeyKind P w κ) (h : Heap) (a : Addr) (S : κ → Bool) (n : Nat) : Prop := ∃ o es ep t, SetG kd h a S n o es ep t
theorem SetAtG.keep {h h' : Heap} {a : Addr} {S : κ → Bool} {n : Nat} (R : SetAtG kd h a S n) (k : ∀ o, h.get? a = some o → h'.get? a = some o) : SetAtG kd h' a S n := by
  obtain ⟨o, es, ep, t, r⟩ := R
  exact ⟨o, es, ep, t, ⟨k o r.at_, r.ex, r.dat, r.els, r.mem, r.room, r.fit, r.num, r.ris, r.led, r.nd⟩⟩
theorem SetAtG.fresh {h : Heap} {a : Addr} (ho : h.get? a = some { cls := .type "set", dict := none, data := .set #[] 0 (.fresh 0 0 (!w.params.followText "set-order")) }) : SetAtG kd h a (fun _ => false) 0 :=
  ⟨_, #[], 0, _, ⟨ho, ⟨rfl, rfl, rfl⟩, rfl, fun e he => (by simp at he), fun k => (by simp), (by decide), (by rfl), rfl, List.Pairwise.nil, by
    show _ ∨ (!w.params.followText "set-order") = true
    cases w.params.followText "set-order" <;> simp, List.Pairwise.nil⟩⟩

variable {A : Around} {E : Value → Shared → Prop} {s : Shared} {a : Addr} {S : κ → Bool} {n : Nat}

theorem addG_tail {g : Bool → Sem Unit} (hg : ∀ (b : Bool) (s₁ : Shared) (Q' : Unit → Shared → Prop), Q' () s₁ → wpAny (model P w) A (g b) Q' E s₁)
    {o : Obj} {es es1 : Array (Int × Value)} {ep : Nat} {t t2 : SetTable} {S' : κ → Bool} (ho : s.heap.get? a = some o) (hex : o.ExactSet) (hd : o.data = .set es ep t)
    (el1 : ElemsOf kd es1.toList) (m1 : ∀ k, S' k = true ↔ ∃ e ∈ es1.toList, kd.is k e.2 = true) (nd1 : es1.toList.Pairwise (Apart kd))
    (b1 : es1.size < scanBound) (f2 : t2.fits es1.size = true) (r2 : Ris t2.place.toList) (l2 : w.params.followText "set-order" = true ∨ t2.led = true) {wasD : Bool} {R : Option Bool → Shared → Prop}
    (hR : ∀ h', Heap.SameBut a s.heap h' → SetAtG kd h' a S' es1.size → R (some true) { s with heap := h' }) :
    wpAny (model P w) A (do
        storeSet a es1 t2
        if (!wasD && t2.tooFull) = true then do
            g (relayAll t2 es1 (SetTable.grown es1.size)).2.2
            storeSet a (relayAll t2 es1 (SetTable.grown es1.size)).1 (relayAll t2 es1 (SetTable.grown es1.size)).2.1
            pure (some true)
          else pure (some true)) R E s := by
  refine wpAny_bind (wpAny_storeSet_of ho hd ?_ (fits_of_scanBound b1))
  have q1 := store_at (es' := es1) (t' := t2) ho hd
  have k1 := Heap.SameBut.update s.heap a (Obj.putSet es1 t2)
  by_cases hc : (!wasD && t2.tooFull) = true
  · rw [if_pos hc]
    have pm := relayAll_perm t2 es1 (SetTable.grown es1.size)
    have f3 := relayAll_fits t2 es1 (SetTable.grown es1.size)
    have r3 := relayAll_ris t2 es1 (SetTable.grown es1.size)
    have l3 := relayAll_led t2 es1 (SetTable.grown es1.size)
    generalize relayAll t2 es1 (SetTable.grown es1.size) = Z at pm f3 r3 l3 ⊢
    obtain ⟨es2, t3, gv⟩ := Z
    dsimp only at pm f3 r3 l3 ⊢
    have z2 : es2.size = es1.size := by rw [← Array.length_toList, pm.length_eq, Array.length_toList]
    have b2 : es2.size < scanBound := z2 ▸ b1
    refine wpAny_bind (hg _ _ _ ?_)
    refine wpAny_bind (wpAny_storeSet_of q1 rfl ?_ (fits_of_scanBound b2))
    have q2 := store_at (es' := es2) (t' := t3) q1 rfl
    have m2 : ∀ k, S' k = true ↔ ∃ e ∈ es2.toList, kd.is k e.2 = true := fun k => (m1 k).trans ⟨fun ⟨e, he, q⟩ => ⟨e, pm.mem_iff.mpr he, q⟩, fun ⟨e, he, q⟩ => ⟨e, pm.mem_iff.mp he, q⟩⟩
    exact wpAny_pure (hR _ (k1.trans (Heap.SameBut.update _ a _)) ⟨_, es2, _, t3, ⟨q2, hex, rfl, el1.perm pm, m2, b2, f3, z2, r3, l2.imp id fun z => l3 ▸ z, (pm.pairwise_iff (fun h => Apart.symm h)).mpr nd1⟩⟩)
  · rw [if_neg hc]
    exact wpAny_pure (hR _ k1 ⟨_, es1, _, t2, ⟨q1, hex, rfl, el1, m1, b1, f2, rfl, r2, l2, nd1⟩⟩)

theorem addG {k : κ} {x : Value} {Q : Bool → Shared → Prop} (hk : kd.is k x = true) (hx : x.scannable = true) (R : SetAtG kd s.heap a S n) (hroom : n + 1 < scanBound)
    (hQ : ∀ h', Heap.SameBut a s.heap h' → SetAtG kd h' a (fun j => S j || decide (j = k)) (if S k = true then n else n + 1) → Q (!S k) { s with heap := h' }) :
    wpAny (model P w) A (setAddHashed a x (kd.hash k)) Q E s := by
  obtain ⟨o, es, ep, t, R⟩ := R
  have bz : es.size + 1 < scanBound := by rw [R.num]; exact hroom
  unfold setAddHashed setAddHashedIn
  refine wpAny_holding (wpAny_bind (wpAny_setState_of R.at_ R.dat R.fit ?_))
  dsimp only
  rw [byScan_of hx R.room R.els]
  simp only [↓reduceIte]
  unfold setAddByScan
  refine wpAny_bind (wpAny_bind (wpAny_rule (wpAny_bind (wpAny_setScan_of hk R.at_ R.dat R.fit R.els ?_))))
  cases hfi : List.findIdx? (fun e => kd.is k e.2) es.toList with
  | some j =>
    obtain ⟨hj, pj, _⟩ := List.findIdx?_eq_some_iff_getElem.mp hfi
    have hS : S k = true := (R.mem k).mpr ⟨_, List.getElem_mem hj, pj⟩
    refine wpAny_pure (wpAny_pure ?_)
    have q := hQ s.heap (Heap.SameBut.refl a s.heap) ⟨o, es, ep, t, ⟨R.at_, R.ex, R.dat, R.els, fun i => (by
      rw [Bool.or_eq_true, decide_eq_true_eq, ← R.mem i]
      exact ⟨fun z => z.elim id (fun e => e ▸ hS), .inl⟩), R.room, R.fit, (by rw [if_pos hS]; exact R.num), R.ris, R.led, R.nd⟩⟩
    rw [hS] at q
    exact q
  | none =>
    have hno : ∀ e ∈ es.toList, kd.is k e.2 = false := fun e he => by
      have c := List.findIdx?_eq_none_iff.mp hfi e he
      cases q : kd.is k e.2 with
      | false => rfl
      | true => rw [q] at c; cases c
    have hS : S k = false := by
      cases q : S k with
      | false => rfl
      | true =>
        obtain ⟨e, he, z⟩ := (R.mem k).mp q
        rw [hno e he] at z; cases z
    have pm := layNew_perm t es (kd.hash k) x
    have f1 := layNew_fits t es (kd.hash k) x
    have r1 := layNew_ris t es (kd.hash k) x R.ris
    have l1 := layNew_led t es (kd.hash k) x
    dsimp only
    generalize layNew t es (kd.hash k) x = Z at pm f1 r1 l1 ⊢
    obtain ⟨es1, t1, wasD, gv⟩ := Z
    dsimp only at pm f1 r1 l1 ⊢
    rw [Array.toList_push] at pm
    have el1 : ElemsOf kd es1.toList := (R.els.push hk hx).perm pm
    have m1 : ∀ i, (S i || decide (i = k)) = true ↔ ∃ e ∈ es1.toList, kd.is i e.2 = true := mem_push_iff hk R.mem pm
    have nd1 : es1.toList.Pairwise (Apart kd) := by
      refine (pm.pairwise_iff (fun h => Apart.symm h)).mpr (List.pairwise_append.mpr ⟨R.nd, List.pairwise_singleton _ _, fun e he f hf => ?_⟩)
      rw [List.mem_singleton.mp hf]
      refine Apart.symm fun j hj => ?_
      have : j = k := kd.inj x j k hj hk
      rw [this]; exact hno e he
    have z1 : es1.size = n + 1 := by rw [← Array.length_toList, pm.length_eq, List.length_append, Array.length_toList, R.num]; rfl
    have b1 : es1.size < scanBound := by rw [z1]; exact hroom
    have ld : w.params.followText "set-order" = true ∨ t1.led = true := R.led.imp id fun z => by rw [l1]; exact z
    have fin : ∀ h', Heap.SameBut a s.heap h' → SetAtG kd h' a (fun j => S j || decide (j = k)) es1.size → Q true { s with heap := h' } := fun h' sb r => by
      have q := hQ h' sb
      rw [hS] at q
      rw [z1] at r
      exact q r
    have gw : ∀ (b : Bool) {s₁ : Shared} {Q' : Unit → Shared → Prop}, Q' () s₁ → wpAny (model P w) A (match b with | true => rule "set.scan.the-table-gave-way" | false => pure ()) Q' E s₁ :=
      fun b s₁ Q' q => by cases b <;> first | exact wpAny_pure q | exact wpAny_rule q
    refine wpAny_bind (gw _ ?_)
    split
    · refine wpAny_bind ?_
      rw [hashByValue_scannable 8 hx]
      refine wpAny_pure (addG_tail (fun b s₁ Q' q => by cases b <;> first | exact wpAny_pure q | exact wpAny_rule q) R.at_ R.ex R.dat el1 m1 nd1 b1 ?_ ?_ ?_ ?_)
      · split <;> first | exact f1 | exact SetTable.fits_plain_off f1
      · split <;> exact r1
      · split <;> exact ld
      · intro h' sb r; dsimp only; exact wpAny_pure (fin h' sb r)
    · refine wpAny_bind (wpAny_pure ?_)
      simp only [↓reduceIte]
      refine addG_tail (fun b s₁ Q' q => by cases b <;> first | exact wpAny_pure q | exact wpAny_rule q) R.at_ R.ex R.dat el1 m1 nd1 b1 f1 r1 ld ?_
      intro h' sb r; dsimp only; exact wpAny_pure (fin h' sb r)
end gen
end Ag

set_option Elab.async false
set_option linter.all false
set_option maxRecDepth 100000
set_option maxHeartbeats 4000000
namespace Ag
open PySem PySem.Spec PyProof.Rows L2
section
variable {P : Program} {w : World} {A : Around} {E : Value → Shared → Prop}

/-- set.update's loop over texts -/
theorem upd_loop {I : Addr} {fp wr : List Addr} {G : Array GenState → Array GenState → Prop} {n : Nat} {Pv : Nat → Value → Prop} {St : Nat → Shared → Prop} {R : Result → Shared → Prop}
    (W : WalksS P w A.in1 I fp wr G n Pv St) (C : Addr) (hC : C ∉ fp) (xs : List Str) (hn : n = xs.length) (hb : xs.length + 1 < scanBound) (hv : ∀ i v, Pv i v → ∃ x t, xs[i]? = some x ∧ v = .str x t) :
    ∀ (j i : Nat) (s : Shared), n - i = j → i ≤ n → St i s → (∃ S m, SetAtG (PySem.strKind P w) s.heap C S m ∧ m ≤ i ∧ ∀ k, S k = true ↔ k ∈ xs.take i) →
      (∀ s' S m, Moved (C :: wr) G s s' → SetAtG (PySem.strKind P w) s'.heap C S m → m ≤ n → (∀ k, S k = true ↔ k ∈ xs) → R (.ok (.ret .none)) s') →
      codeAny (model P w) A (.builtin "set.update.loop" ⟨[.ref C, .ref I], []⟩) R s := by
  have hCw : C ∉ wr := fun z => hC (W.sub _ z)
  have wide : ∀ b ∈ wr, b ∈ C :: wr := fun b z => List.mem_cons_of_mem _ z
  intro j
  induction j with
  | zero =>
    intro i s hj hi st ⟨S, m, hS, hm, hk⟩ hR
    obtain rfl : i = n := by omega
    refine codeAny_builtin F.entry_set_update_loop ?_
    rw [Around.under_plainId F.plain_set_update_loop _]
    show wpAny _ A.in1 (pyNext (.ref I) >>= _) _ _ s
    refine wpAny_bind (W.done s _ _ st fun s' mv => ?_)
    show wpAny _ A.in1 (ret Value.none) _ _ s'
    refine wpAny_pure (hR s' S m (mv.mono wide) (hS.keep fun o e => mv.heap C o hCw e) hm fun k => ?_)
    rw [hk k, hn, List.take_length]
  | succ j ih =>
    intro i s hj hi st ⟨S, m, hS, hm, hk⟩ hR
    have lt : i < n := by omega
    refine codeAny_builtin F.entry_set_update_loop ?_
    rw [Around.under_plainId F.plain_set_update_loop _]
    show wpAny _ A.in1 (pyNext (.ref I) >>= _) _ _ s
    refine wpAny_bind (W.item i s _ _ lt st fun v s' pv st' mv => ?_)
    obtain ⟨x, tk, hx, rfl⟩ := hv i v pv
    have hS' := hS.keep (h' := s'.heap) fun o e => mv.heap C o hCw e
    show wpAny _ A.in1 (holding [Value.str x tk] (setAdd C (.str x tk)) >>= _) _ _ s'
    refine wpAny_bind (wpAny_holding ?_)
    unfold setAdd
    refine wpAny_holding (wpAny_bind ((PySem.strKind P w).pyHash (k := x) (strKind_is _ _ _ _) ?_))
    refine addG (kd := PySem.strKind P w) (s := { s' with toks := s'.toks + 1 }) (strKind_is _ _ _ _) rfl hS' (by omega) fun h' sb hS2 => ?_
    have tk1 : xs.take (i + 1) = xs.take i ++ [x] := by rw [List.take_succ, hx]; rfl
    refine wpAny_pure ⟨plainId_quiet F.plain_set_update_loop _, ih (i + 1) _ (by omega) lt (W.frame _ s' _ _ st' (Nat.le_succ _) fun b z o e => ?_) ⟨_, _, hS2, ?_, fun k => ?_⟩ fun s2 S2 m2 mv2 h2 l2 k2 => hR s2 S2 m2 ?_ h2 l2 k2⟩
    · rw [sb.2 b (fun q => hC (q ▸ z))]; exact e
    · split <;> omega
    · rw [tk1, Bool.or_eq_true, hk k, List.mem_append, List.mem_singleton, decide_eq_true_eq]
    · refine Moved.trans W.gtrans ((mv.mono wide).then_heap (Nat.le_succ _) fun b o z e => ?_) mv2
      rw [sb.2 b (fun q => z (q ▸ List.mem_cons_self))]; exact e

set_option maxHeartbeats 4000000 in
theorem set_of_strs {s : Shared} {l : Addr} {items : Array Value} {xs : List Str} {Q : Value → Shared → Prop} (hh : A.handled = none) (hl : s.heap.IsList l items) (hi : StrsAre items.toList xs) (hb : xs.length + 1 < scanBound)
    (hQ : ∀ (h' : Heap) (tk : Nat) S m, SetAtG (PySem.strKind P w) h' s.heap.objs.size S m → m ≤ xs.length → (∀ k, S k = true ↔ k ∈ xs) → (∀ b o, s.heap.get? b = some o → h'.get? b = some o) → Q (.ref s.heap.objs.size) { s with heap := h', toks := tk }) :
    wpAny (model P w) A (call (.type "set") [.ref l]) Q E s := by
  have isz : items.size = xs.length := by rw [← StrsAre.len_eq hi, Array.length_toList]
  obtain ⟨c, tl, hmro⟩ := F.called_set.mro
  have hmade := F.called_set.made
  have hsub := F.called_set.sub
  refine wpAny_call (codeAny_of_tree ?_)
  show wpAny _ _ (callAny (.type "set") _) _ _ _
  refine wpAny_pure ⟨Code.quiet_builtin _ (by decide +kernel), codeAny_builtin F.entry_type_call ?_⟩
  rw [Around.under_plain (weight_type_call_type "set" [.ref l] []) rfl]
  have h1 := F.called_set.notType
  have h2 := F.called_set.canCreate
  have hct := F.typeCall_set_1 (.ref l)
  repeat (any_goals (first | assumption | wp_step))
  refine codeAny_mono (code_set_led1 (.ref l) (E := E) (Q₁ := fun obj s₁ => obj = .ref s.heap.objs.size ∧ s₁ = { s with heap := s.heap.push ({ cls := .type "set", dict := none, data := .set #[] 0 (.fresh 0 0 (!w.params.followText "set-order")) } : Obj) }) ⟨rfl, rfl⟩) fun r s₁ hr => ?_
  cases r with
  | error e => exact hr
  | ok fl =>
    cases fl with
    | ret obj =>
      obtain ⟨rfl, rfl⟩ := hr
      have hS : (s.heap.push ({ cls := .type "set", dict := none, data := .set #[] 0 (.fresh 0 0 (!w.params.followText "set-order")) } : Obj)).get? s.heap.objs.size = some ({ cls := .type "set", dict := none, data := .set #[] 0 (.fresh 0 0 (!w.params.followText "set-order")) } : Obj) := Heap.get?_push_size _ rfl
      have hT : Shared.TypeIs { s with heap := s.heap.push ({ cls := .type "set", dict := none, data := .set #[] 0 (.fresh 0 0 (!w.params.followText "set-order")) } : Obj) } (.ref s.heap.objs.size) "set" := ⟨_, hS, rfl⟩
      have hli := F.called_set.init.lookup
      have hbi := F.called_set.init.bind (.ref s.heap.objs.size)
      repeat (any_goals (first | assumption | wp_step))
      refine codeAny_mono (codeAny_call_builtin (R := wants (fun r s₂ => r = .none ∧ ∃ h' tk S m, s₂ = { s with heap := h', toks := tk } ∧ SetAtG (PySem.strKind P w) h' s.heap.objs.size S m ∧ m ≤ xs.length ∧ (∀ k, S k = true ↔ k ∈ xs) ∧
          (∀ b o, s.heap.get? b = some o → h'.get? b = some o)) E) F.called_set.init.plain F.entry_set_init (check_set_init_1 hT ?_)) fun r₂ s₂ hr₂ => ?_
      · obtain ⟨ol, hol, hcl, nl, hdl⟩ := hl
        obtain ⟨ocls, odict, odata, oslots⟩ := ol
        simp only at hcl hdl
        subst hcl; subst hdl
        have hol1 : (s.heap.push ({ cls := .type "set", dict := none, data := .set #[] 0 (.fresh 0 0 (!w.params.followText "set-order")) } : Obj)).get? l = some { cls := .type "list", dict := odict, data := .seq items nl, slots := oslots } := Heap.get?_push_of_some _ hol
        have hsls := F.sub_list_set
        have hslf := F.sub_list_frozenset
        have hne : (Value.type "list" == Value.type "dict") = false := by decide
        have hl1 : (s.heap.push ({ cls := .type "set", dict := none, data := .set #[] 0 (.fresh 0 0 (!w.params.followText "set-order")) } : Obj)).IsList l items := ⟨_, hol1, rfl, nl, rfl⟩
        unfold Builtin.«set.__init__» noKeywords Builtin.Frozenset.updateFrom
        generalize hPI : pyIter = PI
        wp_walk
        subst hPI
        refine wpAny_pyIter_list hl1 ?_
        refine wpAny_bind (wpAny_runValue ?_)
        have llt : l < s.heap.objs.size := Heap.lt_size hol
        have hh3 : A.in1.in1.in1.handled = none := by simp [hh]
        have z1 : (s.heap.push ({ cls := .type "set", dict := none, data := .set #[] 0 (.fresh 0 0 (!w.params.followText "set-order")) } : Obj)).objs.size = s.heap.objs.size + 1 := Heap.size_push ..
        have ne1 : l ≠ (s.heap.push ({ cls := .type "set", dict := none, data := .set #[] 0 (.fresh 0 0 (!w.params.followText "set-order")) } : Obj)).objs.size := by rw [z1]; exact Nat.ne_of_lt (Nat.lt_succ_of_lt llt)
        have hnf : s.heap.objs.size ∉ [(s.heap.push ({ cls := .type "set", dict := none, data := .set #[] 0 (.fresh 0 0 (!w.params.followText "set-order")) } : Obj)).objs.size, l] := by
          rw [z1]; intro z
          rcases List.mem_cons.mp z with z | z
          · exact Nat.ne_of_lt (Nat.lt_succ_self _) z
          · exact Nat.ne_of_gt llt (List.mem_singleton.mp z)
        have hval : ∀ (i : Nat) (v : Value), items[i]? = some v → ∃ x t, xs[i]? = some x ∧ v = .str x t := fun i v q => by
          have q2 : items.toList[i]? = some v := by rw [Array.getElem?_toList]; exact q
          obtain ⟨t, e⟩ := SS.strs_at hi i v q2
          have il : i < xs.length := by rw [← isz, ← Array.length_toList]; exact (List.getElem?_eq_some_iff.mp q2).1
          refine ⟨_, t, ?_, e⟩
          rw [List.getD_eq_getElem?_getD, List.getElem?_eq_getElem il]; rfl
        refine upd_loop ((Walks.list hh3 _ l ne1 items).toS) s.heap.objs.size hnf xs isz hb hval (items.size - 0) 0 _ (by omega) (Nat.zero_le _)
          ⟨⟨_, Heap.get?_push_size _ rfl, rfl, rfl⟩, (hl1.push _)⟩ ⟨_, 0, SetAtG.fresh (kd := PySem.strKind P w) (Heap.get?_push_of_some _ hS), Nat.le_refl _, fun k => (by simp)⟩ fun s' S m mv hS' hm hk => ?_
        obtain ⟨h', g2, d', tk', os'⟩ := s'
        have eg : g2 = s.gens := mv.gens
        have ed : d' = s.drawn := mv.drawn
        have eo : os' = s.os := mv.os
        subst eg; subst ed; subst eo
        show wpAny _ _ _ _ _ _
        refine wpAny_pure ?_
        show wpAny _ _ (ret Value.none) _ _ _
        refine wpAny_pure ⟨rfl, h', tk', S, m, rfl, hS', by rw [← isz]; exact hm, hk, fun b o e => mv.heap b o (fun z => ?_) (Heap.get?_push_of_some _ (Heap.get?_push_of_some _ e))⟩
        have lb := Heap.lt_size e
        rcases List.mem_cons.mp z with z | z
        · exact Nat.ne_of_lt lb z
        · exact Nat.ne_of_lt (Nat.lt_succ_of_lt lb) ((List.mem_singleton.mp z).trans z1)
      · cases r₂ with
        | error e => exact hr₂
        | ok fl₂ =>
          cases fl₂ with
          | ret r =>
            obtain ⟨rfl, h', tk, S, m, rfl, hS', hm, hk, kp⟩ := hr₂
            repeat (any_goals (first | assumption | wp_step))
            exact hQ _ _ _ _ hS' hm hk kp
          | _ => exact hr₂.elim
    | _ => exact hr.elim
end
end Ag

set_option Elab.async false
set_option linter.all false
set_option maxRecDepth 100000
set_option maxHeartbeats 4000000
namespace Ag
open PySem PySem.Spec PyProof.Rows L2
section
variable {P : Program} {w : World} {A : Around} {E : Value → Shared → Prop} {s : Shared}

theorem strs_pick : ∀ (l : List (Int × Value)), ElemsOf (PySem.strKind P w) l → ∃ xs : List Str, StrsAre (l.map (·.2)) xs ∧ ∀ k, k ∈ xs ↔ ∃ e ∈ l, (PySem.strKind P w).is k e.2 = true
  | [], _ => ⟨[], .nil, fun k => by simp⟩
  | e :: l, h => by
    obtain ⟨xs, r, m⟩ := strs_pick l h.tail
    obtain ⟨⟨k, hk, _⟩, _⟩ := h.head
    obtain ⟨t, q⟩ := Value.isStrOf_shape (x := k) (v := e.2) hk
    refine ⟨k :: xs, ?_, fun j => ?_⟩
    · show StrsAre (e.2 :: l.map (·.2)) _
      rw [q]; exact .cons k t r
    · rw [List.mem_cons, m j]
      constructor
      · rintro (rfl | ⟨f, hf, z⟩)
        · exact ⟨e, List.mem_cons_self, hk⟩
        · exact ⟨f, List.mem_cons_of_mem _ hf, z⟩
      · rintro ⟨f, hf, z⟩
        rcases List.mem_cons.mp hf with rfl | hf
        · exact .inl ((PySem.strKind P w).inj _ _ _ z hk)
        · exact .inr ⟨f, hf, z⟩

theorem strs_of_perm : ∀ {us vs : List Value} {xs : List Str}, us.Perm vs → StrsAre vs xs → ∃ ys : List Str, StrsAre us ys ∧ ys.Perm xs := by
  intro us vs xs p
  induction p generalizing xs with
  | nil => intro h; cases h; exact ⟨[], .nil, .nil⟩
  | cons v _ ih =>
    intro h
    cases h with
    | cons x t r =>
      obtain ⟨ys, a, b⟩ := ih r
      exact ⟨x :: ys, .cons x t a, b.cons x⟩
  | swap v u l =>
    intro h
    cases h with
    | cons x t r =>
      cases r with
      | cons y t' r' => exact ⟨y :: x :: _, .cons y t' (.cons x t r'), .swap x y _⟩
  | trans _ _ ih1 ih2 =>
    intro h
    obtain ⟨ys, a, b⟩ := ih2 h
    obtain ⟨zs, c, d⟩ := ih1 a
    exact ⟨zs, c, d.trans b⟩

theorem strsAre_inj : ∀ {us : List Value} {xs ys : List Str}, StrsAre us xs → StrsAre us ys → xs = ys
  | _, _, _, .nil, h => by cases h; rfl
  | _, _, _, .cons x t r, h => by
    cases h with
    | cons y t' r' => rw [strsAre_inj r r']

theorem strs_nodup : ∀ {l : List (Int × Value)} {xs : List Str}, StrsAre (l.map (·.2)) xs → l.Pairwise (Apart (PySem.strKind P w)) → ElemsOf (PySem.strKind P w) l → xs.Nodup
  | [], _, .nil, _, _ => List.nodup_nil
  | e :: l, _, h, nd, el => by
    obtain ⟨v, hv⟩ : ∃ v, e.2 = v := ⟨_, rfl⟩
    rw [List.map_cons, hv] at h
    cases h with
    | cons x t r =>
      obtain ⟨n1, n2⟩ := List.pairwise_cons.mp nd
      refine List.nodup_cons.mpr ⟨fun hx => ?_, strs_nodup r n2 el.tail⟩
      obtain ⟨ys, r', m⟩ := strs_pick (P := P) (w := w) l el.tail
      have same : ys = _ := strsAre_inj r' r
      subst same
      obtain ⟨f, hf, z⟩ := (m x).mp hx
      have := n1 f hf x (by rw [hv]; exact strKind_is _ _ _ _)
      rw [z] at this; cases this

theorem sorted_of_strset {a : Addr} {S : Str → Bool} {m : Nat} {Q : Value → Shared → Prop} (R : SetAtG (PySem.strKind P w) s.heap a S m) (hh : A.handled = none)
    (hQ : ∀ s' p (out : Array Value) (c : Nat) (ys : List Str), (∀ b o, s.heap.get? b = some o → s'.heap.get? b = some o) → s'.gens = s.gens → s'.os = s.os → s.heap.objs.size ≤ p →
      s'.heap.get? p = some (seqObj "list" out c) → StrsAre out.toList ys → sortedS ys = true → ys.Nodup → (∀ k, k ∈ ys ↔ S k = true) → ys.length = m → Q (.ref p) s') :
    wpAny (model P w) A (call (.builtin "sorted") [.ref a]) Q E s := by
  obtain ⟨o, es, ep, t, R⟩ := R
  obtain ⟨xs, hxs, mx⟩ := strs_pick (P := P) (w := w) es.toList R.els
  have nx := strs_nodup hxs R.nd R.els
  refine Calls.call_function_entry kind_sorted plain_sorted entry_sorted (args_sorted1 _) ?_
  unfold Builtin.«sorted»
  refine wpAny_bind (m := checkCount "sorted" 1 1 _) (wpAny_pure ?_)
  refine wpAny_bind (collect_set (A := A.in1) hh ⟨o, R.at_, R.ex.1, R.dat⟩ R.fit R.room R.ris R.led fun s1 vs k1 hz g1 o1 pm => ?_)
  have vl : vs.length = m := by rw [pm.length_eq, List.length_map, Array.length_toList]; exact R.num
  obtain ⟨zs, hzs, pz⟩ := strs_of_perm pm hxs
  have mb : m < scanBound := R.num ▸ R.room
  have small : vs.length ≤ sizeLine := by rw [vl]; exact fits_of_scanBound mb
  refine wpAny_bind (wpAny_newList ?_ small)
  have hoL : (s1.heap.push (seqObj "list" vs.toArray 0)).get? s1.heap.objs.size = some (seqObj "list" vs.toArray 0) := Heap.get?_push_size _ rfl
  refine wpAny_bind (wpAny_holding (wpAny_call_entry slot_list_sort ⟨_, hoL, rfl⟩ entry_list_sort (list_sort_treeKAny strKind_oneLt hoL hzs.keysOf (fun v₁ v₂ rest e => keyKind_strs (by rw [← e]; exact hzs)) small fun st' hp hs => ⟨_, rfl, ?_⟩) (args_list_sort _)))
  obtain ⟨ys, a1, a2, a3⟩ := sorted_out_str hzs hp hs
  obtain ⟨c, hc⟩ := sortedHeap_at (vs := vs) (out := (arrOf st').map (·.2)) hoL
  have py : ys.Perm xs := a2.trans pz
  refine wpAny_pure ⟨_, rfl, hQ _ s1.heap.objs.size _ c ys (fun b u e => ?_) g1 o1 hz hc a1 a3 (py.nodup_iff.mpr nx) (fun k => by rw [py.mem_iff, mx k, ← R.mem k]) ?_⟩
  · have q := k1 b u e
    have lt := Heap.lt_size q
    show (sortedHeap (s1.heap.push (seqObj "list" vs.toArray 0)) s1.heap.objs.size vs _).get? b = some u
    rw [sortedHeap_old (Nat.ne_of_lt lt) (by rw [size_push']; exact Nat.lt_succ_of_lt lt)]
    exact Heap.get?_push_of_some _ q
  · have h1 := StrsAre.len_eq hzs
    rw [a2.length_eq, ← h1, vl]
end

/-! ### over the layer -/
/-- the set of the texts xs, at a -/
def StrSet (P : Program) (w : World) (a : Addr) (xs : List Str) : HO := .ext fun h => ∃ S m, SetAtG (PySem.strKind P w) h a S m ∧ m ≤ xs.length ∧ ∀ k, S k = true ↔ k ∈ xs
def rSetS (K : PySem.W.Frag) (P : Program) (w : World) : List V → Hp → VK → Prop := fun vs H Q => ∃ (a : Addr) (xs : List Str), vs = [V.ref a] ∧ (SqL K H a (xs.map V.str)) ∧ xs.length < 4000 ∧
  ∀ p, H p = none → Q (.ref p) (upd H p (StrSet P w p xs))
def rSortSetS (P : Program) (w : World) : List V → Hp → VK → Prop := fun vs H Q => ∃ (a : Addr) (xs : List Str), vs = [V.ref a] ∧ H a = some (StrSet P w a xs) ∧
  ∀ ys p, sortedS ys = true → ys.Nodup → (∀ k, k ∈ ys ↔ k ∈ xs) → H p = none → Q (.ref p) (upd H p (.lst (ys.map V.str)))
theorem cr_setS {X : Cx} (hc : X.calm = true) : CallR X (.type "set") (rSetS X.K X.prog X.w) := by
  intro pins s σ H vs us Q I r h
  obtain ⟨a, xs, rfl, hs, hb, q⟩ := h
  obtain ⟨its, rv, hl, _⟩ := I.list hs
  rw [Vals.ref1 r]
  have hn : H s.heap.objs.size = none := I.hok.fresh (Nat.le_refl _)
  refine set_of_strs (P := X.prog) (w := X.w) (I.ok.hd hc) hl.isList rv.strs (by unfold scanBound; omega) fun h' tk S m hS hm hk kp => ?_
  refine ⟨.ref s.heap.objs.size, upd H s.heap.objs.size (StrSet X.prog X.w s.heap.objs.size xs), I.laid (t' := tk) kp (Nat.le_refl _) ?_, rfl, q _ hn⟩
  refine ⟨⟨S, m, hS, hm, hk⟩, ?_, ?_⟩
  · obtain ⟨o, es, ep, t, R⟩ := hS
    exact ⟨o, R.at_⟩
  · rintro h1 h2 ⟨S, m, hS, hm, hk⟩ e
    exact ⟨S, m, hS.keep e, hm, hk⟩
theorem cr_sortSetS {X : Cx} (hc : X.calm = true) : CallR X (.builtin "sorted") (rSortSetS X.prog X.w) := by
  intro pins s σ H vs us Q I r h
  obtain ⟨a, xs, rfl, ha, q⟩ := h
  obtain ⟨⟨S, m, hS, hm, hk⟩, _⟩ := I.hok a _ ha
  rw [Vals.ref1 r]
  refine sorted_of_strset hS (I.ok.hd hc) fun s' p out c ys kp g o hp hg hout srt nd mem hlen => ?_
  have hn : H p = none := I.hok.fresh hp
  have mb : m < scanBound := by
    obtain ⟨o, es, ep, t, R⟩ := hS
    exact R.num ▸ R.room
  have small : (ys.map V.str).length ≤ sizeLine := by rw [List.length_map, hlen]; exact fits_of_scanBound mb
  have J : Inv X pins σ (upd H p (.lst (ys.map V.str))) { s with heap := s'.heap, gens := s'.gens, drawn := s'.drawn, toks := s'.toks } :=
    I.call (ch := []) (Un.laid kp hp hn) (I.hok.laid kp hp ⟨small, out.toList, c, vals_of_strs hout, hg⟩) (by rw [g]; exact I.bare) (fun _ z => nomatch z)
  have e : s' = { s with heap := s'.heap, gens := s'.gens, drawn := s'.drawn, toks := s'.toks } := by
    cases s'; cases s; cases o; rfl
  rw [e]
  exact ⟨.ref p, _, J, rfl, q ys p srt nd (fun k => (mem k).trans (hk k)) hn⟩
end Ag

set_option Elab.async false
set_option linter.all false
set_option maxRecDepth 100000
set_option maxHeartbeats 1000000
/-! Data: what a reading of an expression over plain values gives, with the heap only growing. -/
namespace Ag
open PySem PySem.Spec PyProof.Rows L2

/-! ### heaps that keep -/
theorem _root_.L2.Same.newA {H : Hp} {p : Addr} {o : HO} (h : H p = none) : Same H (upd H p o) := fun a u e => by
  rw [upd_ne (ne_of_none e h)]; exact e
theorem _root_.L2.Same.rdA {H H' : Hp} {a : Addr} {u : HO} (e : Same H H') (h : Rd H a u) : Rd H' a u :=
  h.elim (fun z => .inl (e _ _ z)) fun ⟨o, z⟩ => .inr ⟨o, e _ _ z⟩
theorem _root_.L2.Same.slA {K : PySem.W.Frag} {H H' : Hp} {a : Addr} {xs : List V} (e : Same H H') (h : SqL K H a xs) : SqL K H' a xs := h.imp e.rdA id
theorem _root_.L2.Same.stA {K : PySem.W.Frag} {H H' : Hp} {a : Addr} {xs : List V} (e : Same H H') (h : SqT K H a xs) : SqT K H' a xs := h.imp e.rdA id
theorem _root_.L2.Same.freshA {H H' : Hp} {p : Addr} (e : Same H H') (h : H' p = none) : H p = none := e.free h

/-! ### plain data -/
mutual
theorem dp_mono {K : PySem.W.Frag} {H H' : Hp} (e : Same H H') : ∀ {v : V} {d : PyData}, Dp K H v d → Dp K H' v d
  | _, _, .non => .non
  | _, _, .bl b => .bl b
  | _, _, .int i => .int i
  | _, _, .str x => .str x
  | _, _, .lst h r => .lst (e.slA h) (dps_mono e r)
  | _, _, .tup h r => .tup (e.stA h) (dps_mono e r)
theorem dps_mono {K : PySem.W.Frag} {H H' : Hp} (e : Same H H') : ∀ {vs : List V} {ds : List PyData}, DpAll K H vs ds → DpAll K H' vs ds
  | _, _, .nil => .nil
  | _, _, .cons h r => .cons (dp_mono e h) (dps_mono e r)
end
theorem dps_len {K : PySem.W.Frag} {H : Hp} : ∀ {vs : List V} {ds : List PyData}, DpAll K H vs ds → vs.length = ds.length
  | _, _, .nil => rfl
  | _, _, .cons _ r => by rw [List.length_cons, List.length_cons, dps_len r]
theorem dps_get {K : PySem.W.Frag} {H : Hp} : ∀ {vs : List V} {ds : List PyData} {i : Nat} {d : PyData}, DpAll K H vs ds → ds[i]? = some d → ∃ v, vs[i]? = some v ∧ Dp K H v d
  | _, _, _, _, .nil, h => by simp at h
  | _, _, 0, _, .cons a r, h => by simp at h; subst h; exact ⟨_, rfl, a⟩
  | _, _, i + 1, _, .cons a r, h => by
    obtain ⟨v, e, q⟩ := dps_get (i := i) r (by simpa using h)
    exact ⟨v, by simpa using e, q⟩
theorem dps_get' {K : PySem.W.Frag} {H : Hp} : ∀ {vs : List V} {ds : List PyData} {i : Nat} {v : V}, DpAll K H vs ds → vs[i]? = some v → ∃ d, ds[i]? = some d ∧ Dp K H v d
  | _, _, _, _, .nil, h => by simp at h
  | _, _, 0, _, .cons a r, h => by simp at h; subst h; exact ⟨_, rfl, a⟩
  | _, _, i + 1, _, .cons a r, h => by
    obtain ⟨v, e, q⟩ := dps_get' (i := i) r (by simpa using h)
    exact ⟨v, by simpa using e, q⟩
theorem dps_app {K : PySem.W.Frag} {H : Hp} : ∀ {vs us : List V} {ds es : List PyData}, DpAll K H vs ds → DpAll K H us es → DpAll K H (vs ++ us) (ds ++ es)
  | _, _, _, _, .nil, q => q
  | _, _, _, _, .cons a r, q => .cons a (dps_app r q)
theorem dps_take {K : PySem.W.Frag} {H : Hp} : ∀ {vs : List V} {ds : List PyData} (n : Nat), DpAll K H vs ds → DpAll K H (vs.take n) (ds.take n)
  | _, _, 0, _ => .nil
  | _, _, _ + 1, .nil => .nil
  | _, _, n + 1, .cons a r => .cons a (dps_take n r)
theorem dps_drop {K : PySem.W.Frag} {H : Hp} : ∀ {vs : List V} {ds : List PyData} (n : Nat), DpAll K H vs ds → DpAll K H (vs.drop n) (ds.drop n)
  | _, _, 0, h => h
  | _, _, _ + 1, .nil => .nil
  | _, _, n + 1, .cons _ r => dps_drop n r
theorem dps_strs {K : PySem.W.Frag} {H : Hp} : ∀ (xs : List Str), DpAll K H (xs.map V.str) (xs.map .str)
  | [] => .nil
  | x :: xs => .cons (.str x) (dps_strs xs)
theorem strs_dps {K : PySem.W.Frag} {H : Hp} : ∀ {xs : List Str} {vs : List V}, DpAll K H vs (xs.map .str) → vs = xs.map V.str
  | [], _, h => by cases h; rfl
  | x :: xs, _, h => by
    cases h with
    | cons a r => cases a; rw [strs_dps r]; rfl
theorem ints_dps {K : PySem.W.Frag} {H : Hp} : ∀ {xs : List Int} {vs : List V}, DpAll K H vs (xs.map .int) → vs = xs.map V.int
  | [], _, h => by cases h; rfl
  | x :: xs, _, h => by
    cases h with
    | cons a r => cases a; rw [ints_dps r]; rfl
theorem bls_dps {K : PySem.W.Frag} {H : Hp} : ∀ {xs : List Bool} {vs : List V}, DpAll K H vs (xs.map .bool) → vs = xs.map V.bl
  | [], _, h => by cases h; rfl
  | x :: xs, _, h => by
    cases h with
    | cons a r => cases a; rw [bls_dps r]; rfl


/-! ### data whose lists stand where F allows -/
def KL (K : PySem.W.Frag) (a : Addr) (xs : List V) : Prop := ∃ (o : Obj) (its : Array Value) (n : Nat), K.lookup a = some o ∧ o.cls = .type "list" ∧ o.dict = none ∧ o.data = .seq its n ∧ its.size ≤ sizeLine ∧ Vals xs its.toList
mutual
inductive Df (K : PySem.W.Frag) (F : Addr → Prop) (H : Hp) : V → PyData → Prop
  | non : Df K F H .non .none
  | bl (b : Bool) : Df K F H (.bl b) (.bool b)
  | int (i : Int) : Df K F H (.int i) (.int i)
  | str (x : Str) : Df K F H (.str x) (.str x)
  | lst {a : Addr} {xs : List V} {ds : List PyData} : (Rd H a (.lst xs) ∧ F a) ∨ KL K a xs → DfAll K F H xs ds → Df K F H (.ref a) (.list ds)
  | tup {a : Addr} {xs : List V} {ds : List PyData} : SqT K H a xs → DfAll K F H xs ds → Df K F H (.ref a) (.tuple ds)
inductive DfAll (K : PySem.W.Frag) (F : Addr → Prop) (H : Hp) : List V → List PyData → Prop
  | nil : DfAll K F H [] []
  | cons {v : V} {vs : List V} {d : PyData} {ds : List PyData} : Df K F H v d → DfAll K F H vs ds → DfAll K F H (v :: vs) (d :: ds)
end
section
variable {K : PySem.W.Frag} {F G : Addr → Prop} {H H' : Hp}
mutual
theorem df_dp : ∀ {v : V} {d : PyData}, Df K F H v d → Dp K H v d
  | _, _, .non => .non
  | _, _, .bl b => .bl b
  | _, _, .int i => .int i
  | _, _, .str x => .str x
  | _, _, .lst h r => .lst (h.imp (fun z => z.1) id) (dfs_dps r)
  | _, _, .tup h r => .tup h (dfs_dps r)
theorem dfs_dps : ∀ {vs : List V} {ds : List PyData}, DfAll K F H vs ds → DpAll K H vs ds
  | _, _, .nil => .nil
  | _, _, .cons h r => .cons (df_dp h) (dfs_dps r)
end
mutual
theorem dp_df : ∀ {v : V} {d : PyData}, Dp K H v d → Df K (fun a => H a ≠ none) H v d
  | _, _, .non => .non
  | _, _, .bl b => .bl b
  | _, _, .int i => .int i
  | _, _, .str x => .str x
  | _, _, .lst h r => .lst (h.imp (fun z => ⟨z, by rcases z with z | ⟨o, z⟩ <;> (rw [z]; exact fun q => nomatch q)⟩) id) (dps_dfs r)
  | _, _, .tup h r => .tup h (dps_dfs r)
theorem dps_dfs : ∀ {vs : List V} {ds : List PyData}, DpAll K H vs ds → DfAll K (fun a => H a ≠ none) H vs ds
  | _, _, .nil => .nil
  | _, _, .cons h r => .cons (dp_df h) (dps_dfs r)
end
mutual
theorem df_mono (e : Same H H') (f : ∀ a, F a → G a) : ∀ {v : V} {d : PyData}, Df K F H v d → Df K G H' v d
  | _, _, .non => .non
  | _, _, .bl b => .bl b
  | _, _, .int i => .int i
  | _, _, .str x => .str x
  | _, _, .lst h r => .lst (h.imp (fun z => ⟨e.rdA z.1, f _ z.2⟩) id) (dfs_mono e f r)
  | _, _, .tup h r => .tup (e.stA h) (dfs_mono e f r)
theorem dfs_mono (e : Same H H') (f : ∀ a, F a → G a) : ∀ {vs : List V} {ds : List PyData}, DfAll K F H vs ds → DfAll K G H' vs ds
  | _, _, .nil => .nil
  | _, _, .cons h r => .cons (df_mono e f h) (dfs_mono e f r)
end
theorem rd_other {a D : Addr} {u o : HO} (h : Rd H a u) (n : a ≠ D) : Rd (upd H D o) a u := by
  rcases h with h | ⟨x, h⟩
  · exact .inl (by rw [upd_ne n]; exact h)
  · exact .inr ⟨x, by rw [upd_ne n]; exact h⟩
mutual
/-- a list that the data does not hold is changed -/
theorem df_upd {D : Addr} {ys : List V} {o : HO} (hD : H D = some (.lst ys)) (nf : ¬ F D) : ∀ {v : V} {d : PyData}, Df K F H v d → Df K F (upd H D o) v d
  | _, _, .non => .non
  | _, _, .bl b => .bl b
  | _, _, .int i => .int i
  | _, _, .str x => .str x
  | _, _, .lst h r => .lst (h.imp (fun z => ⟨rd_other z.1 (fun q => nf (q ▸ z.2)), z.2⟩) id) (dfs_upd hD nf r)
  | _, _, .tup h r => .tup (h.imp (fun z => rd_other z (fun q => by
      subst q
      rcases z with z | ⟨x, z⟩ <;> (rw [hD] at z; cases z))) id) (dfs_upd hD nf r)
theorem dfs_upd {D : Addr} {ys : List V} {o : HO} (hD : H D = some (.lst ys)) (nf : ¬ F D) : ∀ {vs : List V} {ds : List PyData}, DfAll K F H vs ds → DfAll K F (upd H D o) vs ds
  | _, _, .nil => .nil
  | _, _, .cons h r => .cons (df_upd hD nf h) (dfs_upd hD nf r)
end
theorem dfs_len : ∀ {vs : List V} {ds : List PyData}, DfAll K F H vs ds → vs.length = ds.length
  | _, _, .nil => rfl
  | _, _, .cons _ r => by rw [List.length_cons, List.length_cons, dfs_len r]
theorem dfs_get : ∀ {vs : List V} {ds : List PyData} {i : Nat} {d : PyData}, DfAll K F H vs ds → ds[i]? = some d → ∃ v, vs[i]? = some v ∧ Df K F H v d
  | _, _, _, _, .nil, h => by simp at h
  | _, _, 0, _, .cons a r, h => by simp at h; subst h; exact ⟨_, rfl, a⟩
  | _, _, i + 1, _, .cons a r, h => by
    obtain ⟨v, e, q⟩ := dfs_get (i := i) r (by simpa using h)
    exact ⟨v, by simpa using e, q⟩
theorem dfs_get' : ∀ {vs : List V} {ds : List PyData} {i : Nat} {v : V}, DfAll K F H vs ds → vs[i]? = some v → ∃ d, ds[i]? = some d ∧ Df K F H v d
  | _, _, _, _, .nil, h => by simp at h
  | _, _, 0, _, .cons a r, h => by simp at h; subst h; exact ⟨_, rfl, a⟩
  | _, _, i + 1, _, .cons a r, h => by
    obtain ⟨d, e, q⟩ := dfs_get' (i := i) r (by simpa using h)
    exact ⟨d, by simpa using e, q⟩
theorem dfs_app : ∀ {vs us : List V} {ds es : List PyData}, DfAll K F H vs ds → DfAll K F H us es → DfAll K F H (vs ++ us) (ds ++ es)
  | _, _, _, _, .nil, q => q
  | _, _, _, _, .cons a r, q => .cons a (dfs_app r q)
theorem dfs_take : ∀ {vs : List V} {ds : List PyData} (n : Nat), DfAll K F H vs ds → DfAll K F H (vs.take n) (ds.take n)
  | _, _, 0, _ => .nil
  | _, _, _ + 1, .nil => .nil
  | _, _, n + 1, .cons a r => .cons a (dfs_take n r)
theorem dfs_drop : ∀ {vs : List V} {ds : List PyData} (n : Nat), DfAll K F H vs ds → DfAll K F H (vs.drop n) (ds.drop n)
  | _, _, 0, h => h
  | _, _, _ + 1, .nil => .nil
  | _, _, n + 1, .cons _ r => dfs_drop n r
theorem dfs_strs : ∀ (xs : List Str), DfAll K F H (xs.map V.str) (xs.map .str)
  | [] => .nil
  | x :: xs => .cons (.str x) (dfs_strs xs)
end
/-- what F allows, or is younger than H1 -/
def Fr (F : Addr → Prop) (H1 : Hp) : Addr → Prop := fun a => F a ∨ H1 a = none
theorem Fr.to {F : Addr → Prop} {H1 H2 : Hp} (s : Same H1 H2) : ∀ a, Fr F H2 a → Fr F H1 a := fun a z => z.imp id fun q => s.freshA q
theorem Fr.base {F : Addr → Prop} {H1 : Hp} : ∀ a, F a → Fr F H1 a := fun a z => .inl z
/-- what stands -/
def nn (H : Hp) : Addr → Prop := fun a => H a ≠ none
/-- all but lists that F does not allow are kept -/
def isLst : HO → Bool | .lst _ => true | _ => false
def SameF (F : Addr → Prop) (H H' : Hp) : Prop := ∀ a u, H a = some u → (F a ∨ isLst u = false) → H' a = some u
theorem SameF.refl {F : Addr → Prop} {H : Hp} : SameF F H H := fun _ _ h _ => h
theorem SameF.trans {F : Addr → Prop} {H H1 H2 : Hp} (a : SameF F H H1) (b : SameF F H1 H2) : SameF F H H2 := fun x u h z => b x u (a x u h z) z
theorem SameF.sub {F G : Addr → Prop} {H H1 : Hp} (a : SameF F H H1) (f : ∀ x, G x → F x) : SameF G H H1 := fun x u h z => a x u h (z.imp (f x) id)
theorem _root_.L2.Same.F {F : Addr → Prop} {H H1 : Hp} (a : Same H H1) : SameF F H H1 := fun x u h _ => a x u h
theorem SameF.upd {F : Addr → Prop} {H : Hp} {D : Addr} {ys : List V} {o : HO} (hD : H D = some (.lst ys)) (nf : ¬ F D) : SameF F H (upd H D o) := fun x u h z => by
  rw [upd_ne (fun q => ?_)]
  · exact h
  · subst q
    rw [hD] at h; cases h
    exact z.elim nf (fun q => nomatch q)
theorem rd_lstF {F : Addr → Prop} {H H1 : Hp} {a : Addr} {xs : List V} (s : SameF F H H1) (h : Rd H a (.lst xs)) (f : F a) : Rd H1 a (.lst xs) := h.elim (fun z => .inl (s _ _ z (.inl f))) fun ⟨o, z⟩ => .inr ⟨o, s _ _ z (.inl f)⟩
theorem sqt_F {K : PySem.W.Frag} {F : Addr → Prop} {H H1 : Hp} {a : Addr} {xs : List V} (s : SameF F H H1) (h : SqT K H a xs) : SqT K H1 a xs := h.imp (fun z => z.elim (fun z => .inl (s _ _ z (.inr rfl))) fun ⟨o, z⟩ => .inr ⟨o, s _ _ z (.inr rfl)⟩) id
mutual
theorem df_monoF {K : PySem.W.Frag} {F : Addr → Prop} {H H1 : Hp} (s : SameF F H H1) : ∀ {v : V} {d : PyData}, Df K F H v d → Df K F H1 v d
  | _, _, .non => .non
  | _, _, .bl b => .bl b
  | _, _, .int i => .int i
  | _, _, .str x => .str x
  | _, _, .lst h r => .lst (h.imp (fun z => ⟨rd_lstF s z.1 z.2, z.2⟩) id) (dfs_monoF s r)
  | _, _, .tup h r => .tup (sqt_F s h) (dfs_monoF s r)
theorem dfs_monoF {K : PySem.W.Frag} {F : Addr → Prop} {H H1 : Hp} (s : SameF F H H1) : ∀ {vs : List V} {ds : List PyData}, DfAll K F H vs ds → DfAll K F H1 vs ds
  | _, _, .nil => .nil
  | _, _, .cons h r => .cons (df_monoF s h) (dfs_monoF s r)
end
/-- a later heap, whose lists allow what stood -/
structure Ext (F : Addr → Prop) (H : Hp) (F2 : Addr → Prop) (H2 : Hp) : Prop where
  same : SameF F H H2
  ok : ∀ a, F a → H a ≠ none → F2 a
theorem Ext.refl {F : Addr → Prop} {H : Hp} : Ext F H F H := ⟨SameF.refl, fun _ h _ => h⟩
mutual
theorem df_in {K : PySem.W.Frag} {F : Addr → Prop} {H : Hp} : ∀ {v : V} {d : PyData}, Df K F H v d → Df K (fun a => F a ∧ H a ≠ none) H v d
  | _, _, .non => .non
  | _, _, .bl b => .bl b
  | _, _, .int i => .int i
  | _, _, .str x => .str x
  | _, _, .lst h r => .lst (h.imp (fun z => ⟨z.1, z.2, by rcases z.1 with z | ⟨o, z⟩ <;> (rw [z]; exact fun q => nomatch q)⟩) id) (dfs_in r)
  | _, _, .tup h r => .tup h (dfs_in r)
theorem dfs_in {K : PySem.W.Frag} {F : Addr → Prop} {H : Hp} : ∀ {vs : List V} {ds : List PyData}, DfAll K F H vs ds → DfAll K (fun a => F a ∧ H a ≠ none) H vs ds
  | _, _, .nil => .nil
  | _, _, .cons h r => .cons (df_in h) (dfs_in r)
end
theorem df_ext {K : PySem.W.Frag} {F F2 : Addr → Prop} {H H2 : Hp} {v : V} {d : PyData} (e : Ext F H F2 H2) (h : Df K F H v d) : Df K F2 H2 v d := df_mono (Same.refl _) (fun a z => e.ok a z.1 z.2) (df_monoF (e.same.sub fun _ z => z.1) (df_in h))
theorem dfs_ext {K : PySem.W.Frag} {F F2 : Addr → Prop} {H H2 : Hp} {v : List V} {d : List PyData} (e : Ext F H F2 H2) (h : DfAll K F H v d) : DfAll K F2 H2 v d := dfs_mono (Same.refl _) (fun a z => e.ok a z.1 z.2) (dfs_monoF (e.same.sub fun _ z => z.1) (dfs_in h))

theorem small5 {n : Nat} (h : n ≤ 100000) : n ≤ sizeLine := Nat.le_trans h (by decide)
theorem lt5 {n : Nat} (h : n < 100000) : n < sizeLine := Nat.lt_of_lt_of_le h (by decide)

/-! ### what evaluates to what, the heap growing -/
def ED (K : PySem.W.Frag) (te : TE) (σ : L2.St) (F : Addr → Prop) (H : Hp) (d : PyData) : Prop := ∀ H1, Same H H1 → ∀ Q : VK, (∀ v H2, Same H1 H2 → Df K (Fr F H1) H2 v d → Q v H2) → te σ H1 Q
def ET (tt : TT) (σ : L2.St) (H : Hp) (b : Bool) : Prop := ∀ H1, Same H H1 → ∀ Q : Bool → Hp → Prop, (∀ H2, Same H1 H2 → Q b H2) → tt σ H1 Q
def EA (K : PySem.W.Frag) (ta : TA) (σ : L2.St) (F : Addr → Prop) (H : Hp) (ds : List PyData) : Prop := ∀ H1, Same H H1 → ∀ Q : List V → Hp → Prop, (∀ vs H2, Same H1 H2 → DfAll K (Fr F H1) H2 vs ds → Q vs H2) → ta σ H1 Q
def EO (to : TO) (σ : L2.St) (H : Hp) (o : Option Int) : Prop := ∀ H1, Same H H1 → ∀ Q : Option Int → Hp → Prop, (∀ H2, Same H1 H2 → Q o H2) → to σ H1 Q

section
variable {K : PySem.W.Frag} {σ : L2.St} {F : Addr → Prop} {H H' : Hp} {ta tb te tc : TE} {t u : TT} {d e : PyData}
theorem ED.mono (s : Same H H') (h : ED K te σ F H d) : ED K te σ F H' d := fun H1 a Q q => h H1 (s.trans a) Q q
theorem ET.mono {b : Bool} (s : Same H H') (h : ET t σ H b) : ET t σ H' b := fun H1 a Q q => h H1 (s.trans a) Q q
theorem ed_var {i : Nat} {v : V} (h : σ[i]? = some (some v)) (hd : Df K F H v d) : ED K (tVar i) σ F H d := fun H1 s Q q => ⟨v, h, q v H1 (Same.refl _) (df_mono s Fr.base hd)⟩
theorem ed_c {v : V} (hd : ∀ F H, Df K F H v d) : ED K (tC v) σ F H d := fun H1 _ _ q => q v H1 (Same.refl _) (hd _ H1)
theorem ed_int {i : Int} : ED K (tC (.int i)) σ F H (.int i) := ed_c fun _ _ => .int i
theorem ed_str {x : Str} : ED K (tC (.str x)) σ F H (.str x) := ed_c fun _ _ => .str x
theorem ed_bl {b : Bool} : ED K (tC (.bl b)) σ F H (.bool b) := ed_c fun _ _ => .bl b
theorem ed_non : ED K (tC .non) σ F H .none := ed_c fun _ _ => .non
theorem ea_nil : EA K tNil σ F H [] := fun H1 _ _ q => q [] H1 (Same.refl _) .nil
theorem ea_cons {tr : TA} {ds : List PyData} (h : ED K te σ F H d) (r : EA K tr σ F H ds) : EA K (tCons te tr) σ F H (d :: ds) := fun H1 s Q q =>
  h H1 s _ fun v H2 s2 hv => r H2 (s.trans s2) _ fun vs H3 s3 hvs => q (v :: vs) H3 (s2.trans s3) (.cons (df_mono s3 (fun _ z => z) hv) (dfs_mono (Same.refl _) (Fr.to s2) hvs))
theorem ed_tup {ta : TA} {ds : List PyData} (h : EA K ta σ F H ds) (hl : ds.length ≤ 100000) : ED K (tTup ta) σ F H (.tuple ds) := fun H1 s Q q =>
  h H1 s _ fun vs H2 s2 hv => ⟨by rw [dfs_len hv]; exact small5 hl, fun p hp => q _ _ (s2.trans (Same.newA hp)) (.tup (.of upd_same) (dfs_mono (Same.newA hp) (fun _ z => z) hv))⟩
theorem ed_lst {ta : TA} {ds : List PyData} (h : EA K ta σ F H ds) (hl : ds.length ≤ 100000) : ED K (tLst ta) σ F H (.list ds) := fun H1 s Q q =>
  h H1 s _ fun vs H2 s2 hv => ⟨by rw [dfs_len hv]; exact small5 hl, fun p hp => q _ _ (s2.trans (Same.newA hp)) (.lst (.inl ⟨.inl upd_same, .inr (s2.freshA hp)⟩) (dfs_mono (Same.newA hp) (fun _ z => z) hv))⟩

/-- an operation of two values, read by its rule -/
def RD (K : PySem.W.Frag) (r : R2) (d e f : PyData) : Prop := ∀ (F : Addr → Prop) x y H1, Df K F H1 x d → Df K F H1 y e → ∀ Q : VK, (∀ v H2, Same H1 H2 → Df K (fun a => F a ∨ H1 a = none) H2 v f → Q v H2) → r x y H1 Q
theorem ed_op {r : R2} {f : PyData} (ha : ED K ta σ F H d) (hb : ED K tb σ F H e) (hr : RD K r d e f) : ED K (tOp r ta tb) σ F H f := fun H1 s Q q =>
  ha H1 s _ fun x H2 s2 hx => hb H2 (s.trans s2) _ fun y H3 s3 hy => hr (Fr F H1) x y H3 (df_mono s3 (fun _ z => z) hx) (df_mono (Same.refl _) (Fr.to s2) hy) Q fun v H4 s4 hv =>
    q v H4 ((s2.trans s3).trans s4) (df_mono (Same.refl _) (fun _ z => z.elim id fun e => .inr ((s2.trans s3).freshA e)) hv)
theorem rd_int {C : Int → Int → Prop} {g : Int → Int → Int} {i j : Int} (hc : C i j) : RD K (rI C fun i j => .int (g i j)) (.int i) (.int j) (.int (g i j)) := fun F x y H1 hx hy Q q => by
  cases hx; cases hy; exact ⟨i, j, rfl, rfl, hc, q _ _ (Same.refl _) (.int _)⟩
theorem rd_int0 {g : Int → Int → Int} {i j : Int} : RD K (rI0 fun i j => .int (g i j)) (.int i) (.int j) (.int (g i j)) := fun F x y H1 hx hy Q q => by
  cases hx; cases hy; exact ⟨i, j, rfl, rfl, q _ _ (Same.refl _) (.int _)⟩
theorem rd_cmp {g : Int → Int → Bool} {i j : Int} : RD K (rI0 fun i j => .bl (g i j)) (.int i) (.int j) (.bool (g i j)) := fun F x y H1 hx hy Q q => by
  cases hx; cases hy; exact ⟨i, j, rfl, rfl, q _ _ (Same.refl _) (.bl _)⟩
theorem ed_add {i j : Int} (ha : ED K ta σ F H (.int i)) (hb : ED K tb σ F H (.int j)) : ED K (tOp (rI0 fun i j => .int (i + j)) ta tb) σ F H (.int (i + j)) := ed_op ha hb rd_int0
theorem ed_sub {i j : Int} (ha : ED K ta σ F H (.int i)) (hb : ED K tb σ F H (.int j)) : ED K (tOp (rI0 fun i j => .int (i - j)) ta tb) σ F H (.int (i - j)) := ed_op ha hb rd_int0
theorem ed_lt {i j : Int} (ha : ED K ta σ F H (.int i)) (hb : ED K tb σ F H (.int j)) : ED K (tOp (rI0 fun i j => .bl (decide (i < j))) ta tb) σ F H (.bool (decide (i < j))) := ed_op ha hb rd_cmp
theorem ed_le {i j : Int} (ha : ED K ta σ F H (.int i)) (hb : ED K tb σ F H (.int j)) : ED K (tOp (rI0 fun i j => .bl (decide (i ≤ j))) ta tb) σ F H (.bool (decide (i ≤ j))) := ed_op ha hb rd_cmp
theorem ed_gt {i j : Int} (ha : ED K ta σ F H (.int i)) (hb : ED K tb σ F H (.int j)) : ED K (tOp (rI0 fun i j => .bl (decide (j < i))) ta tb) σ F H (.bool (decide (j < i))) := ed_op ha hb rd_cmp
theorem ed_ge {i j : Int} (ha : ED K ta σ F H (.int i)) (hb : ED K tb σ F H (.int j)) : ED K (tOp (rI0 fun i j => .bl (decide (j ≤ i))) ta tb) σ F H (.bool (decide (j ≤ i))) := ed_op ha hb rd_cmp
theorem ed_eqD (ha : ED K ta σ F H d) (hb : ED K tb σ F H e) (h1 : SeqAt.shaped d = true) (h2 : SeqAt.shaped e = true) : ED K (tOp (rEqD K) ta tb) σ F H (.bool (PyData.eqv d e)) :=
  ed_op ha hb fun F x y H1 hx hy Q q => ⟨d, e, df_dp hx, df_dp hy, h1, h2, q _ _ (Same.refl _) (.bl _)⟩
theorem ed_neD (ha : ED K ta σ F H d) (hb : ED K tb σ F H e) (h1 : SeqAt.shaped d = true) (h2 : SeqAt.shaped e = true) : ED K (tOp (rNeD K) ta tb) σ F H (.bool (!PyData.eqv d e)) :=
  ed_op ha hb fun F x y H1 hx hy Q q => ⟨d, e, df_dp hx, df_dp hy, h1, h2, q _ _ (Same.refl _) (.bl _)⟩
theorem ed_eqS {x y : Str} (ha : ED K ta σ F H (.str x)) (hb : ED K tb σ F H (.str y)) : ED K (tOp rEq ta tb) σ F H (.bool (decide (x = y))) :=
  ed_op ha hb fun F a b H1 hx hy Q q => by
    cases hx; cases hy
    refine ⟨rfl, ?_⟩
    have e : decide (V.str x = V.str y) = decide (x = y) := by
      by_cases z : x = y
      · rw [decide_eq_true z, decide_eq_true (congrArg V.str z)]
      · rw [decide_eq_false z, decide_eq_false (fun q => z (V.str.inj q))]
    rw [e]; exact q _ _ (Same.refl _) (.bl _)
theorem ed_eqI {x y : Int} (ha : ED K ta σ F H (.int x)) (hb : ED K tb σ F H (.int y)) : ED K (tOp rEq ta tb) σ F H (.bool (decide (x = y))) :=
  ed_op ha hb fun F a b H1 hx hy Q q => by
    cases hx; cases hy
    refine ⟨rfl, ?_⟩
    have e : decide (V.int x = V.int y) = decide (x = y) := by
      by_cases z : x = y
      · rw [decide_eq_true z, decide_eq_true (congrArg V.int z)]
      · rw [decide_eq_false z, decide_eq_false (fun q => z (V.int.inj q))]
    rw [e]; exact q _ _ (Same.refl _) (.bl _)
theorem ed_neS {x y : Str} (ha : ED K ta σ F H (.str x)) (hb : ED K tb σ F H (.str y)) : ED K (tOp rNe ta tb) σ F H (.bool (!decide (x = y))) :=
  ed_op ha hb fun F a b H1 hx hy Q q => by
    cases hx; cases hy
    refine ⟨rfl, ?_⟩
    have e : decide (V.str x = V.str y) = decide (x = y) := by
      by_cases z : x = y
      · rw [decide_eq_true z, decide_eq_true (congrArg V.str z)]
      · rw [decide_eq_false z, decide_eq_false (fun q => z (V.str.inj q))]
    rw [e]; exact q _ _ (Same.refl _) (.bl _)
theorem ed_neI {x y : Int} (ha : ED K ta σ F H (.int x)) (hb : ED K tb σ F H (.int y)) : ED K (tOp rNe ta tb) σ F H (.bool (!decide (x = y))) :=
  ed_op ha hb fun F a b H1 hx hy Q q => by
    cases hx; cases hy
    refine ⟨rfl, ?_⟩
    have e : decide (V.int x = V.int y) = decide (x = y) := by
      by_cases z : x = y
      · rw [decide_eq_true z, decide_eq_true (congrArg V.int z)]
      · rw [decide_eq_false z, decide_eq_false (fun q => z (V.int.inj q))]
    rw [e]; exact q _ _ (Same.refl _) (.bl _)
theorem ed_catS {x y : Str} (ha : ED K ta σ F H (.str x)) (hb : ED K tb σ F H (.str y)) (hl : x.length + y.length ≤ 100000) :
    ED K (tOp (fun x y H Q => ∃ i j, x = .str i ∧ y = .str j ∧ i.length + j.length ≤ sizeLine ∧ Q (.str (i ++ j)) H) ta tb) σ F H (.str (x ++ y)) :=
  ed_op ha hb fun F a b H1 hx hy Q q => by
    cases hx; cases hy; exact ⟨x, y, rfl, rfl, small5 hl, q _ _ (Same.refl _) (.str _)⟩
/-- x is None -/
def isNone : PyData → Bool | .none => true | _ => false
theorem isN_of {F : Addr → Prop} {H : Hp} {x : V} (h : Df K F H x d) : decide (x = .non) = isNone d := by cases h <;> rfl
theorem ed_isN (ha : ED K ta σ F H d) : ED K (tOp (fun x y H Q => y = .non ∧ Q (.bl (decide (x = .non))) H) ta (tC .non)) σ F H (.bool (isNone d)) :=
  ed_op ha ed_non fun F a b H1 hx hy Q q => by
    cases hy; refine ⟨rfl, ?_⟩; rw [isN_of hx]; exact q _ _ (Same.refl _) (.bl _)
/-- a written item of a list, a tuple, a text -/
theorem ed_ixT {ds : List PyData} {j : Nat} (ha : ED K ta σ F H (.tuple ds)) (hb : ED K tb σ F H (.int j)) (h : ds[j]? = some d) : ED K (tOp (rIx K) ta tb) σ F H d :=
  ed_op ha hb fun F a b H1 hx hy Q q => by
    cases hy
    cases hx with
    | tup hs r =>
      obtain ⟨v, e, hv⟩ := dfs_get r h
      exact .inr (.inl ⟨_, _, _, v, rfl, rfl, hs, atI_nat e, q _ _ (Same.refl _) (df_mono (Same.refl _) (fun _ z => .inl z) hv)⟩)
theorem ed_ixL {ds : List PyData} {j : Nat} (ha : ED K ta σ F H (.list ds)) (hb : ED K tb σ F H (.int j)) (h : ds[j]? = some d) : ED K (tOp (rIx K) ta tb) σ F H d :=
  ed_op ha hb fun F a b H1 hx hy Q q => by
    cases hy
    cases hx with
    | lst hs r =>
      obtain ⟨v, e, hv⟩ := dfs_get r h
      exact .inl ⟨_, _, _, v, rfl, rfl, hs.imp (fun z => z.1) id, atI_nat e, q _ _ (Same.refl _) (df_mono (Same.refl _) (fun _ z => .inl z) hv)⟩
theorem ed_ixS {x : Str} {j c : Nat} (ha : ED K ta σ F H (.str x)) (hb : ED K tb σ F H (.int j)) (hl : x.length ≤ 100000) (h : x.cps.toList[j]? = some c) : ED K (tOp (rIx K) ta tb) σ F H (.str ⟨#[c]⟩) :=
  ed_op ha hb fun F a b H1 hx hy Q q => by
    cases hy; cases hx
    exact .inr (.inr ⟨_, _, c, rfl, rfl, small5 hl, atI_nat h, q _ _ (Same.refl _) (.str _)⟩)

/-! ### tests -/
theorem et_test {b : Bool} (h : ED K te σ F H (.bool b)) : ET (tTest te) σ H b := fun H1 s Q q => h H1 s _ fun v H2 s2 hv => by
  cases hv; exact ⟨b, rfl, q H2 s2⟩
theorem et_B {b : Bool} (h : ED K te σ F H (.bool b)) : ET (tB te) σ H b := fun H1 s Q q => h H1 s _ fun v H2 s2 hv => by
  cases hv; exact ⟨b, rfl, q H2 s2⟩
theorem et_and {a b : Bool} (h1 : ET t σ H a) (h2 : a = true → ET u σ H b) : ET (tAnd t u) σ H (a && b) := fun H1 s Q q => h1 H1 s _ fun H2 s2 => by
  cases a with
  | true => exact h2 rfl H2 (s.trans s2) Q fun H3 s3 => q H3 (s2.trans s3)
  | false => exact q H2 s2
theorem et_or {a b : Bool} (h1 : ET t σ H a) (h2 : a = false → ET u σ H b) : ET (tOr t u) σ H (a || b) := fun H1 s Q q => h1 H1 s _ fun H2 s2 => by
  cases a with
  | true => exact q H2 s2
  | false => exact h2 rfl H2 (s.trans s2) Q fun H3 s3 => q H3 (s2.trans s3)
theorem et_not {a : Bool} (h1 : ET t σ H a) : ET (tNot t) σ H (!a) := fun H1 s Q q => h1 H1 s _ fun H2 s2 => q H2 s2
theorem et_is {a b : Bool} (h : ET t σ H a) (e : a = b) : ET t σ H b := e ▸ h
theorem ed_is (h : ED K te σ F H d) (z : d = e) : ED K te σ F H e := z ▸ h
theorem ed_andV {a b : Bool} (h1 : ED K ta σ F H (.bool a)) (h2 : a = true → ED K tb σ F H (.bool b)) : ED K (tAndV ta tb) σ F H (.bool (a && b)) := fun H1 s Q q => h1 H1 s _ fun v H2 s2 hv => by
  cases hv
  refine ⟨a, rfl, ?_⟩
  cases a with
  | true => exact h2 rfl H2 (s.trans s2) Q fun v H3 s3 hv => q v H3 (s2.trans s3) (df_mono (Same.refl _) (Fr.to s2) hv)
  | false => exact q _ H2 s2 (.bl _)
theorem ed_orV {a b : Bool} (h1 : ED K ta σ F H (.bool a)) (h2 : a = false → ED K tb σ F H (.bool b)) : ED K (tOrV ta tb) σ F H (.bool (a || b)) := fun H1 s Q q => h1 H1 s _ fun v H2 s2 hv => by
  cases hv
  refine ⟨a, rfl, ?_⟩
  cases a with
  | true => exact q _ H2 s2 (.bl _)
  | false => exact h2 rfl H2 (s.trans s2) Q fun v H3 s3 hv => q v H3 (s2.trans s3) (df_mono (Same.refl _) (Fr.to s2) hv)
theorem ed_notV {a : Bool} (h1 : ED K ta σ F H (.bool a)) : ED K (tNotV ta) σ F H (.bool (!a)) := fun H1 s Q q => h1 H1 s _ fun v H2 s2 hv => by
  cases hv; exact ⟨a, rfl, q _ H2 s2 (.bl _)⟩
theorem ed_if {b : Bool} (h : ET t σ H b) (h1 : b = true → ED K ta σ F H d) (h2 : b = false → ED K tb σ F H d) : ED K (tIf t ta tb) σ F H d := fun H1 s Q q => h H1 s _ fun H2 s2 => by
  cases b with
  | true => exact h1 rfl H2 (s.trans s2) Q fun v H3 s3 hv => q v H3 (s2.trans s3) (df_mono (Same.refl _) (Fr.to s2) hv)
  | false => exact h2 rfl H2 (s.trans s2) Q fun v H3 s3 hv => q v H3 (s2.trans s3) (df_mono (Same.refl _) (Fr.to s2) hv)
theorem ed_chain {r r' : R2} {a b : Bool} {f : PyData} (ha : ED K ta σ F H d) (hb : ED K tb σ F H e) (hc : ED K tc σ F H f) (h1 : RD K r d e (.bool a)) (h2 : a = true → RD K r' e f (.bool b)) :
    ED K (tChain r r' ta tb tc) σ F H (.bool (a && b)) := fun H1 s Q q =>
  ha H1 s _ fun x H2 s2 hx => hb H2 (s.trans s2) _ fun y H3 s3 hy => h1 (fun _ => True) x y H3 (df_mono s3 (fun _ _ => trivial) hx) (df_mono (Same.refl _) (fun _ _ => trivial) hy) _ fun z H4 s4 hz => by
    cases hz
    refine ⟨a, rfl, ?_⟩
    cases a with
    | true =>
      refine hc H4 (((s.trans s2).trans s3).trans s4) _ fun w H5 s5 hw => h2 rfl (fun _ => True) y w H5 (df_mono (s4.trans s5) (fun _ _ => trivial) hy) (df_mono (Same.refl _) (fun _ _ => trivial) hw) Q fun v H6 s6 hv => ?_
      cases hv
      exact q _ H6 ((((s2.trans s3).trans s4).trans s5).trans s6) (.bl _)
    | false => exact q _ H4 ((s2.trans s3).trans s4) (.bl _)

/-! ### built-in calls -/
def RDC (K : PySem.W.Frag) (r : List V → Hp → VK → Prop) (ds : List PyData) (f : PyData) : Prop := ∀ (F : Addr → Prop) vs H1, DfAll K F H1 vs ds → ∀ Q : VK, (∀ v H2, Same H1 H2 → Df K (fun a => F a ∨ H1 a = none) H2 v f → Q v H2) → r vs H1 Q
theorem ed_cb {r : List V → Hp → VK → Prop} {ta : TA} {ds : List PyData} (h : EA K ta σ F H ds) (hr : RDC K r ds d) : ED K (tCB r ta) σ F H d := fun H1 s Q q =>
  h H1 s _ fun vs H2 s2 hv => hr (Fr F H1) vs H2 hv Q fun v H3 s3 hv3 => q v H3 (s2.trans s3) (df_mono (Same.refl _) (fun _ z => z.elim id fun e => .inr (s2.freshA e)) hv3)
theorem ed_call {sp : Sp} {E : XK} {ta : TA} {ds : List PyData} (h : EA K ta σ F H ds) (hr : RDC K (fun vs H Q => sp vs H Q E) ds d) : ED K (tCall sp [] E ta) σ F H d := fun H1 s Q q =>
  h H1 s _ fun vs H2 s2 hv => by
    show sp (vs ++ []) H2 Q E
    rw [List.append_nil]
    exact hr (Fr F H1) vs H2 hv Q fun v H3 s3 hv3 => q v H3 (s2.trans s3) (df_mono (Same.refl _) (fun _ z => z.elim id fun e => .inr (s2.freshA e)) hv3)
/-- len of data -/
def lenP : PyData → Nat | .list ds => ds.length | .tuple ds => ds.length | .str x => x.length | _ => 0
def hasLen : PyData → Bool | .list _ => true | .tuple _ => true | .str x => decide (x.length ≤ 100000) | _ => false
theorem rdc_len (h : hasLen d = true) : RDC K (fun xs H Q => ∃ x n, xs = [x] ∧ LenV K x H n ∧ Q (.int n) H) [d] (.int (lenP d : Int)) := fun F vs H1 hv Q q => by
  cases hv with
  | cons a r =>
    cases r
    refine ⟨_, lenP d, rfl, ?_, q _ _ (Same.refl _) (.int _)⟩
    cases a with
    | lst hs r => exact .inl ⟨_, hs.imp (fun z => z.1) id, (dfs_len r).symm⟩
    | tup hs r => exact .inr ⟨_, hs, (dfs_len r).symm⟩
    | str x => exact ⟨small5 (of_decide_eq_true h), rfl⟩
    | _ => cases h
theorem ed_len (ha : ED K ta σ F H d) (h : hasLen d = true) : ED K (tCB (fun xs H Q => ∃ x n, xs = [x] ∧ LenV K x H n ∧ Q (.int n) H) (tCons ta tNil)) σ F H (.int (lenP d : Int)) := ed_cb (ea_cons ha ea_nil) (rdc_len h)
/-- isinstance of data -/
def tyName : PyData → String | .none => "NoneType" | .bool _ => "bool" | .int _ => "int" | .str _ => "str" | .list _ => "list" | .tuple _ => "tuple" | .dict _ => "dict"
theorem tyx_of {H : Hp} {x : V} (h : Dp K H x d) : TyX K H x (.type (tyName d)) := by
  cases h with
  | non => exact .base .non
  | bl b => exact .base (.bl b)
  | int i => exact .base (.int i)
  | str x => exact .base (.str x)
  | lst hs r =>
    rcases hs with (h | ⟨o, h⟩) | ⟨o, its, n, hk, hc, _⟩
    · exact .base (.lst h)
    · exact .base (.frz h)
    · exact .kList hk hc
  | tup hs r =>
    rcases hs with (h | ⟨o, h⟩) | ⟨o, its, n, hk, hc, _⟩
    · exact .base (.tup h)
    · exact .fTuple h
    · exact .kTuple hk hc
def isiB (T : String) : PyData → Bool
  | .none => false | .bool _ => T == "bool" || T == "int" | .int _ => T == "int" | .str _ => T == "str" | .list _ => T == "list" | .tuple _ => T == "tuple" | .dict _ => T == "dict"
theorem kit_all {T : String} (hT : T = "str" ∨ T = "tuple" ∨ T = "list" ∨ T = "int" ∨ T = "bool") {H : Hp} {x : V} (h : Dp K H x d) : PySem.W.kitOne K (.type (tyName d)) (.type T) = some (isiB T d) := by
  rcases hT with rfl | rfl | rfl | rfl | rfl
  · cases h with
    | non => exact kit_ty (show kitB "NoneType" "str" = some false by decide +kernel)
    | bl b => exact kit_ty (show kitB "bool" "str" = some false by decide +kernel)
    | int i => exact kit_ty (show kitB "int" "str" = some false by decide +kernel)
    | str x => exact kit_ty (show kitB "str" "str" = some true by decide +kernel)
    | lst hs r => exact kit_ty (show kitB "list" "str" = some false by decide +kernel)
    | tup hs r => exact kit_ty (show kitB "tuple" "str" = some false by decide +kernel)
  · cases h with
    | non => exact kit_ty (show kitB "NoneType" "tuple" = some false by decide +kernel)
    | bl b => exact kit_ty (show kitB "bool" "tuple" = some false by decide +kernel)
    | int i => exact kit_ty (show kitB "int" "tuple" = some false by decide +kernel)
    | str x => exact kit_ty (show kitB "str" "tuple" = some false by decide +kernel)
    | lst hs r => exact kit_ty (show kitB "list" "tuple" = some false by decide +kernel)
    | tup hs r => exact kit_ty (show kitB "tuple" "tuple" = some true by decide +kernel)
  · cases h with
    | non => exact kit_ty (show kitB "NoneType" "list" = some false by decide +kernel)
    | bl b => exact kit_ty (show kitB "bool" "list" = some false by decide +kernel)
    | int i => exact kit_ty (show kitB "int" "list" = some false by decide +kernel)
    | str x => exact kit_ty (show kitB "str" "list" = some false by decide +kernel)
    | lst hs r => exact kit_ty (show kitB "list" "list" = some true by decide +kernel)
    | tup hs r => exact kit_ty (show kitB "tuple" "list" = some false by decide +kernel)
  · cases h with
    | non => exact kit_ty (show kitB "NoneType" "int" = some false by decide +kernel)
    | bl b => exact kit_ty (show kitB "bool" "int" = some true by decide +kernel)
    | int i => exact kit_ty (show kitB "int" "int" = some true by decide +kernel)
    | str x => exact kit_ty (show kitB "str" "int" = some false by decide +kernel)
    | lst hs r => exact kit_ty (show kitB "list" "int" = some false by decide +kernel)
    | tup hs r => exact kit_ty (show kitB "tuple" "int" = some false by decide +kernel)
  · cases h with
    | non => exact kit_ty (show kitB "NoneType" "bool" = some false by decide +kernel)
    | bl b => exact kit_ty (show kitB "bool" "bool" = some true by decide +kernel)
    | int i => exact kit_ty (show kitB "int" "bool" = some false by decide +kernel)
    | str x => exact kit_ty (show kitB "str" "bool" = some false by decide +kernel)
    | lst hs r => exact kit_ty (show kitB "list" "bool" = some false by decide +kernel)
    | tup hs r => exact kit_ty (show kitB "tuple" "bool" = some false by decide +kernel)
theorem ed_isi {T : String} (ha : ED K ta σ F H d) (hT : T = "str" ∨ T = "tuple" ∨ T = "list" ∨ T = "int" ∨ T = "bool") : ED K (tCB (rIsi K) (tCons ta (tCons (tC (.ty T)) tNil))) σ F H (.bool (isiB T d)) := fun H1 s Q q =>
  ha H1 s _ fun x H2 s2 hx => ⟨x, .ty T, _, _, _, rfl, .ty T, tyx_of (df_dp hx), kit_all hT (df_dp hx), q _ _ s2 (.bl _)⟩
/-- all, any of bools -/
theorem ed_all {bs : List Bool} (ha : ED K ta σ F H (.list (bs.map .bool))) : ED K (tCB (rAll K) (tCons ta tNil)) σ F H (.bool (bs.all id)) := ed_cb (ea_cons ha ea_nil) fun F vs H1 hv Q q => by
  cases hv with
  | cons a r =>
    cases r
    cases a with
    | lst hs r => rw [bls_dps (dfs_dps r)] at hs; exact ⟨_, bs, rfl, hs.imp (fun z => z.1) id, q _ _ (Same.refl _) (.bl _)⟩
theorem ed_sum {ns : List Int} (ha : ED K ta σ F H (.list (ns.map .int))) : ED K (tCB (rSum K) (tCons ta tNil)) σ F H (.int ns.sum) := ed_cb (ea_cons ha ea_nil) fun F vs H1 hv Q q => by
  cases hv with
  | cons a r =>
    cases r
    cases a with
    | lst hs r => rw [ints_dps (dfs_dps r)] at hs; exact ⟨_, ns, rfl, hs.imp (fun z => z.1) id, q _ _ (Same.refl _) (.int _)⟩
/-- tuple(xs), list(xs) -/
def seqOf : PyData → List PyData | .list ds => ds | .tuple ds => ds | _ => []
def isSeq : PyData → Bool | .list _ => true | .tuple _ => true | _ => false
theorem ed_tupleOf (ha : ED K ta σ F H d) (h : isSeq d = true) : ED K (tCB (fun xs H Q => ∃ p ys, xs = [.ref p] ∧ ((SqL K H p ys ∧ ∀ l, H l = none → Q (.ref l) (upd H l (.tup ys))) ∨ (SqT K H p ys ∧ Q (.ref p) H))) (tCons ta tNil)) σ F H (.tuple (seqOf d)) := ed_cb (ea_cons ha ea_nil) fun F vs H1 hv Q q => by
  cases hv with
  | cons a r =>
    cases r
    cases a with
    | lst hs r => exact ⟨_, _, rfl, .inl ⟨hs.imp (fun z => z.1) id, fun l hl => q _ _ (Same.newA hl) (.tup (.of upd_same) (dfs_mono (Same.newA hl) (fun _ z => .inl z) r))⟩⟩
    | tup hs r => exact ⟨_, _, rfl, .inr ⟨hs, q _ _ (Same.refl _) (.tup hs (dfs_mono (Same.refl _) (fun _ z => .inl z) r))⟩⟩
    | _ => cases h
theorem ed_listOf (ha : ED K ta σ F H d) (h : isSeq d = true) : ED K (tCB (fun xs H Q => ∃ p ys, xs = [.ref p] ∧ (SqL K H p ys ∨ SqT K H p ys) ∧ ∀ l, H l = none → Q (.ref l) (upd H l (.lst ys))) (tCons ta tNil)) σ F H (.list (seqOf d)) := ed_cb (ea_cons ha ea_nil) fun F vs H1 hv Q q => by
  cases hv with
  | cons a r =>
    cases r
    cases a with
    | lst hs r => exact ⟨_, _, rfl, .inl (hs.imp (fun z => z.1) id), fun l hl => q _ _ (Same.newA hl) (.lst (.inl ⟨.inl upd_same, .inr hl⟩) (dfs_mono (Same.newA hl) (fun _ z => .inl z) r))⟩
    | tup hs r => exact ⟨_, _, rfl, .inr hs, fun l hl => q _ _ (Same.newA hl) (.lst (.inl ⟨.inl upd_same, .inr hl⟩) (dfs_mono (Same.newA hl) (fun _ z => .inl z) r))⟩
    | _ => cases h
end
end Ag

set_option Elab.async false
set_option linter.all false
set_option maxRecDepth 100000
set_option maxHeartbeats 1000000
/-! The end of a law row, the law run at the caller's very surroundings (so that nothing is being shown there), with tables of code objects. -/
namespace Ag
open PySem PySem.Spec PyProof.Rows L2 LamX
def emptyT : Obj := { cls := .none, data := .fields #[] }
/-- what is tracked ahead of the law: the script, unless it is written, and the tables -/
def lawH (a : Addr) (tabs : List Addr) (o : Obj) (xs : List V) (wr : Bool) : Hp := fun b => if b ∈ tabs then some (.tbl #[]) else if b = a ∧ wr = false then some (.frz o (.lst xs)) else none
section
variable {a b : Addr} {tabs : List Addr} {o : Obj} {xs : List V} {wr : Bool} {u : HO}
theorem lawH_tab (h : b ∈ tabs) : lawH a tabs o xs wr b = some (.tbl #[]) := if_pos h
theorem lawH_at (h : a ∉ tabs) : lawH a tabs o xs false a = some (.frz o (.lst xs)) := by
  unfold lawH; rw [if_neg h, if_pos ⟨rfl, rfl⟩]
theorem lawH_cases (h : lawH a tabs o xs wr b = some u) : (b ∈ tabs ∧ u = .tbl #[]) ∨ (b = a ∧ wr = false ∧ b ∉ tabs ∧ u = .frz o (.lst xs)) := by
  unfold lawH at h
  by_cases h1 : b ∈ tabs
  · rw [if_pos h1] at h; cases h; exact .inl ⟨h1, rfl⟩
  · rw [if_neg h1] at h
    by_cases h2 : b = a ∧ wr = false
    · rw [if_pos h2] at h; cases h; exact .inr ⟨h2.1, h2.2, h1, rfl⟩
    · rw [if_neg h2] at h; cases h
theorem lawH_none (h : lawH a tabs o xs wr b = none) : b ∉ tabs := fun z => by rw [lawH_tab z] at h; cases h
end
/-- the law's call: F tells what it does over a heap in which just the script and the tables are tracked -/
theorem law_callG {P : Program} {w : World} {K : PySem.W.Frag} {mg mb : Str → Option Value} {fa a : Addr} {cs : List (Addr × Addr)} {s₁ : Shared} {vs : List Value} {ns : List Int}
    (KX : K.In s₁.heap) (hns : s₁.heap.Ns mainGlobals mg) (hb : s₁.heap.Ns builtinsNs mb) (hbb : ∀ x : Str, x ≠ "__name__" → mb x = bootBuiltins x) (hlim : s₁.heap.NoLimit) (hg : s₁.gens = #[])
    (hT : ∀ p ∈ cs, s₁.heap.get? p.2 = some emptyT) (nT : ∀ p ∈ cs, K.lookup p.2 = none) (C : ∀ p ∈ cs, PySem.W.CodeHd s₁.heap p.1 p.2)
    (hbm : ∃ (bm : Addr) (ob : Obj), mg "__builtins__" = some (.ref bm) ∧ bm ≠ builtinsNs ∧ s₁.heap.get? bm = some ob ∧ ob.cls = .type "module" ∧ ob.dict = some builtinsNs ∧ ob.data = .plain)
    (ha : s₁.heap.get? a = some { cls := .type "list", data := .seq vs.toArray }) (hi : IntsAre vs ns) (hl : ns.length ≤ sizeLine)
    (F : ∀ (base : Heap) (H : Hp), K.In base → base.Ns mainGlobals mg → (∀ p ∈ cs, TabB base mg p.1 p.2) → (∀ p ∈ cs, H p.2 = some (.tbl #[])) → SqL K H a (ns.map V.int) → Env0 P w K mg base callerA [] s₁ H →
      codeAny (model P w) callerA (.call (.ref fa) ⟨[.ref a], []⟩) (CR CX0 [] P w H s₁ (fun v _ => v = .bl true) fun _ _ _ => False) s₁) :
    codeAny (model P w) callerA (.call (.ref fa) ⟨[.ref a], []⟩) (fun r s' => r = .ok (.ret (.bool true)) ∧ OldK s₁.heap s'.heap ∧ s'.os = s₁.os ∧ AllBare s'.gens) s₁ := by
  let sc : Obj := { cls := .type "list", data := .seq vs.toArray }
  let tabs := cs.map Prod.snd
  let wr : Bool := (K.lookup a).isSome
  let H : Hp := lawH a tabs sc (ns.map V.int) wr
  have tget : ∀ b ∈ tabs, s₁.heap.get? b = some emptyT := fun b hb => by
    obtain ⟨p, hp, rfl⟩ := List.mem_map.mp hb; exact hT p hp
  have tmem : ∀ p ∈ cs, p.2 ∈ tabs := fun p hp => List.mem_map_of_mem hp
  have na : a ∉ tabs := fun z => by
    have q := tget a z
    rw [ha] at q
    have := congrArg Obj.data (Option.some.inj q)
    exact nomatch this
  have nk : ∀ b ∈ tabs, K.lookup b = none := fun b hb => by
    obtain ⟨p, hp, rfl⟩ := List.mem_map.mp hb; exact nT p hp
  -- an object that is neither a list nor fields is not tracked
  have free : ∀ {b : Addr} {o : Obj}, s₁.heap.get? b = some o → (∀ z n, o.data ≠ .seq z n) → o.data ≠ .fields #[] → H b = none := fun {b o} e n1 n2 => by
    cases q : H b with
    | none => rfl
    | some u =>
      rcases lawH_cases q with ⟨m, _⟩ | ⟨m, _, _, _⟩
      · rw [tget b m] at e; cases e; exact absurd rfl n2
      · subst m; rw [ha] at e; cases e; exact absurd rfl (n1 _ _)
  have baseG : ∀ {b : Addr} {o : Obj}, s₁.heap.get? b = some o → (∀ z n, o.data ≠ .seq z n) → o.data ≠ .fields #[] → (hidT s₁.heap H).get? b = some o := fun e n1 n2 => hidT_get e (free e n1 n2)
  have nsB : ∀ {b : Addr} {m : Str → Option Value}, s₁.heap.Ns b m → (hidT s₁.heap H).Ns b m := fun ⟨o, es, ep, e, d, r⟩ =>
    ⟨o, es, ep, baseG e (fun z n q => by rw [d] at q; exact nomatch q) (fun q => by rw [d] at q; exact nomatch q), d, r⟩
  have kB : K.In (hidT s₁.heap H) := fun b o e => hidT_get (KX b o e) (by
    cases q : H b with
    | none => rfl
    | some u =>
      rcases lawH_cases q with ⟨m, _⟩ | ⟨m, wf, _, _⟩
      · rw [nk b m] at e; cases e
      · subst m
        have wf : (K.lookup b).isSome = false := wf
        rw [e] at wf; cases wf)
  have mod : L2.Mod K mg (hidT s₁.heap H) := ⟨kB, nsB hns, ⟨mb, nsB hb, hbb⟩, let ⟨mc, h1, h2⟩ := hlim; ⟨mc, nsB h1, h2⟩⟩
  have tb : ∀ p ∈ cs, TabB (hidT s₁.heap H) mg p.1 p.2 := fun p hp => by
    have hp2 := hT p hp
    obtain ⟨bm, ob, b1, b2, b3, b4, b5, b6⟩ := hbm
    refine ⟨?_, ⟨bm, ob, b1, b2, fun q => ?_, fun q => ?_, baseG b3 (fun z n q => by rw [b6] at q; exact nomatch q) (fun q => by rw [b6] at q; exact nomatch q), b4, b5, b6⟩, fun q => ?_⟩
    · obtain ⟨o, us, file, tf, flags, tg, inF, text, tt, e1, r1, r2, r3, rest⟩ := C p hp
      exact ⟨o, us, file, tf, flags, tg, inF, text, tt, baseG e1 (fun z n q => by rw [r2] at q; exact nomatch q) (fun q => by
        rw [r2] at q
        have q := Data.fields.inj q
        subst q; simp at r3), r1, r2, r3, rest⟩
    · obtain ⟨o, es, ep, e, d, _⟩ := hns
      rw [q, e] at b3; cases b3; rw [d] at b6; exact nomatch b6
    · rw [q, hp2] at b3; cases b3; exact nomatch b6
    · obtain ⟨o, es, ep, e, d, _⟩ := hns
      rw [q, hp2] at e; cases e; exact nomatch d
  have hok : HOk P w H s₁.heap := fun b u q => by
    rcases lawH_cases q with ⟨m, rfl⟩ | ⟨rfl, _, _, rfl⟩
    · exact tget b m
    · exact ⟨ha, by rw [List.length_map]; exact hl, vs, 0, vals_ints hi, ha⟩
  have e0 : Env0 P w K mg (hidT s₁.heap H) callerA [] s₁ H := ⟨rfl, mod, fun b o e => of_hidT e, Nat.le_of_eq (hidT_size _ _), trivial, fun b z => (nomatch z), hok, .of_eq hg⟩
  have sq : SqL K H a (ns.map V.int) := by
    cases q : K.lookup a with
    | none =>
      have wf : wr = false := by show (K.lookup a).isSome = false; rw [q]; rfl
      refine .inl (.inr ⟨sc, ?_⟩)
      show lawH a tabs sc (ns.map V.int) wr a = _
      rw [wf]; exact lawH_at na
    | some o =>
      have e := KX a o q
      rw [ha] at e; cases e
      exact .inr ⟨_, vs.toArray, _, q, rfl, rfl, rfl, by rw [List.size_toArray, hi.length]; exact hl, vals_ints hi⟩
  refine codeAny_mono (F _ H kB (nsB hns) tb (fun p hp => lawH_tab (tmem p hp)) sq e0) fun r s' h => ?_
  cases r with
  | error e => exact (show False from h).elim
  | ok fl =>
    cases fl with
    | ret u =>
      obtain ⟨v, H', os, bare, un, hok', rv, q⟩ := h
      cases (show v = V.bl true from q)
      obtain rfl : u = Value.bool true := rv
      have grown : ∀ b ∈ tabs, ∃ more : Array Value, s'.heap.get? b = some { cls := .none, data := .fields more } := fun b hb => by
        obtain ⟨more, z⟩ := un.tbls b #[] (lawH_tab hb)
        exact ⟨_, hok' b _ z⟩
      have kept : ∀ b o, b ∉ tabs → s₁.heap.get? b = some o → s'.heap.get? b = some o := fun b o nb e => by
        cases q : H b with
        | none => exact un.keep b o e q (fun z => nomatch z) (fun z => nomatch z)
        | some u =>
          rcases lawH_cases q with ⟨m, _⟩ | ⟨m, _, _, hu⟩
          · exact absurd m nb
          · subst m; subst hu
            have e2 := (hok' b _ (un.frzs b sc _ q)).1
            rw [ha] at e; cases e; exact e2
      refine ⟨rfl, ⟨fun b o e => ?_, fun b o e => ?_⟩, os, bare⟩
      · by_cases hb : b ∈ tabs
        · obtain ⟨p, hp, rfl⟩ := List.mem_map.mp hb
          obtain ⟨more, hm⟩ := grown _ hb
          rw [hT p hp] at e; cases e
          exact .inr (.inl ⟨((C p hp).tab (hT p hp)).isCodeTable, rfl, #[], more, rfl, by rw [Array.empty_append]; exact hm⟩)
        · exact .inl (kept b o hb e)
      · by_cases hb : b ∈ tabs
        · obtain ⟨more, hm⟩ := grown b hb; exact ⟨_, hm⟩
        · exact ⟨o, kept b o hb e⟩
    | next => exact False.elim h
    | brk => exact False.elim h
    | cont => exact False.elim h
/-- what is known of the law at the head's heap -/
def LawG (l : PySem.W.OpenLaw) (w : World) (K : PySem.W.Frag) (n : Nat) (mg : Str → Option Value) (fa : Addr) (s : Shared) : Prop :=
  ∃ cs : List (Addr × Addr), (∀ p ∈ cs, s.heap.get? p.2 = some emptyT) ∧ (∀ p ∈ cs, K.lookup p.2 = none) ∧ (∀ p ∈ cs, PySem.W.CodeHd s.heap p.1 p.2) ∧
    ∀ (a : Addr) (ns : List Int) (base : Heap) (H : Hp), ns.length ≤ n → (∀ z ∈ ns, Builtin.Int.intBits z ≤ 1048576) → K.In base → base.Ns mainGlobals mg → (∀ p ∈ cs, TabB base mg p.1 p.2) → (∀ p ∈ cs, H p.2 = some (.tbl #[])) → SqL K H a (ns.map V.int) → Env0 l.prog w K mg base callerA [] s H →
      codeAny (model l.prog w) callerA (.call (.ref fa) ⟨[.ref a], []⟩) (CR CX0 [] l.prog w H s (fun v _ => v = .bl true) fun _ _ _ => False) s
theorem walk_G {l : PySem.W.OpenLaw} {n : Nat} {q : Program} {loose : List Str} {XP : (Str → Option Value) → Heap → Prop} {YP : World → Heap → Prop} {d : DefRec} {K : Params → PySem.W.Frag}
    (hn : l.most = some n) (hn2 : n ≤ sizeLine) (hdf : d.params.defaults = []) (hY : ∀ (w : World) (h : Heap), YP w h → (K w.params).In h)
    (F : ∀ (w : World) (mg mb : Str → Option Value) (fa : Addr) (s : Shared) (mean : ExcName → Option Value), PyProof.Rows.Top q (PySem.W.looseW q loose) mean mg mb s.heap → (K w.params).In s.heap → mg d.name = some (.ref fa) → LawG l w (K w.params) n mg fa s) :
    PySem.W.WalkO q loose XP YP l.row.toRowW d [] (fun f vs => PySem.call f vs) := by
  refine Att.attach_callB hn hdf fun w s₀ s₁ mg mb fa o pm cd doc a vs ns G Y ho hd hcd hmg hobj hints hlen hbits hg => ?_
  have KX := hY w _ Y
  obtain ⟨cs, hT, nT, C, hF⟩ := F w mg mb fa s₁ _ G.T KX hmg
  exact law_callG KX G.T.g G.T.b G.T.builtins G.T.nolimit hg hT nT C G.T.bmain hobj hints (Nat.le_trans hlen hn2) fun base H h1 h2 h3 h4 h5 h6 => hF a ns base H hlen hbits h1 h2 h3 h4 h5 h6
end Ag

set_option Elab.async false
set_option linter.all false
set_option maxRecDepth 100000
set_option maxHeartbeats 2000000
/-! try with several clauses, each of which binds what it catches to a name. -/
namespace Ag
open PySem PySem.Spec PyProof.Rows L2
/-- a clause: the class, the slot of its name, and its suite's reading -/
structure Clause where
  cls : Value
  slot : Nat
  ts : Addr → Value → Option Addr → TS
/-- the ends of a suite whose name is unbound behind it -/
def endsU (i : Nat) (D : Ends) : Ends := ⟨fun σ H => D.nx (σ.set i none) H, D.rt, fun σ H => D.bk (σ.set i none) H, fun σ H => D.ct (σ.set i none) H⟩
def wNamed (K : PySem.W.Frag) (n : Nat) (Wout : WX) (D : Ends) : List Clause → WX
  | [] => Wout
  | q :: r => fun c d σ H => ∃ b, PySem.W.exmOne K c q.cls = some b ∧ (b = true → σ.length = n → ∀ a, H a = none → q.ts a c d (endsU q.slot D) (σ.set q.slot (some (.ref a))) H) ∧ (b = false → wNamed K n Wout D r c d σ H)
inductive ClausesOk (X : Cx) : List ExceptHandler → List Clause → Prop
  | nil : ClausesOk X [] []
  | cons {x n : Str} {q : Clause} {b₀ : Stmt} {suite : List Stmt} {np hp : Pos} {hds : List ExceptHandler} {l : List Clause} (names : Names X x q.cls) (hi : X.N[q.slot]? = some n) (loc : X.env.kindOf n = some .local)
      (run : ∀ (a : Addr) (oe : Obj) (c : Value) (d : Option Addr) (pn : List (Addr × Obj)), Zc c d oe → (∃ vs, oe.data = .fields vs) → PSs (X.suite a ((a, oe) :: pn)) (b₀ :: suite) (q.ts a c d)) (rest : ClausesOk X hds l) :
      ClausesOk X (.ExceptHandler (some (.Name x np)) (some n) (b₀ :: suite) hp :: hds) (q :: l)
section
variable {X : Cx} {body : List Stmt} {h₀ : ExceptHandler} {hds : List ExceptHandler} {l : List Clause} {pos : Pos} {tb : WX → TS} {Wout : WX}
theorem ps_try_named (stk : X.stack = X.env :: X.outer) (frm : X.env.frame = some X.env.locals) (nd : X.N.Nodup) (out : Takes X Wout)
    (hb : ∀ (W : WX) (pn : List (Addr × Obj)) (xe : Value → Shared → Prop), Takes (X.tr pn xe) W → PassesOwn (model X.prog X.w) X.A X.env xe → PSs (X.tr pn xe) body (tb W))
    (hh : ClausesOk X (h₀ :: hds) l) : PS X (.Try body (h₀ :: hds) [] [] pos) (fun D σ H => tb (wNamed X.K X.N.length Wout D l) D σ H) := by
  refine ⟨fun pins s σ H D I h => wpAny_Try_except ?_⟩
  have ok := I.ok
  have fr : X.A.frames = some (X.env :: X.outer) := by rw [ok.frames, stk]
  have caught : ∀ (u : Value) (s' : Shared), XE (X.tr (X.pn ++ pins) fun e z => wpAny (model X.prog X.w) X.A (noteFrame e X.env) (fun _ z2 => wpAny (model X.prog X.w) X.A (setFlight e none) (fun _ z3 =>
      wpAny (model X.prog X.w) X.A (handleBy e X.env (h₀ :: hds)) (SP X pins D) X.xe z3) X.xe z2) X.xe z) (wNamed X.K X.N.length Wout D l) u s' →
      wpAny (model X.prog X.w) X.A (noteFrame u X.env) (fun _ z2 => wpAny (model X.prog X.w) X.A (setFlight u none) (fun _ z3 => wpAny (model X.prog X.w) X.A (handleBy u X.env (h₀ :: hds)) (SP X pins D) X.xe z3) X.xe z2) X.xe s' := by
    rintro u s' ⟨a, B, sI, pins', σ1, H1, c, d, rfl, J0, nb, up, sky, na, os, ag, w⟩
    have J : Inv X pins σ1 H1 sI := J0.ofTry ok
    refine Sky.land Zc.steady fr frm (show Sky B (X.env :: X.outer) a (Zc c d) X.env.locals s'.heap by rw [← stk]; exact sky) fun g1 fl1 u1 => ?_
    have J1 : Inv X pins σ1 H1 { s' with heap := g1 } := J.landed nb fl1.1 (up.trans u1) os ag
    obtain ⟨o1, vs1, e1, z1, d1⟩ := fl1.there
    have nfr : a ∉ frs (X.env :: X.outer) := fun hm => by
      obtain ⟨_, o2, e2, no⟩ := fl1.2.2.1.mem hm
      rw [e1] at e2; cases e2
      exact no _ d1
    have nL : a ≠ X.env.locals := fun z => nfr (List.mem_filterMap.mpr ⟨X.env, .head _, by rw [frm, z]⟩)
    have nF : a ∉ X.fs := fun hm => by
      obtain ⟨e, he, q⟩ := List.mem_filterMap.mp hm
      exact nfr (List.mem_filterMap.mpr ⟨e, .tail _ he, q⟩)
    have S1 := J1.suite e1 d1 na nL nF
    have go : ∀ {hs : List ExceptHandler} {ls : List Clause}, ClausesOk X hs ls → wNamed X.K X.N.length Wout D ls c d σ1 H1 → wpAny (model X.prog X.w) X.A (handleBy (.ref a) X.env hs) (SP X pins D) X.xe { s' with heap := g1 } := by
      intro hs ls hk
      induction hk with
      | nil =>
        intro w
        refine wpAny_handleBy_nil ?_
        obtain ⟨_, _, _, o2, vs2, T, oT, ts2, e2, z2, d2, t1, _⟩ := id fl1
        unfold PySem.passOn
        refine wpAny_bind (wpAny_field e2 d2 t1 ?_)
        rw [if_neg (show ¬ (Value.ref T == Value.none) = true from fun z => nomatch z)]
        have last : wpAny (model X.prog X.w) X.A (setFlight (.ref a) X.env.frame) (fun _ z4 => wpAny (model X.prog X.w) X.A (throw (.ref a) : Sem Flow) (SP X pins D) X.xe z4) X.xe { s' with heap := g1 } := by
          rw [frm]
          exact HandSPX.setFlight_upZ fl1 fun g2 h2 u2 => wpAny_throw (out _ _ ⟨a, B, sI, pins, σ1, H1, c, d, rfl, J, nb, (up.trans u1).trans u2, .inr (.inr (by rw [stk]; exact h2)), na, os, ag, w⟩)
        first
          | exact wpAny_bind (wpAny_pure (wpAny_bind last))
          | exact wpAny_bind last
      | @cons x n q b₀ suite np hp hds2 l2 names hi loc run rest ih =>
        rintro ⟨b, hb1, yes, no⟩
        refine wpAny_handleBy_cons (codeAny_handlers_test ?_) (fun z => nomatch z)
        have looks : PySem.W.Looks (model X.prog X.w) g1 (typeOf (.ref a)) c := fun A Q E s k z => wpAny_typeOf_ref (k _ _ e1) (by rw [z1.1]; exact z)
        have tst : ∀ {Q : Value → Shared → Prop} {E : Value → Shared → Prop}, Q q.cls { s' with heap := g1 } → wpAny (model X.prog X.w) (X.A.mark (some (.ref a))) (eval (.Name x np) X.env) Q E { s' with heap := g1 } := fun z => by
          obtain ⟨hg, hdb, hm | ⟨hm, hv, hnn⟩⟩ := names
          · exact ld_glob (X := X.suite a ((a, o1) :: (X.pn ++ pins))) S1 hg hm z hdb
          · exact ld_blt (X := X.suite a ((a, o1) :: (X.pn ++ pins))) S1 hg hm hv z hnn hdb
        refine tst ((PySem.W.exm_one (M := model X.prog X.w) J1.kIn looks hb1).here ?_)
        cases b with
        | false =>
          show wpAny _ X.A (handleBy (.ref a) X.env hds2) _ _ _
          exact ih (no rfl)
        | true =>
          refine codeAny_handlers_suite_as (HandSPX.lands_againZ fl1 fun g2 fl2 u2 => ?_)
          have J2 : Inv X pins σ1 H1 { s' with heap := g2 } := J.landed nb fl2.1 ((up.trans u1).trans u2) os ag
          obtain ⟨o2, vs2, e2, z2, d2⟩ := fl2.there
          refine store_ok (X := X.suite a ((a, o2) :: (X.pn ++ pins))) (v := .ref a) (J2.suite e2 d2 na nL nF) nd hi (show Loc X.env.scope n from .inl loc) rfl (fun s5 S5 => ?_) (.inr loc)
          refine wpAny_mono ((run a o2 c d (X.pn ++ pins) z2 ⟨_, d2⟩).run [] s5 _ H1 _ S5 (yes rfl J2.len a na)) (fun f s6 r6 => ?_) (fun _ _ z => False.elim z)
          have fin : ∀ {σ6 : L2.St} {H6 : Hp} {R : Shared → Prop}, Inv (X.suite a ((a, o2) :: (X.pn ++ pins))) [] σ6 H6 s6 → (∀ s7, Inv X pins (σ6.set q.slot none) H6 s7 → R s7) →
              wpAny (model X.prog X.w) X.A (do bindName X.env n .none; unbindBehindTheSuite X.env n hp) (fun _ s7 => R s7) X.xe s6 := fun S6 r => gone_ok (S6.unsuite ok) nd hi loc r
          cases f with
          | next => obtain ⟨σ6, H6, S6, q6⟩ := r6; exact fin S6 fun s7 J7 => ⟨_, _, J7, q6⟩
          | brk => obtain ⟨σ6, H6, S6, q6⟩ := r6; exact fin S6 fun s7 J7 => ⟨_, _, J7, q6⟩
          | cont => obtain ⟨σ6, H6, S6, q6⟩ := r6; exact fin S6 fun s7 J7 => ⟨_, _, J7, q6⟩
          | ret u => obtain ⟨v6, σ6, H6, S6, v7, q6⟩ := r6; exact fin S6 fun s7 J7 => ⟨_, _, _, J7, v7, q6⟩
    exact go hh w
  refine wpAny_mono ((hb (wNamed X.K X.N.length Wout D l) (X.pn ++ pins) _ (fun u s' xx => caught u s' xx) PassesOwn.looking).run [] s σ H D (I.toTry _) h) (fun f s1 r => ?_) (fun e s1 z => z)
  cases f with
  | next => obtain ⟨σ', H', J', q⟩ := r; exact wpAny_execs_nil ⟨σ', H', J'.ofTry ok, q⟩
  | brk => obtain ⟨σ', H', J', q⟩ := r; exact ⟨σ', H', J'.ofTry ok, q⟩
  | cont => obtain ⟨σ', H', J', q⟩ := r; exact ⟨σ', H', J'.ofTry ok, q⟩
  | ret u => obtain ⟨v, σ', H', J', rv, q⟩ := r; exact ⟨v, σ', H', J'.ofTry ok, rv, q⟩
end
/-- code that is never come to -/
theorem pss_never {X : Cx} {sts : List Stmt} : PSs X sts (fun _ _ _ => False) := ⟨fun _ _ _ _ _ _ h => h.elim⟩
theorem ps_never {X : Cx} {st : Stmt} : PS X st (fun _ _ _ => False) := ⟨fun _ _ _ _ _ _ h => h.elim⟩
theorem pe_never {X : Cx} {e : Expr} : PE X e (fun _ _ _ => False) := ⟨fun _ _ _ _ _ _ h => h.elim⟩
end Ag

set_option Elab.async false
set_option linter.all false
set_option maxRecDepth 100000
set_option maxHeartbeats 1000000
/-! The pen: a dict of five written keys; what a draw leaves. -/
namespace Ag
open PySem PySem.Spec PyProof.Rows L2

abbrev ck (s : Str) : Key := Sum.inr s
def penKV (c : Addr) (at_ dig cnt fold : Int) : List (Key × V) :=
  [(ck "cells", .ref c), (ck "at", .int at_), (ck "digits", .int dig), (ck "count", .int cnt), (ck "fold", .int fold)]
theorem kn1 : ¬ ck "cells" = ck "at" := by decide +kernel
theorem kn2 : ¬ ck "cells" = ck "digits" := by decide +kernel
theorem kn3 : ¬ ck "cells" = ck "count" := by decide +kernel
theorem kn4 : ¬ ck "cells" = ck "fold" := by decide +kernel
theorem kn5 : ¬ ck "at" = ck "digits" := by decide +kernel
theorem kn6 : ¬ ck "at" = ck "count" := by decide +kernel
theorem kn7 : ¬ ck "at" = ck "fold" := by decide +kernel
theorem kn8 : ¬ ck "digits" = ck "count" := by decide +kernel
theorem kn9 : ¬ ck "digits" = ck "fold" := by decide +kernel
theorem kn0 : ¬ ck "count" = ck "fold" := by decide +kernel
theorem sn_cells_at : ¬ Str.ofString "cells" = Str.ofString "at" := by decide +kernel
theorem sn_cells_digits : ¬ Str.ofString "cells" = Str.ofString "digits" := by decide +kernel
theorem sn_cells_count : ¬ Str.ofString "cells" = Str.ofString "count" := by decide +kernel
theorem sn_cells_fold : ¬ Str.ofString "cells" = Str.ofString "fold" := by decide +kernel
theorem sn_at_cells : ¬ Str.ofString "at" = Str.ofString "cells" := by decide +kernel
theorem sn_at_digits : ¬ Str.ofString "at" = Str.ofString "digits" := by decide +kernel
theorem sn_at_count : ¬ Str.ofString "at" = Str.ofString "count" := by decide +kernel
theorem sn_at_fold : ¬ Str.ofString "at" = Str.ofString "fold" := by decide +kernel
theorem sn_digits_cells : ¬ Str.ofString "digits" = Str.ofString "cells" := by decide +kernel
theorem sn_digits_at : ¬ Str.ofString "digits" = Str.ofString "at" := by decide +kernel
theorem sn_digits_count : ¬ Str.ofString "digits" = Str.ofString "count" := by decide +kernel
theorem sn_digits_fold : ¬ Str.ofString "digits" = Str.ofString "fold" := by decide +kernel
theorem sn_count_cells : ¬ Str.ofString "count" = Str.ofString "cells" := by decide +kernel
theorem sn_count_at : ¬ Str.ofString "count" = Str.ofString "at" := by decide +kernel
theorem sn_count_digits : ¬ Str.ofString "count" = Str.ofString "digits" := by decide +kernel
theorem sn_count_fold : ¬ Str.ofString "count" = Str.ofString "fold" := by decide +kernel
theorem sn_fold_cells : ¬ Str.ofString "fold" = Str.ofString "cells" := by decide +kernel
theorem sn_fold_at : ¬ Str.ofString "fold" = Str.ofString "at" := by decide +kernel
theorem sn_fold_digits : ¬ Str.ofString "fold" = Str.ofString "digits" := by decide +kernel
theorem sn_fold_count : ¬ Str.ofString "fold" = Str.ofString "count" := by decide +kernel
section
variable {c : Addr} {a d n f x : Int}
theorem pen_cells : valV (penKV c a d n f) (ck "cells") = some (.ref c) := valV_pos rfl
theorem pen_at : valV (penKV c a d n f) (ck "at") = some (.int a) := by unfold penKV; rw [valV_neg kn1]; exact valV_pos rfl
theorem pen_dig : valV (penKV c a d n f) (ck "digits") = some (.int d) := by unfold penKV; rw [valV_neg kn2, valV_neg kn5]; exact valV_pos rfl
theorem pen_cnt : valV (penKV c a d n f) (ck "count") = some (.int n) := by unfold penKV; rw [valV_neg kn3, valV_neg kn6, valV_neg kn8]; exact valV_pos rfl
theorem pen_fold : valV (penKV c a d n f) (ck "fold") = some (.int f) := by unfold penKV; rw [valV_neg kn4, valV_neg kn7, valV_neg kn9, valV_neg kn0]; exact valV_pos rfl
theorem put_at : putK (penKV c a d n f) (ck "at") (.int x) = penKV c x d n f := by
  unfold putK; rw [valV_any, pen_at]
  simp [penKV, ck, sn_cells_at, sn_cells_digits, sn_cells_count, sn_cells_fold, sn_at_cells, sn_at_digits, sn_at_count, sn_at_fold, sn_digits_cells, sn_digits_at, sn_digits_count, sn_digits_fold, sn_count_cells, sn_count_at, sn_count_digits, sn_count_fold, sn_fold_cells, sn_fold_at, sn_fold_digits, sn_fold_count]
theorem put_dig : putK (penKV c a d n f) (ck "digits") (.int x) = penKV c a x n f := by
  unfold putK; rw [valV_any, pen_dig]
  simp [penKV, ck, sn_cells_at, sn_cells_digits, sn_cells_count, sn_cells_fold, sn_at_cells, sn_at_digits, sn_at_count, sn_at_fold, sn_digits_cells, sn_digits_at, sn_digits_count, sn_digits_fold, sn_count_cells, sn_count_at, sn_count_digits, sn_count_fold, sn_fold_cells, sn_fold_at, sn_fold_digits, sn_fold_count]
theorem put_cnt : putK (penKV c a d n f) (ck "count") (.int x) = penKV c a d x f := by
  unfold putK; rw [valV_any, pen_cnt]
  simp [penKV, ck, sn_cells_at, sn_cells_digits, sn_cells_count, sn_cells_fold, sn_at_cells, sn_at_digits, sn_at_count, sn_at_fold, sn_digits_cells, sn_digits_at, sn_digits_count, sn_digits_fold, sn_count_cells, sn_count_at, sn_count_digits, sn_count_fold, sn_fold_cells, sn_fold_at, sn_fold_digits, sn_fold_count]
theorem put_fold : putK (penKV c a d n f) (ck "fold") (.int x) = penKV c a d n x := by
  unfold putK; rw [valV_any, pen_fold]
  simp [penKV, ck, sn_cells_at, sn_cells_digits, sn_cells_count, sn_cells_fold, sn_at_cells, sn_at_digits, sn_at_count, sn_at_fold, sn_digits_cells, sn_digits_at, sn_digits_count, sn_digits_fold, sn_count_cells, sn_count_at, sn_count_digits, sn_count_fold, sn_fold_cells, sn_fold_at, sn_fold_digits, sn_fold_count]
end
/-- the pen at p, its cells at c; n bounds how often it has been drawn -/
def Pen (p c : Addr) (n : Nat) (H : Hp) : Prop :=
  ∃ (cells : List Int) (a d k f : Int), H p = some (.dK (penKV c a d k f)) ∧ Rd H c (.lst (cells.map V.int)) ∧ 0 ≤ a ∧ 0 ≤ d ∧ 0 ≤ k ∧ k ≤ n ∧ 0 ≤ f ∧ f < 2147483648
/-- all but the pen is kept -/
def But (p : Addr) (H H' : Hp) : Prop := ∀ a o, a ≠ p → H a = some o → H' a = some o
theorem But.refl (p : Addr) (H : Hp) : But p H H := fun _ _ _ h => h
theorem But.trans {p : Addr} {H H1 H2 : Hp} (a : But p H H1) (b : But p H1 H2) : But p H H2 := fun x o n h => b x o n (a x o n h)
theorem But.of {p : Addr} {H H1 : Hp} (a : Same H H1) : But p H H1 := fun x o _ h => a x o h
theorem But.free {p a : Addr} {H H1 : Hp} (b : But p H H1) (h : H1 a = none) (n : a ≠ p) : H a = none := by
  cases q : H a with
  | none => rfl
  | some o => rw [b a o n q] at h; cases h
section
variable {K : PySem.W.Frag} {p c : Addr} {n : Nat} {H H' : Hp}
theorem Pen.ne {a : Addr} {o : HO} (h : Pen p c n H) (e : H a = some o) (no : ∀ kvs, o ≠ .dK kvs) : a ≠ p := by
  obtain ⟨cells, a', d, k, f, hp, _⟩ := h
  exact ne_of e hp (no _)
theorem Pen.rd {a : Addr} {u : HO} (h : Pen p c n H) (b : But p H H') (r : Rd H a u) (no : ∀ kvs, u ≠ .dK kvs) : Rd H' a u := by
  rcases r with r | ⟨o, r⟩
  · exact .inl (b _ _ (h.ne r no) r)
  · exact .inr ⟨o, b _ _ (h.ne r (fun _ z => nomatch z)) r⟩
theorem Pen.sl {a : Addr} {xs : List V} (h : Pen p c n H) (b : But p H H') (r : SqL K H a xs) : SqL K H' a xs := r.imp (fun z => h.rd b z (fun _ z => nomatch z)) id
theorem Pen.st {a : Addr} {xs : List V} (h : Pen p c n H) (b : But p H H') (r : SqT K H a xs) : SqT K H' a xs := r.imp (fun z => h.rd b z (fun _ z => nomatch z)) id
mutual
theorem Pen.dp (h : Pen p c n H) (b : But p H H') : ∀ {v : V} {d : PyData}, Dp K H v d → Dp K H' v d
  | _, _, .non => .non
  | _, _, .bl b => .bl b
  | _, _, .int i => .int i
  | _, _, .str x => .str x
  | _, _, .lst q r => .lst (h.sl b q) (Pen.dps h b r)
  | _, _, .tup q r => .tup (h.st b q) (Pen.dps h b r)
theorem Pen.dps (h : Pen p c n H) (b : But p H H') : ∀ {vs : List V} {ds : List PyData}, DpAll K H vs ds → DpAll K H' vs ds
  | _, _, .nil => .nil
  | _, _, .cons q r => .cons (Pen.dp h b q) (Pen.dps h b r)
end
theorem Pen.same (h : Pen p c n H) (s : Same H H') : Pen p c n H' := by
  obtain ⟨cells, a, d, k, f, hp, hc, r⟩ := h
  exact ⟨cells, a, d, k, f, s _ _ hp, s.rdA hc, r⟩
theorem Pen.more {m : Nat} (h : Pen p c n H) (l : n ≤ m) : Pen p c m H := by
  obtain ⟨cells, a, d, k, f, hp, hc, h1, h2, h3, h4, r⟩ := h
  exact ⟨cells, a, d, k, f, hp, hc, h1, h2, h3, Int.le_trans h4 (by omega), r⟩
theorem Pen.some_p (h : Pen p c n H) : ∃ o, H p = some o := by
  obtain ⟨cells, a, d, k, f, hp, _⟩ := h; exact ⟨_, hp⟩
theorem Pen.some_c (h : Pen p c n H) : ∃ o, H c = some o := by
  obtain ⟨cells, a, d, k, f, hp, hc, _⟩ := h
  rcases hc with hc | ⟨o, hc⟩ <;> exact ⟨_, hc⟩
/-- an own object is changed or made: the pen stands -/
theorem Pen.upd {l : Addr} {o : HO} (h : Pen p c n H) (h1 : l ≠ p) (h2 : l ≠ c) : Pen p c n (L2.upd H l o) := by
  obtain ⟨cells, a, d, k, f, hp, hc, r⟩ := h
  refine ⟨cells, a, d, k, f, by rw [upd_ne (Ne.symm h1)]; exact hp, ?_, r⟩
  rcases hc with hc | ⟨o, hc⟩
  · exact .inl (by rw [upd_ne (Ne.symm h2)]; exact hc)
  · exact .inr ⟨o, by rw [upd_ne (Ne.symm h2)]; exact hc⟩
theorem Pen.ne_p {l : Addr} (h : Pen p c n H) (hl : H l = none) : l ≠ p := by
  obtain ⟨o, e⟩ := h.some_p
  exact Ne.symm (ne_of_none e hl)
theorem Pen.ne_c {l : Addr} (h : Pen p c n H) (hl : H l = none) : l ≠ c := by
  obtain ⟨o, e⟩ := h.some_c
  exact Ne.symm (ne_of_none e hl)
end

section
variable {H : Hp} {p c : Addr} {a d n f x : Int}
theorem pg_cells (h : H p = some (.dK (penKV c a d n f))) : DGet H p (.str "cells") (some (.ref c)) := by
  have q := DGet.k (k := ck "cells") h
  rw [pen_cells] at q; exact q
theorem pg_at (h : H p = some (.dK (penKV c a d n f))) : DGet H p (.str "at") (some (.int a)) := by
  have q := DGet.k (k := ck "at") h
  rw [pen_at] at q; exact q
theorem pg_dig (h : H p = some (.dK (penKV c a d n f))) : DGet H p (.str "digits") (some (.int d)) := by
  have q := DGet.k (k := ck "digits") h
  rw [pen_dig] at q; exact q
theorem pg_cnt (h : H p = some (.dK (penKV c a d n f))) : DGet H p (.str "count") (some (.int n)) := by
  have q := DGet.k (k := ck "count") h
  rw [pen_cnt] at q; exact q
theorem pg_fold (h : H p = some (.dK (penKV c a d n f))) : DGet H p (.str "fold") (some (.int f)) := by
  have q := DGet.k (k := ck "fold") h
  rw [pen_fold] at q; exact q
theorem pp_at (h : H p = some (.dK (penKV c a d n f))) : DPut H p (.str "at") (.int x) (upd H p (.dK (penKV c x d n f))) := by
  have q := DPut.k (k := ck "at") (v := .int x) h (by show 5 < sizeLine; decide)
  rw [put_at] at q; exact q
theorem pp_dig (h : H p = some (.dK (penKV c a d n f))) : DPut H p (.str "digits") (.int x) (upd H p (.dK (penKV c a x n f))) := by
  have q := DPut.k (k := ck "digits") (v := .int x) h (by show 5 < sizeLine; decide)
  rw [put_dig] at q; exact q
theorem pp_cnt (h : H p = some (.dK (penKV c a d n f))) : DPut H p (.str "count") (.int x) (upd H p (.dK (penKV c a d x f))) := by
  have q := DPut.k (k := ck "count") (v := .int x) h (by show 5 < sizeLine; decide)
  rw [put_cnt] at q; exact q
theorem pp_fold (h : H p = some (.dK (penKV c a d n f))) : DPut H p (.str "fold") (.int x) (upd H p (.dK (penKV c a d n x))) := by
  have q := DPut.k (k := ck "fold") (v := .int x) h (by show 5 < sizeLine; decide)
  rw [put_fold] at q; exact q
end
/-- the promise of a draw -/
def spDraw : Sp := fun vs H Q _ => ∃ (p c : Addr) (many : Int) (n : Nat), vs = [.ref p, .int many] ∧ Pen p c n H ∧ 0 < many ∧ many < 1000000 ∧ n < 1000000000000 ∧
  ∀ (d : Int) H', 0 ≤ d → d < many → But p H H' → Pen p c (n + 1) H' → Q (.int d) H'
end Ag

set_option Elab.async false
set_option linter.all false
set_option maxRecDepth 100000
set_option maxHeartbeats 1000000
/-! Comprehensions over data, statements over data. -/
namespace Ag
open PySem PySem.Spec PyProof.Rows L2
/-- a walk that hands out the data ds, as long as what stood at H stands -/
structure Wk (K : PySem.W.Frag) (F : Addr → Prop) (H : Hp) (J : It) (ds : List PyData) : Prop where
  go : ∀ i H', SameF F H H' → i < ds.length → J.go i H'
  stop : ∀ H', SameF F H H' → J.stop ds.length H'
  yld : ∀ i H' x H'', i < ds.length → SameF F H H' → J.yld i H' x H'' → ∃ d, ds[i]? = some d ∧ Same H' H'' ∧ Df K (fun a => F a ∧ H a ≠ none) H'' x d
def EI (K : PySem.W.Frag) (wi : TI) (σ : L2.St) (F : Addr → Prop) (H : Hp) (ds : List PyData) : Prop := ∀ H1, Same H H1 → ∀ R : It → Hp → Prop, (∀ J H2, Same H1 H2 → Wk K (Fr F H1) H2 J ds → R J H2) → wi σ H1 R
section
variable {K : PySem.W.Frag} {σ : L2.St} {F : Addr → Prop} {H : Hp} {te tl : TE} {ds : List PyData}
theorem slF {a : Addr} {xs : List V} {H' : Hp} (s : SameF F H H') (h : (Rd H a (.lst xs) ∧ F a) ∨ KL K a xs) : SqL K H' a xs := h.imp (fun z => rd_lstF s z.1 z.2) id
theorem wk_list {a : Addr} {xs : List V} (h : (Rd H a (.lst xs) ∧ F a) ∨ KL K a xs) (r : DfAll K F H xs ds) : Wk K F H (Itl K a) ds where
  go := fun i H' s hi => by
    obtain ⟨d, e⟩ : ∃ d, ds[i]? = some d := ⟨_, List.getElem?_eq_getElem hi⟩
    obtain ⟨v, q, _⟩ := dfs_get r e
    exact ⟨xs, v, slF s h, q⟩
  stop := fun H' s => ⟨xs, slF s h, by rw [dfs_len r]; exact Nat.le_refl _⟩
  yld := fun i H' x H'' _ s y => by
    obtain ⟨rfl, y⟩ := y
    obtain ⟨d, e, hd⟩ := dfs_get' (dfs_monoF (s.sub fun _ z => z.1) (dfs_in r)) (y xs (slF s h))
    exact ⟨d, e, Same.refl _, hd⟩
theorem wk_tup {a : Addr} {xs : List V} (h : SqT K H a xs) (r : DfAll K F H xs ds) : Wk K F H (Itt K a) ds where
  go := fun i H' s hi => by
    obtain ⟨d, e⟩ : ∃ d, ds[i]? = some d := ⟨_, List.getElem?_eq_getElem hi⟩
    obtain ⟨v, q, _⟩ := dfs_get r e
    exact ⟨xs, v, sqt_F s h, q⟩
  stop := fun H' s => ⟨xs, sqt_F s h, by rw [dfs_len r]; exact Nat.le_refl _⟩
  yld := fun i H' x H'' _ s y => by
    obtain ⟨rfl, y⟩ := y
    obtain ⟨d, e, hd⟩ := dfs_get' (dfs_monoF (s.sub fun _ z => z.1) (dfs_in r)) (y xs (sqt_F s h))
    exact ⟨d, e, Same.refl _, hd⟩
theorem ei_list (h : ED K tl σ F H (.list ds)) : EI K (iList K tl) σ F H ds := fun H1 s R q => h H1 s _ fun v H2 s2 hv => by
  cases hv with
  | lst hs r => exact ⟨_, rfl, ⟨_, hs.imp (fun z => z.1) id⟩, q _ H2 s2 (wk_list hs r)⟩
theorem ei_tup (h : ED K tl σ F H (.tuple ds)) : EI K (iTup K tl) σ F H ds := fun H1 s R q => h H1 s _ fun v H2 s2 hv => by
  cases hv with
  | tup hs r => exact ⟨_, rfl, ⟨_, hs⟩, q _ H2 s2 (wk_tup hs r)⟩
def signs (x : Str) : List PyData := x.cps.toList.map fun c => .str ⟨#[c]⟩
theorem ei_str {x : Str} (h : ED K te σ F H (.str x)) : EI K (iStr te) σ F H (signs x) := fun H1 s R q => h H1 s _ fun v H2 s2 hv => by
  cases hv
  refine ⟨x, rfl, q _ H2 s2 ⟨fun i H' _ hi => ?_, fun H' _ => ?_, fun i H' y H'' _ _ z => ?_⟩⟩
  · show i < x.cps.size
    rw [← Array.length_toList]; unfold signs at hi; rw [List.length_map] at hi; exact hi
  · show x.cps.size ≤ (signs x).length
    unfold signs; rw [List.length_map, Array.length_toList]; exact Nat.le_refl _
  · obtain ⟨rfl, c, e, rfl⟩ := z
    refine ⟨.str ⟨#[c]⟩, ?_, Same.refl _, .str _⟩
    unfold signs
    rw [List.getElem?_map, Array.getElem?_toList, e]; rfl
/-- the numbers below n -/
def nums (n : Nat) : List PyData := (List.range n).map fun i => .int (i : Nat)
theorem ei_range {n : Nat} (h : ED K te σ F H (.int (n : Nat))) (hn : n ≤ 100000) : EI K (iRng1 (tCons te tNil)) σ F H (nums n) := fun H1 s R q => h H1 s _ fun v H2 s2 hv => by
  cases hv
  refine ⟨_, rfl, by omega, by omega, q _ H2 s2 ⟨fun i H' _ hi => ?_, fun H' _ => ?_, fun i H' y H'' hi _ z => ?_⟩⟩
  · show i < ((n : Int)).toNat
    unfold nums at hi; rw [List.length_map, List.length_range] at hi; omega
  · show ((n : Int)).toNat ≤ (nums n).length
    unfold nums; rw [List.length_map, List.length_range]; omega
  · obtain ⟨rfl, rfl⟩ := z
    unfold nums at hi; rw [List.length_map, List.length_range] at hi
    refine ⟨.int (i : Nat), ?_, Same.refl _, by rw [Int.zero_add]; exact .int _⟩
    unfold nums; rw [List.getElem?_map, List.getElem?_range hi]; rfl
def zipD (xs ys : List PyData) : List PyData := List.zipWith (fun a b => .tuple [a, b]) xs ys
theorem ei_zip {ta : TA} {xs ys : List PyData} (h : EA K ta σ F H [.tuple xs, .tuple ys]) : EI K (RZ.iZipA K ta) σ F H (zipD xs ys) := fun H1 s R q => h H1 s _ fun vs H2 s2 hv => by
  cases hv with
  | cons a r =>
    cases r with
    | cons b r =>
      cases r
      cases a with
      | tup ha ra =>
        cases b with
        | tup hb rb =>
          refine ⟨_, _, _, _, rfl, .inr ⟨ha, hb, q _ H2 s2 ⟨fun i H' s3 hi => ?_, fun H' s3 => ?_, fun i H' y H'' _ s3 z => ?_⟩⟩⟩
          · have hi' : i < xs.length ∧ i < ys.length := by
              unfold zipD at hi; rw [List.length_zipWith] at hi; omega
            obtain ⟨v, e, _⟩ := dfs_get ra (List.getElem?_eq_getElem hi'.1)
            obtain ⟨v2, e2, _⟩ := dfs_get rb (List.getElem?_eq_getElem hi'.2)
            exact ⟨_, _, v, v2, sqt_F s3 ha, sqt_F s3 hb, e, e2⟩
          · refine ⟨_, _, sqt_F s3 ha, sqt_F s3 hb, ?_⟩
            unfold zipD; rw [List.length_zipWith, dfs_len ra, dfs_len rb]; omega
          · obtain ⟨T, x, x2, rfl, hT, rfl, e1, e2⟩ := z
            obtain ⟨d, q1, hd⟩ := dfs_get' (dfs_in ra) (e1 _ (sqt_F s3 ha))
            obtain ⟨d2, q2, hd2⟩ := dfs_get' (dfs_in rb) (e2 _ (sqt_F s3 hb))
            refine ⟨.tuple [d, d2], ?_, Same.newA hT, .tup (.of upd_same) (.cons (df_mono (Same.newA hT) (fun _ z => z) (df_monoF (s3.sub fun _ z => z.1) hd)) (.cons (df_mono (Same.newA hT) (fun _ z => z) (df_monoF (s3.sub fun _ z => z.1) hd2)) .nil))⟩
            unfold zipD; rw [List.getElem?_zipWith, q1, q2]
/-- a comprehension over data: the list made -/
theorem lc_run {wi : TI} {g : TG} {tt : TT} {vs : List Nat} {f : PyData → Bool} {m : PyData → PyData} (hi : EI K wi σ F H ds) (hl : ds.length ≤ 50000)
    (ht : ∀ F2 H1, Ext F H F2 H1 → ∀ v d, d ∈ ds → Df K F2 H1 v d → ∃ σ2, (∀ Q : L2.St → Hp → Prop, Q σ2 H1 → g v (wipe σ vs) H1 Q) ∧ wipe σ2 vs = wipe σ vs ∧ ET tt σ2 H1 (f d) ∧ (f d = true → ED K te σ2 F2 H1 (m d))) :
    ∀ H1, Same H H1 → ∀ Q : VK, (∀ D ys H', Same H1 H' → H1 D = none → H' D = some (.lst ys) → DfAll K (fun a => Fr F H1 a ∧ a ≠ D) H' ys ((ds.filter f).map m) → Q (.ref D) H') → tLc wi g tt te vs σ H1 Q := fun H1 s Q q => hi H1 s _ fun J H2 s2 W D hD => by
  have out : ∀ i, i ≤ ds.length → (((ds.take i).filter f).map m).length < 100000 := fun i hi => by
    rw [List.length_map]
    have := List.length_filter_le f (ds.take i)
    rw [List.length_take] at this
    omega
  have hD1 : H1 D = none := s2.freshA hD
  -- what items may be: lists not at D
  let F2 : Addr → Prop := fun a => Fr F H1 a ∧ a ≠ D
  have nF : ¬ F2 D := fun z => z.2 rfl
  refine ⟨fun i k H' => k = ds.length - i ∧ i ≤ ds.length ∧ Same H2 H' ∧ ∃ ys, H' D = some (.lst ys) ∧ DfAll K F2 H' ys (((ds.take i).filter f).map m), ⟨ds.length, by simp, Nat.zero_le _, Same.newA hD, [], upd_same, by simp; exact .nil⟩, ?_⟩
  rintro i k H' ⟨rfl, hi, s3, ys, e, r⟩
  by_cases lt : i < ds.length
  · refine .inr ⟨W.go i H' s3.F lt, fun H5 => Same H2 H5 ∧ ∃ ys, H5 D = some (.lst ys) ∧ DfAll K F2 H5 ys (((ds.take (i + 1)).filter f).map m), fun H5 ⟨a, b⟩ => ⟨ds.length - (i + 1), by omega, rfl, lt, a, b⟩, fun x H3 y => ?_⟩
    obtain ⟨d, hd, s4, hx⟩ := W.yld i H' x H3 lt s3.F y
    have hx2 : Df K F2 H3 x d := df_mono (Same.refl _) (fun a z => ⟨z.1, fun q => z.2 (q ▸ hD)⟩) hx
    obtain ⟨σ2, hg, hw, htt, hte⟩ := ht F2 H3 ⟨(((s.trans s2).trans s3).trans s4).F, fun a z n => ⟨.inl z, fun q => n (s.freshA (q ▸ hD1))⟩⟩ x d (List.mem_of_getElem? hd) hx2
    have tk : ds.take (i + 1) = ds.take i ++ [d] := by rw [List.take_succ, hd]; rfl
    refine hg _ ⟨hw, htt H3 (Same.refl _) _ fun H4 s5 => ?_⟩
    cases hf : f d with
    | true =>
      refine hte hf H4 s5 _ fun v H5 s6 hv => ?_
      have e4 : H4 D = some (.lst ys) := s5 _ _ (s4 _ _ e)
      have e5 : H5 D = some (.lst ys) := s6 _ _ e4
      have s45 := (s4.trans s5).trans s6
      have r5 : DfAll K F2 H5 ys (((ds.take i).filter f).map m) := dfs_mono s45 (fun _ z => z) r
      have v5 : Df K F2 H5 v (m d) := df_mono (Same.refl _) (fun a z => by
        rcases z with z | z
        · exact z
        · exact ⟨.inr (s2.freshA (s3.freshA ((s4.trans s5).freshA z))), fun q => by rw [q, e4] at z; cases z⟩) hv
      refine ⟨ys, e5, lt5 (by rw [dfs_len r5]; exact out i hi), fun a u h => ?_, ys ++ [v], upd_same, ?_⟩
      · rw [upd_ne (ne_of_none h hD)]; exact s45 _ _ (s3 _ _ h)
      · rw [tk, List.filter_append, List.map_append]
        have e1 : ([d].filter f).map m = [m d] := by simp [hf]
        rw [e1]
        exact dfs_app (dfs_upd e5 nF r5) (.cons (df_upd e5 nF v5) .nil)
    | false =>
      refine ⟨fun a u h => s5 _ _ (s4 _ _ (s3 _ _ h)), ys, s5 _ _ (s4 _ _ e), ?_⟩
      rw [tk, List.filter_append, List.map_append]
      have e1 : ([d].filter f).map m = [] := by simp [hf]
      rw [e1, List.append_nil]
      exact dfs_mono (s4.trans s5) (fun _ z => z) r
  · have : i = ds.length := by omega
    subst this
    refine .inl ⟨W.stop H' s3.F, q D ys H' (s2.trans s3) hD1 e ?_⟩
    rw [List.take_length] at r; exact r
/-- a comprehension over data -/
theorem ed_lc {wi : TI} {g : TG} {tt : TT} {vs : List Nat} {f : PyData → Bool} {m : PyData → PyData} (hi : EI K wi σ F H ds) (hl : ds.length ≤ 50000)
    (ht : ∀ F2 H1, Ext F H F2 H1 → ∀ v d, d ∈ ds → Df K F2 H1 v d → ∃ σ2, (∀ Q : L2.St → Hp → Prop, Q σ2 H1 → g v (wipe σ vs) H1 Q) ∧ wipe σ2 vs = wipe σ vs ∧ ET tt σ2 H1 (f d) ∧ (f d = true → ED K te σ2 F2 H1 (m d))) :
    ED K (tLc wi g tt te vs) σ F H (.list ((ds.filter f).map m)) := fun H1 s Q q => lc_run hi hl ht H1 s Q fun D ys H' s2 n e r => q _ _ s2 (.lst (.inl ⟨.inl e, .inr n⟩) (dfs_mono (Same.refl _) (fun _ z => z.1) r))
theorem et_yes : ET tYes σ H true := fun H1 _ _ q => q H1 (Same.refl _)
end
/-! ### statements over data -/
section
variable {K : PySem.W.Frag} {σ : L2.St} {F : Addr → Prop} {H : Hp} {te ta tb : TE} {t : TT} {d e : PyData} {D : Ends} {tu tw : TS}
theorem s_ret (h : ED K te σ F H d) (k : ∀ v H1, Same H H1 → Df K (Fr F H) H1 v d → D.rt v H1) : tRet te D σ H := h H (Same.refl _) _ k
theorem s_set {i : Nat} (h : ED K te σ F H d) (k : ∀ v H1, Same H H1 → Df K (Fr F H) H1 v d → D.nx (σ.set i (some v)) H1) : tAsg te (gName i) D σ H := h H (Same.refl _) _ k
theorem s_if {b : Bool} (h : ET t σ H b) (h1 : b = true → ∀ H1, Same H H1 → tu D σ H1) (h2 : b = false → ∀ H1, Same H H1 → tw D σ H1) : tIfS t tu tw D σ H := h H (Same.refl _) _ fun H1 s => by
  cases b with
  | true => exact h1 rfl H1 s
  | false => exact h2 rfl H1 s
theorem ed_notInS {c : Nat} {z : Str} (ha : ED K ta σ F H (.str ⟨#[c]⟩)) (hb : ED K tb σ F H (.str z)) :
    ED K (tOp (fun x y H Q => ∃ (c : Nat) (z : Str), x = .str ⟨#[c]⟩ ∧ y = .str z ∧ Q (.bl (!decide (c ∈ z.cps.toList))) H) ta tb) σ F H (.bool (!decide (c ∈ z.cps.toList))) :=
  ed_op ha hb fun F a b H1 hx hy Q q => by
    cases hx; cases hy; exact ⟨c, z, rfl, rfl, q _ _ (Same.refl _) (.bl _)⟩
theorem ed_inS {c : Nat} {z : Str} (ha : ED K ta σ F H (.str ⟨#[c]⟩)) (hb : ED K tb σ F H (.str z)) :
    ED K (tOp (fun x y H Q => ∃ (c : Nat) (z : Str), x = .str ⟨#[c]⟩ ∧ y = .str z ∧ Q (.bl (decide (c ∈ z.cps.toList))) H) ta tb) σ F H (.bool (decide (c ∈ z.cps.toList))) :=
  ed_op ha hb fun F a b H1 hx hy Q q => by
    cases hx; cases hy; exact ⟨c, z, rfl, rfl, q _ _ (Same.refl _) (.bl _)⟩
end
end Ag

set_option Elab.async false
set_option linter.all false
set_option maxRecDepth 100000
set_option maxHeartbeats 1000000
/-! More rules over data: x is True, in of texts, slices and sums of tuples, list.extend of a tuple. -/
namespace Ag
open PySem PySem.Spec PyProof.Rows L2
/-- a value of data -/
def isDat : V → Bool | .non | .bl _ | .int _ | .str _ | .ref _ => true | _ => false
def rIsX (neg : Bool) : R2 := fun x y H Q => ∃ b, y = .bl b ∧ isDat x = true ∧ Q (.bl (if neg then !decide (x = .bl b) else decide (x = .bl b))) H
theorem is_dat {v : Value} {x : V} {b : Bool} (r : RelV x v) (h : isDat x = true) : plainIs v (.bool b) = true ∧ (v == Value.bool b) = decide (x = .bl b) := by
  cases x with
  | non => cases r; exact ⟨rfl, by rw [decide_eq_false (fun z => nomatch z)]; rfl⟩
  | bl c => cases r; exact ⟨rfl, by cases c <;> cases b <;> decide⟩
  | int i => obtain ⟨t, rfl⟩ := r; exact ⟨rfl, by rw [decide_eq_false (fun z => nomatch z)]; rfl⟩
  | str i => obtain ⟨t, rfl⟩ := r; exact ⟨rfl, by rw [decide_eq_false (fun z => nomatch z)]; rfl⟩
  | ref a => cases r; exact ⟨rfl, by rw [decide_eq_false (fun z => nomatch z)]; rfl⟩
  | _ => cases h
theorem op_isB {X : Cx} : OpR X (compareOp .Is) (rIsX false) := by
  intro pins s σ H x y v u Q I rx ry h
  obtain ⟨b, rfl, hd, q⟩ := h
  cases (show u = Value.bool b from ry)
  obtain ⟨h1, h2⟩ := is_dat (b := b) rx hd
  exact wpAny_is_plain h1 ⟨.bl _, H, I, rfl, by rw [h2]; exact q⟩
theorem op_isnotB {X : Cx} : OpR X (compareOp .IsNot) (rIsX true) := by
  intro pins s σ H x y v u Q I rx ry h
  obtain ⟨b, rfl, hd, q⟩ := h
  cases (show u = Value.bool b from ry)
  obtain ⟨h1, h2⟩ := is_dat (b := b) rx hd
  exact wpAny_isNot_plain h1 ⟨.bl _, H, I, rfl, by rw [h2]; exact q⟩
end Ag
namespace PySem.AutoSeq1
open PySem PySem.Spec PyProof.Rows
set_option maxRecDepth 8000 in
theorem list_extend_tup (l : Addr) (items : Array Value) (n : Nat) (b : Addr) (items2 : Array Value) (n2 : Nat) (dd : Option Addr) (sl : Array (Option Value)) (hs0 : ¬(!items.isEmpty && Builtin.List.listTooLong (items.size + items2.size)) = true) (hs1 : items.size ≤ sizeLine) (hs2 : items.size + items2.size ≤ sizeLine + 1) :
    Meets (Builtin.«list.extend» ⟨[.ref l, .ref b], []⟩) (fun _ R s => s.heap.get? l = some { cls := .type "list", dict := none, data := .seq items n, slots := #[] } ∧ s.heap.get? b = some { cls := .type "tuple", dict := dd, data := .seq items2 n2, slots := sl } ∧ R (.ok (.ret Value.none)) { s with heap := s.heap.update l (Obj.mapSeq fun x => x ++ items2), toks := s.toks }) :=
  .of_wp fun prog w A R s h => by
    obtain ⟨hp, g, d, tk, os⟩ := s; obtain ⟨hl, hb, h⟩ := h; have f1 := idx_int; have f2 := sub_tuple_tuple; have f3 := sub_list_list; have f4 := sub_tuple_list; have f5 := sub_list_tuple;
    have hz' : (items ++ items2).size ≤ sizeLine + 1 := by rw [Array.size_append]; exact hs2
    wp_walk using (wpAny_updateSeq hl rfl (hz := hs1) (_hz' := hz')), wpAny_loadPart' hl, wpAny_loadPart' hb; exact ⟨_, rfl, h⟩
end PySem.AutoSeq1
namespace Ag
open PySem PySem.Spec PyProof.Rows L2
/-- l.extend(tuple) -/
def rExtendT (K : PySem.W.Frag) : V → List V → Hp → VK → Prop := fun x vs H Q => ∃ l b xs zs, x = .ref l ∧ vs = [.ref b] ∧ H l = some (.lst xs) ∧ SqT K H b zs ∧ xs.length + zs.length ≤ sizeLine ∧ Q .non (upd H l (.lst (xs ++ zs)))
theorem mt_extendT {X : Cx} : MtM X "list.extend" (rExtendT X.K) := by
  intro pins s σ H x vs v us Q I rx rv h
  obtain ⟨l, b, xs, zs, rfl, rfl, hH, hB, hz, q⟩ := h
  cases rx
  obtain ⟨u, rfl, ru⟩ := rv.one
  cases ru
  obtain ⟨z, its, n, r, hl, e⟩ := I.lstM hH
  obtain ⟨its2, r2, ⟨⟨oc, od, odt, osl⟩, e2, ec, n2, ed⟩, hz2⟩ := I.tuple hB
  simp only at ec ed
  subst ec ed
  have hl2 := r2.length
  have hsz : its.toArray.size + its2.toArray.size ≤ sizeLine := by rw [List.size_toArray, List.size_toArray]; omega
  have hlong : ¬ (!its.toArray.isEmpty && Builtin.List.listTooLong (its.toArray.size + its2.toArray.size)) = true := by
    rw [notLongL hsz, Bool.and_false]
    exact Bool.false_ne_true
  refine call_meets F.slot_list_extend ⟨_, e, rfl⟩ F.entry_list_extend (F.args_list_extend_2 _ _)
    (PySem.AutoSeq1.list_extend_tup l its.toArray n b its2.toArray n2 od osl hlong (by rw [List.size_toArray]; omega) (by omega)) ⟨e, e2, ?_⟩
  refine ⟨.non, _, I.lset (its' := its ++ its2) hH e (by simp) (r.append r2) ?_, rfl, q⟩
  rw [List.length_append]
  omega

section
variable {K : PySem.W.Frag} {σ : L2.St} {F : Addr → Prop} {H : Hp} {te ta tb : TE} {d e : PyData}
theorem df_isDat {x : V} (h : Df K F H x d) : isDat x = true := by cases h <;> rfl
def isB (b : Bool) : PyData → Bool | .bool c => c == b | _ => false
theorem isB_of {b : Bool} {x : V} (h : Df K F H x d) : decide (x = .bl b) = isB b d := by
  cases h with
  | bl c => cases c <;> cases b <;> decide
  | _ => exact decide_eq_false (fun z => nomatch z)
theorem ed_isB {b : Bool} (ha : ED K ta σ F H d) : ED K (tOp (rIsX false) ta (tC (.bl b))) σ F H (.bool (isB b d)) :=
  ed_op ha ed_bl fun F x y H1 hx hy Q q => by
    cases hy; refine ⟨b, rfl, df_isDat hx, ?_⟩
    show Q (.bl (decide (x = .bl b))) H1
    rw [isB_of hx]; exact q _ _ (Same.refl _) (.bl _)
theorem ed_isnotB {b : Bool} (ha : ED K ta σ F H d) : ED K (tOp (rIsX true) ta (tC (.bl b))) σ F H (.bool (!isB b d)) :=
  ed_op ha ed_bl fun F x y H1 hx hy Q q => by
    cases hy; refine ⟨b, rfl, df_isDat hx, ?_⟩
    show Q (.bl (!decide (x = .bl b))) H1
    rw [isB_of hx]; exact q _ _ (Same.refl _) (.bl _)
theorem inV_strs (x : Str) : ∀ (xs : List Str), inV (.str x) (xs.map V.str) = decide (x ∈ xs)
  | [] => rfl
  | y :: ys => by
    have ih := inV_strs x ys
    unfold inV at ih ⊢
    rw [List.map_cons, List.any_cons, ih]
    have e : eqV (.str y) (.str x) = decide (y = x) := rfl
    rw [e]
    by_cases h : x = y
    · subst h; simp
    · have h' : ¬ y = x := fun q => h q.symm
      simp [h, h']
theorem flat_strs : ∀ (xs : List Str), (xs.map V.str).all flatV = true
  | [] => rfl
  | y :: ys => by rw [List.map_cons, List.all_cons, flat_strs ys]; rfl
theorem ed_inSeq {x : Str} {xs : List Str} (ha : ED K ta σ F H (.str x)) (hb : ED K tb σ F H e) (he : e = .tuple (xs.map .str) ∨ e = .list (xs.map .str)) : ED K (tOp (rIn K false) ta tb) σ F H (.bool (decide (x ∈ xs))) :=
  ed_op ha hb fun F a b H1 hx hy Q q => by
    cases hx
    have h : ∃ p, b = .ref p ∧ (SqL K H1 p (xs.map V.str) ∨ SqT K H1 p (xs.map V.str)) := by
      rcases he with rfl | rfl
      · cases hy with
        | tup h r => rw [strs_dps (dfs_dps r)] at h; exact ⟨_, rfl, .inr h⟩
      · cases hy with
        | lst h r => rw [strs_dps (dfs_dps r)] at h; exact ⟨_, rfl, .inl (h.imp (fun z => z.1) id)⟩
    obtain ⟨p, rfl, h⟩ := h
    refine ⟨p, _, rfl, h, rfl, flat_strs xs, ?_⟩
    show Q (.bl (inV (.str x) (xs.map V.str))) H1
    rw [inV_strs]; exact q _ _ (Same.refl _) (.bl _)
theorem ed_notInSeq {x : Str} {xs : List Str} (ha : ED K ta σ F H (.str x)) (hb : ED K tb σ F H e) (he : e = .tuple (xs.map .str) ∨ e = .list (xs.map .str)) : ED K (tOp (rIn K true) ta tb) σ F H (.bool (!decide (x ∈ xs))) :=
  ed_op ha hb fun F a b H1 hx hy Q q => by
    cases hx
    have h : ∃ p, b = .ref p ∧ (SqL K H1 p (xs.map V.str) ∨ SqT K H1 p (xs.map V.str)) := by
      rcases he with rfl | rfl
      · cases hy with
        | tup h r => rw [strs_dps (dfs_dps r)] at h; exact ⟨_, rfl, .inr h⟩
      · cases hy with
        | lst h r => rw [strs_dps (dfs_dps r)] at h; exact ⟨_, rfl, .inl (h.imp (fun z => z.1) id)⟩
    obtain ⟨p, rfl, h⟩ := h
    refine ⟨p, _, rfl, h, rfl, flat_strs xs, ?_⟩
    show Q (.bl (!inV (.str x) (xs.map V.str))) H1
    rw [inV_strs]; exact q _ _ (Same.refl _) (.bl _)
theorem ed_catT {xs ys : List PyData} (ha : ED K ta σ F H (.tuple xs)) (hb : ED K tb σ F H (.tuple ys)) (hl : xs.length + ys.length ≤ 100000) : ED K (tOp (rCatA K) ta tb) σ F H (.tuple (xs ++ ys)) :=
  ed_op ha hb fun F a b H1 hx hy Q q => by
    cases hx with
    | tup h r =>
      cases hy with
      | tup h2 r2 =>
        refine ⟨_, _, _, _, rfl, rfl, h, h2, by rw [dfs_len r, dfs_len r2]; exact small5 hl, fun z => ?_, fun _ z => ?_, fun _ _ p hp => ?_⟩
        · subst z; cases r; exact q _ _ (Same.refl _) (.tup h2 (dfs_mono (Same.refl _) (fun _ z => .inl z) r2))
        · subst z; cases r2; exact q _ _ (Same.refl _) (by rw [List.append_nil]; exact .tup h (dfs_mono (Same.refl _) (fun _ z => .inl z) r))
        · exact q _ _ (Same.newA hp) (.tup (.of upd_same) (dfs_mono (Same.newA hp) (fun _ z => .inl z) (dfs_app r r2)))
def cutD (xs : List PyData) (lo hi : Option Int) : List PyData := (xs.drop (HT.sIx xs.length 0 lo)).take (HT.sIx xs.length xs.length hi - HT.sIx xs.length 0 lo)
theorem dfs_cut {vs : List V} {ds : List PyData} {lo hi : Option Int} (h : DfAll K F H vs ds) : DfAll K F H (cutV vs lo hi) (cutD ds lo hi) := by
  unfold cutV cutD; rw [dfs_len h]; exact dfs_take _ (dfs_drop _ h)
theorem cutD_all {ds : List PyData} {lo hi : Option Int} (h : HT.sIx ds.length 0 lo = 0 ∧ HT.sIx ds.length ds.length hi = ds.length) : cutD ds lo hi = ds := by
  unfold cutD; rw [h.1, h.2, List.drop_zero, Nat.sub_zero, List.take_length]
theorem eo_none : EO tNoPart σ H none := fun H1 s Q q => q H1 (Same.refl _)
theorem eo_some {i : Int} (h : ED K te σ F H (.int i)) : EO (tPart te) σ H (some i) := fun H1 s Q q => h H1 s _ fun v H2 s2 hv => by
  cases hv; exact ⟨i, rfl, q H2 s2⟩
theorem ed_slT {xs : List PyData} {tl th : TO} {lo hi : Option Int} (h : ED K te σ F H (.tuple xs)) (hl : EO tl σ H lo) (hh : EO th σ H hi) : ED K (tSl (rSlA K) te tl th) σ F H (.tuple (cutD xs lo hi)) := fun H1 s Q q =>
  h H1 s _ fun v H2 s2 hv => hl H2 (s.trans s2) _ fun H3 s3 => hh H3 ((s.trans s2).trans s3) _ fun H4 s4 => by
    cases hv with
    | tup ht r =>
      have s34 := s3.trans s4
      have s24 := s2.trans s34
      refine ⟨_, _, rfl, s34.stA ht, fun z => ?_, fun _ p hp => ?_⟩
      · rw [dfs_len r] at z
        exact q _ _ s24 (by rw [cutD_all z]; exact .tup (s34.stA ht) (dfs_mono s34 (fun _ z => z) r))
      · exact q _ _ (s24.trans (Same.newA hp)) (.tup (.of upd_same) (dfs_mono (s34.trans (Same.newA hp)) (fun _ z => z) (dfs_cut r)))
theorem ed_slL {xs : List PyData} {tl th : TO} {lo hi : Option Int} (h : ED K te σ F H (.list xs)) (hl : EO tl σ H lo) (hh : EO th σ H hi) : ED K (tSl (rSlL K) te tl th) σ F H (.list (cutD xs lo hi)) := fun H1 s Q q =>
  h H1 s _ fun v H2 s2 hv => hl H2 (s.trans s2) _ fun H3 s3 => hh H3 ((s.trans s2).trans s3) _ fun H4 s4 => by
    cases hv with
    | lst ht r =>
      have s34 := s3.trans s4
      have s24 := s2.trans s34
      refine ⟨_, _, rfl, s34.slA (ht.imp (fun z => z.1) id), fun p hp => ?_⟩
      exact q _ _ (s24.trans (Same.newA hp)) (.lst (.inl ⟨.inl upd_same, .inr (s24.freshA hp)⟩) (dfs_mono (s34.trans (Same.newA hp)) (fun _ z => z) (dfs_cut r)))
theorem filt_tt {α : Type} (l : List α) : l.filter (fun _ => true) = l := List.filter_eq_self.mpr fun _ _ => rfl
end
end Ag

set_option Elab.async false
set_option linter.all false
set_option maxRecDepth 100000
set_option maxHeartbeats 1000000
/-! A list beside the empty list, whatever its depth. -/
namespace Ag
open PySem PySem.Spec PyProof.Rows L2
def rNeE (K : PySem.W.Frag) : R2 := fun x y H Q => ∃ ds, Dp K H x (.list ds) ∧ Dp K H y (.list []) ∧ PyData.canLayAll0 ds = true ∧ Q (.bl (!ds.isEmpty)) H
def rEqE (K : PySem.W.Frag) : R2 := fun x y H Q => ∃ ds, Dp K H x (.list ds) ∧ Dp K H y (.list []) ∧ PyData.canLayAll0 ds = true ∧ Q (.bl ds.isEmpty) H
theorem eqv_empty : ∀ (ds : List PyData), PyData.eqv (.list ds) (.list []) = ds.isEmpty
  | [] => by simp [PyData.eqv, PyData.eqvAll]
  | _ :: _ => by simp [PyData.eqv, PyData.eqvAll]
theorem room_empty {A : Around} {d : PyData} (hu : A.units + 64 < cLine) : A.units + min d.depth (PyData.list []).depth < cLine := by
  have h : (PyData.list []).depth ≤ 64 := by decide
  have h2 : min d.depth (PyData.list []).depth ≤ (PyData.list []).depth := Nat.min_le_right _ _
  omega
theorem op_neE {X : Cx} (hu : X.A.units + 64 < cLine) : OpR X (compareOp .NotEq) (rNeE X.K) := by
  intro pins s σ H x y v u Q I rx ry h
  obtain ⟨ds, hd, he, sd, q⟩ := h
  obtain ⟨as, r1⟩ := Dp.reads I (.list ds) x v hd rx
  obtain ⟨bs, r2⟩ := Dp.reads I (.list []) y u he ry
  exact SeqAt.compareNe_reads r1 r2 (by simpa [PyData.canLay0] using sd) (by simp [PyData.canLay0, PyData.canLayAll0]) (room_empty hu) ⟨.bl _, H, I, rfl, by rw [eqv_empty]; exact q⟩
theorem op_eqE {X : Cx} (hu : X.A.units + 64 < cLine) : OpR X (compareOp .Eq) (rEqE X.K) := by
  intro pins s σ H x y v u Q I rx ry h
  obtain ⟨ds, hd, he, sd, q⟩ := h
  obtain ⟨as, r1⟩ := Dp.reads I (.list ds) x v hd rx
  obtain ⟨bs, r2⟩ := Dp.reads I (.list []) y u he ry
  exact SeqAt.compareEq_reads r1 r2 (by simpa [PyData.canLay0] using sd) (by simp [PyData.canLay0, PyData.canLayAll0]) (room_empty hu) ⟨.bl _, H, I, rfl, by rw [eqv_empty]; exact q⟩
section
variable {K : PySem.W.Frag} {σ : L2.St} {F : Addr → Prop} {H : Hp} {te ta tb : TE} {ds : List PyData}
theorem ed_neE (ha : ED K ta σ F H (.list ds)) (hb : ED K tb σ F H (.list [])) (hl : PyData.canLayAll0 ds = true) : ED K (tOp (rNeE K) ta tb) σ F H (.bool (!ds.isEmpty)) :=
  ed_op ha hb fun F a b H1 hx hy Q q => ⟨ds, df_dp hx, df_dp hy, hl, q _ _ (Same.refl _) (.bl _)⟩
theorem ed_eqE (ha : ED K ta σ F H (.list ds)) (hb : ED K tb σ F H (.list [])) (hl : PyData.canLayAll0 ds = true) : ED K (tOp (rEqE K) ta tb) σ F H (.bool ds.isEmpty) :=
  ed_op ha hb fun F a b H1 hx hy Q q => ⟨ds, df_dp hx, df_dp hy, hl, q _ _ (Same.refl _) (.bl _)⟩
theorem ed_emp : ED K (tLst tNil) σ F H (.list []) := ed_lst ea_nil (by decide)
/-- a comprehension of two clauses over data: the list made -/
theorem lc2_run {wi wi1 : TI} {g g1 : TG} {tt tt1 : TT} {vs vs1 : List Nat} {es : PyData → List PyData} {m : PyData → PyData} (hi : EI K wi σ F H ds) (hl : (ds.flatMap es).length ≤ 50000)
    (ht : ∀ F2 H1, Ext F H F2 H1 → ∀ v d, d ∈ ds → Df K F2 H1 v d → ∃ σ2, (∀ Q : L2.St → Hp → Prop, Q σ2 H1 → g v (wipe σ vs) H1 Q) ∧ wipe σ2 vs = wipe σ vs ∧ ET tt σ2 H1 true ∧ EI K wi1 σ2 F2 H1 (es d) ∧
      ∀ F3 H2, Ext F2 H1 F3 H2 → ∀ v2 d2, d2 ∈ es d → Df K F3 H2 v2 d2 → ∃ σ3, (∀ Q : L2.St → Hp → Prop, Q σ3 H2 → g1 v2 (wipe σ2 vs1) H2 Q) ∧ wipe σ3 vs1 = wipe σ2 vs1 ∧ ET tt1 σ3 H2 true ∧ ED K te σ3 F3 H2 (m d2)) :
    ∀ H1, Same H H1 → ∀ Q : VK, (∀ D ys H', Same H1 H' → H1 D = none → H' D = some (.lst ys) → DfAll K (fun a => Fr F H1 a ∧ a ≠ D) H' ys ((ds.flatMap es).map m) → Q (.ref D) H') → tLc2 wi g tt wi1 g1 tt1 te vs vs1 σ H1 Q := fun H1 s Q q => hi H1 s _ fun J H2 s2 W D hD => by
  have hD1 : H1 D = none := s2.freshA hD
  let F2 : Addr → Prop := fun a => Fr F H1 a ∧ a ≠ D
  have nF : ¬ F2 D := fun z => z.2 rfl
  refine ⟨fun i k H' => k = ds.length - i ∧ i ≤ ds.length ∧ Same H2 H' ∧ ∃ ys, H' D = some (.lst ys) ∧ DfAll K F2 H' ys (((ds.take i).flatMap es).map m), ⟨ds.length, by simp, Nat.zero_le _, Same.newA hD, [], upd_same, by simp; exact .nil⟩, ?_⟩
  rintro i k H' ⟨rfl, hi, s3, ys, e, r⟩
  by_cases lt : i < ds.length
  · refine .inr ⟨W.go i H' s3.F lt, fun H5 => Same H2 H5 ∧ ∃ ys, H5 D = some (.lst ys) ∧ DfAll K F2 H5 ys (((ds.take (i + 1)).flatMap es).map m), fun H5 ⟨a, b⟩ => ⟨ds.length - (i + 1), by omega, rfl, lt, a, b⟩, fun x H3 y => ?_⟩
    obtain ⟨d, hd, s4, hx⟩ := W.yld i H' x H3 lt s3.F y
    have hx2 : Df K F2 H3 x d := df_mono (Same.refl _) (fun a z => ⟨z.1, fun q => z.2 (q ▸ hD)⟩) hx
    obtain ⟨σ2, hg, hw, htt, hin, hte⟩ := ht F2 H3 ⟨(((s.trans s2).trans s3).trans s4).F, fun a z n => ⟨.inl z, fun q => n (s.freshA (q ▸ hD1))⟩⟩ x d (List.mem_of_getElem? hd) hx2
    have tk : ds.take (i + 1) = ds.take i ++ [d] := by rw [List.take_succ, hd]; rfl
    have tkf : (ds.take (i + 1)).flatMap es = (ds.take i).flatMap es ++ es d := by rw [tk, List.flatMap_append]; simp
    have bnd : ((ds.take i).flatMap es ++ es d).length ≤ 50000 := by
      rw [← tkf]
      refine Nat.le_trans ?_ hl
      conv => rhs; rw [← List.take_append_drop (i + 1) ds, List.flatMap_append, List.length_append]
      exact Nat.le_add_right _ _
    refine hg _ ⟨hw, htt H3 (Same.refl _) _ fun H4 s5 => ?_⟩
    have e4 : H4 D = some (.lst ys) := s5 _ _ (s4 _ _ e)
    refine hin H4 s5 _ fun J1 H6 s6 W1 => ?_
    have e6 := s6 _ _ e4
    have s36 := (s4.trans s5).trans s6
    have nF4 : ¬ Fr F2 H4 D := fun z => z.elim nF (fun z => by rw [e4] at z; cases z)
    have to2 : ∀ a, Fr F2 H4 a → F2 a := fun a z => z.elim id fun z => ⟨.inr (s2.freshA (s3.freshA ((s4.trans s5).freshA z))), fun q => by rw [q, e4] at z; cases z⟩
    refine ⟨fun j k H' => k = (es d).length - j ∧ j ≤ (es d).length ∧ Same H2 H' ∧ SameF (Fr F2 H4) H6 H' ∧ ∃ ys, H' D = some (.lst ys) ∧ DfAll K F2 H' ys (((ds.take i).flatMap es ++ (es d).take j).map m), ⟨(es d).length, by simp, Nat.zero_le _, s3.trans s36, SameF.refl, ys, e6, by simp only [List.take_zero, List.append_nil]; exact dfs_mono s36 (fun _ z => z) r⟩, ?_⟩
    rintro j k H' ⟨rfl, hj, t3, tF, zs, ez, rz⟩
    by_cases lj : j < (es d).length
    · refine .inr ⟨W1.go j H' tF lj, fun H5 => Same H2 H5 ∧ SameF (Fr F2 H4) H6 H5 ∧ ∃ ys, H5 D = some (.lst ys) ∧ DfAll K F2 H5 ys (((ds.take i).flatMap es ++ (es d).take (j + 1)).map m), fun H5 ⟨a, b, c⟩ => ⟨(es d).length - (j + 1), by omega, rfl, lj, a, b, c⟩, fun x2 H7 y2 => ?_⟩
      obtain ⟨d2, hd2, t4, hx3⟩ := W1.yld j H' x2 H7 lj tF y2
      have hx4 : Df K F2 H7 x2 d2 := df_mono (Same.refl _) (fun a z => to2 a z.1) hx3
      have F37 : SameF F2 H3 H7 := ((s5.trans s6).F.trans (tF.sub fun a z => .inl z)).trans t4.F
      obtain ⟨σ3, hg3, hw3, htt3, hte3⟩ := hte F2 H7 ⟨F37, fun a z _ => z⟩ x2 d2 (List.mem_of_getElem? hd2) hx4
      have tk2 : (es d).take (j + 1) = (es d).take j ++ [d2] := by rw [List.take_succ, hd2]; rfl
      refine hg3 _ ⟨hw3, htt3 H7 (Same.refl _) _ fun H8 t5 => ?_⟩
      refine hte3 H8 t5 _ fun v H9 t6 hv => ?_
      have t46 := (t4.trans t5).trans t6
      have e9 : H9 D = some (.lst zs) := t46 _ _ ez
      have r9 : DfAll K F2 H9 zs (((ds.take i).flatMap es ++ (es d).take j).map m) := dfs_mono t46 (fun _ z => z) rz
      have v9 : Df K F2 H9 v (m d2) := df_mono (Same.refl _) (fun a z => by
        rcases z with z | z
        · exact z
        · exact ⟨.inr (s2.freshA (t3.freshA ((t4.trans t5).freshA z))), fun q => by
            have := (t4.trans t5) _ _ ez
            rw [q, this] at z; cases z⟩) hv
      have len9 := dfs_len r9
      rw [List.length_map, List.length_append, List.length_take] at len9
      rw [List.length_append] at bnd
      refine ⟨zs, e9, lt5 (by omega), fun a u h => ?_, (tF.trans t46.F).trans (SameF.upd e9 nF4), zs ++ [v], upd_same, ?_⟩
      · rw [upd_ne (ne_of_none h hD)]; exact t46 _ _ (t3 _ _ h)
      · rw [tk2, ← List.append_assoc, List.map_append]
        exact dfs_app (dfs_upd e9 nF r9) (.cons (df_upd e9 nF v9) .nil)
    · have : j = (es d).length := by omega
      subst this
      refine .inl ⟨W1.stop H' tF, t3, zs, ez, ?_⟩
      rw [tkf]; rw [List.take_length] at rz; exact rz
  · have : i = ds.length := by omega
    subst this
    refine .inl ⟨W.stop H' s3.F, q D ys H' (s2.trans s3) hD1 e ?_⟩
    rw [List.take_length] at r; exact r
end
end Ag

set_option Elab.async false
set_option linter.all false
set_option maxRecDepth 100000
set_option maxHeartbeats 1000000
/-! A text times an int; data that is good, made without naming it. -/
namespace Ag
open PySem PySem.Spec PyProof.Rows L2
def rRepS : R2 := fun x y H Q => ∃ (z : Str) (n : Nat), x = .str z ∧ y = .int (n : Int) ∧ z.length ≤ 1000 ∧ n ≤ 1000 ∧ Q (.str (Txt.mul z n)) H
theorem op_repS {X : Cx} : OpR X (binaryOp .Mult) rRepS := by
  intro pins s σ H x y v u Q I rx ry h
  obtain ⟨z, n, rfl, rfl, h1, h2, q⟩ := h
  obtain ⟨t, rfl⟩ := rx
  obtain ⟨t', rfl⟩ := ry
  exact SB.mul (mulOk_of 1000 1000 h1 (by omega) (by omega) (by decide) (by decide)) fun t' k => ⟨.str _, H, I.tok _, ⟨_, rfl⟩, q⟩
end Ag

set_option Elab.async false
set_option linter.all false
set_option maxRecDepth 100000
set_option maxHeartbeats 1000000
/-! sorted(list of alike data) over the layer: texts, ints, tuples of such. -/
namespace Ag
open PySem PySem.Spec PyProof.Rows L2
open PySem.W (EachIs AllAlike Sortable dataKind sortLe dataLt keyToks)
/-- a is not behind b -/
def leD (a b : PyData) : Bool := !dataLt b a
theorem each_of {h : Heap} : ∀ {xs : List V} {us : List Value} {ds : List PyData} {as : List Addr}, Vals xs us → ReadsAll h us ds as → EachIs (fun (u : Value) (b : V × PyData) => RelV b.1 u ∧ (∃ as, Reads h u b.2 as) ∧ b.2 ∈ ds) us (xs.zip ds)
  | [], _, _, _, .nil, .nil => .nil
  | x :: xs, u :: us, _, _, .cons r t, .cons (d := d) (ds := ds) h1 h2 => by
    rw [List.zip_cons_cons]
    refine .cons ⟨r, ⟨_, h1⟩, List.mem_cons_self⟩ (EachIs.mono (fun u b z => ⟨z.1, z.2.1, List.mem_cons_of_mem _ z.2.2⟩) (each_of t h2))
theorem vals_each {us : List Value} {zs : List (V × PyData)} (h : EachIs (fun (u : Value) (b : V × PyData) => RelV b.1 u) us zs) : Vals (zs.map Prod.fst) us := by
  induction h with
  | nil => exact .nil
  | cons a _ ih => exact .cons a ih
theorem each_reads {h : Heap} : ∀ {us : List Value} {ds : List PyData} {as : List Addr}, ReadsAll h us ds as → EachIs (fun v d => ∃ as, Reads h v d as) us ds
  | [], _, _, .nil => .nil
  | _ :: _, _, _, .cons a r => .cons ⟨_, a⟩ (each_reads r)
/-- sorted(xs): the data in their order, equal ones as they stood; zs: the items beside their data -/
def rSortD (K : PySem.W.Frag) : List V → Hp → VK → Prop := fun vs H Q => ∃ (a : Addr) (xs : List V) (ds : List PyData), vs = [V.ref a] ∧ SqL K H a xs ∧ DpAll K H xs ds ∧ AllAlike ds ∧ Sortable ds ∧ (∀ d ∈ ds, d.depth ≤ 50) ∧
  ∀ (zs : List (V × PyData)) p, zs.Perm (xs.zip ds) → zs.map Prod.snd = ds.mergeSort leD → H p = none → Q (.ref p) (upd H p (.lst (zs.map Prod.fst)))
theorem cr_sortD {X : Cx} (hu : X.A.units + 64 < cLine) : CallR X (.builtin "sorted") (rSortD X.K) := by
  intro pins s σ H vs us Q I r h
  obtain ⟨a, xs, ds, rfl, hs, hd, al, so, dp, q⟩ := h
  obtain ⟨its, rv, hl, hz⟩ := I.list hs
  rw [Vals.ref1 r]
  obtain ⟨as, hr⟩ := Dp.readsAll I ds xs its hd rv
  have len : its.length = ds.length := by rw [← rv.length, dps_len hd]
  have hr2 : ReadsAll (PySem.W.sortingHeap (PySem.W.copyHeap s.heap its) (s.heap.objs.size + 1) its) its ds as := PyProof.Rows.ReadsAll.keeps (fun b o e => PySem.W.sorting_copy_old e) hr
  refine PySem.W.sorted_vals (κ := dataKind (PySem.W.sortingHeap (PySem.W.copyHeap s.heap its) (s.heap.objs.size + 1) its) ds) hl.isList (PySem.W.SortsAt.data (each_reads hr2) al so fun d hd => ?_) (by rw [← rv.length]; exact hz) ?_
  · have := dp d hd
    show X.A.units + 1 + 1 + d.depth < cLine
    omega
  · have e1 := each_of rv hr2
    have hk : EachIs (fun (v : Value) (b : V × PyData) => (dataKind (PySem.W.sortingHeap (PySem.W.copyHeap s.heap its) (s.heap.objs.size + 1) its) ds).keyOf v = some (keyToks b.2)) its (xs.zip ds) :=
      EachIs.mono (fun u b z => by
        obtain ⟨_, ⟨as, h2⟩, h3⟩ := z
        exact PySem.W.dataKind_some al h3 h2) e1
    have e2 : EachIs (fun (u : Value) (b : V × PyData) => RelV b.1 u) its (xs.zip ds) := EachIs.mono (fun u b z => z.1) e1
    have e3 := PySem.W.sortVals_each (κ := dataKind (PySem.W.sortingHeap (PySem.W.copyHeap s.heap its) (s.heap.objs.size + 1) its) ds) (rev := false) (ks := its) (fun b : V × PyData => keyToks b.2) e2 hk
    have hn : H (s.heap.objs.size + 1) = none := I.hok.fresh (Nat.le_succ _)
    have hv := vals_each e3
    have pm : ((xs.zip ds).mergeSort (sortLe (dataKind (PySem.W.sortingHeap (PySem.W.copyHeap s.heap its) (s.heap.objs.size + 1) its) ds).toKeyOrd false fun b : V × PyData => keyToks b.2)).Perm (xs.zip ds) := List.mergeSort_perm _ _
    obtain ⟨n, hat⟩ := sortedAll_at s.heap its (PySem.W.sortVals (dataKind (PySem.W.sortingHeap (PySem.W.copyHeap s.heap its) (s.heap.objs.size + 1) its) ds) false its its).toArray
    refine ⟨.ref (s.heap.objs.size + 1), upd H (s.heap.objs.size + 1) (.lst (((xs.zip ds).mergeSort (sortLe (dataKind (PySem.W.sortingHeap (PySem.W.copyHeap s.heap its) (s.heap.objs.size + 1) its) ds).toKeyOrd false fun b : V × PyData => keyToks b.2)).map Prod.fst)),
      I.laid (t' := s.toks) (fun b o e => sortedAll_old e) (Nat.le_succ _) ⟨?_, _, n, hv, hat⟩, rfl, q _ _ pm ?_ hn⟩
    · rw [List.length_map, pm.length_eq, List.length_zip]
      have := dps_len hd
      have := rv.length
      omega
    · exact (PySem.W.sort_maps (s := leD) Prod.snd fun p _ q _ => rfl).trans (by rw [List.map_snd_zip (by have := dps_len hd; omega)])
end Ag

set_option Elab.async false
set_option linter.all false
set_option maxRecDepth 100000
set_option maxHeartbeats 1000000
/-! Texts split and joined, as data. -/
namespace Ag
open PySem PySem.Spec PyProof.Rows L2
section
variable {K : PySem.W.Frag} {σ : L2.St} {F : Addr → Prop} {H : Hp} {to te : TE} {a b : Str}
theorem ed_split (ho : ED K to σ F H (.str a)) (he : ED K te σ F H (.str b)) (hb : (b.length == 0) = false) (ha : a.length ≤ 100000) :
    ED K (tM1 (fun x xs H Q => ∃ a b, x = .str a ∧ xs = [.str b] ∧ (b.length == 0) = false ∧ a.length + 2 ≤ sizeLine ∧ rNewStrs (Txt.split a b) H Q) to te) σ F H (.list ((Txt.split a b).map .str)) := fun H1 s Q q =>
  ho H1 s _ fun v H2 s2 hv => by
    cases hv
    refine ⟨⟨a, rfl⟩, he H2 (s.trans s2) _ fun u H3 s3 hu => ?_⟩
    cases hu
    refine ⟨a, b, rfl, rfl, hb, Nat.le_trans (Nat.add_le_add_right ha 2) (by decide), fun p hp => ?_⟩
    have s23 := s2.trans s3
    exact q _ _ (s23.trans (Same.newA hp)) (.lst (.inl ⟨.inl upd_same, .inr (s23.freshA hp)⟩) (dfs_strs _))
theorem ed_join {ys : List Str} {e : PyData} (ho : ED K to σ F H (.str a)) (he : ED K te σ F H e) (h : e = .list (ys.map .str) ∨ e = .tuple (ys.map .str)) (hl : (ys.map (·.length)).sum + ys.length * a.length ≤ 16777216) :
    ED K (tM1 (fun x xs H Q => ∃ a p, ∃ ys : List Str, x = .str a ∧ xs = [.ref p] ∧ (SqL K H p (ys.map V.str) ∨ SqT K H p (ys.map V.str)) ∧ (ys.map (·.length)).sum + ys.length * a.length ≤ 16777216 ∧ Q (.str (Txt.join a ys)) H) to te) σ F H (.str (Txt.join a ys)) := fun H1 s Q q =>
  ho H1 s _ fun v H2 s2 hv => by
    cases hv
    refine ⟨⟨a, rfl⟩, he H2 (s.trans s2) _ fun u H3 s3 hu => ?_⟩
    have hq : ∃ p, u = .ref p ∧ (SqL K H3 p (ys.map V.str) ∨ SqT K H3 p (ys.map V.str)) := by
      rcases h with rfl | rfl
      · cases hu with
        | lst h r => rw [strs_dps (dfs_dps r)] at h; exact ⟨_, rfl, .inl (h.imp (fun z => z.1) id)⟩
      · cases hu with
        | tup h r => rw [strs_dps (dfs_dps r)] at h; exact ⟨_, rfl, .inr h⟩
    obtain ⟨p, rfl, hs⟩ := hq
    exact ⟨a, p, ys, rfl, rfl, hs, hl, q _ _ (s2.trans s3) (.str _)⟩
end
end Ag

set_option Elab.async false
set_option linter.all false
set_option maxRecDepth 100000
set_option maxHeartbeats 1000000
/-! repr of data, where nothing is being shown. -/
namespace Ag
open PySem PySem.Spec PyProof.Rows L2
/-- data, or an empty dict -/
def Dx (K : PySem.W.Frag) (H : Hp) (v : V) (d : PyData) : Prop := Dp K H v d ∨ (d = .dict [] ∧ ∃ a, v = .ref a ∧ H a = some (.dK []))
theorem Dx.mono {K : PySem.W.Frag} {H H' : Hp} {v : V} {d : PyData} (e : Same H H') (h : Dx K H v d) : Dx K H' v d := h.imp (dp_mono e) fun ⟨a, b, c, q⟩ => ⟨a, b, c, e _ _ q⟩
theorem Dx.dp {K : PySem.W.Frag} {H : Hp} {v : V} {d : PyData} (h : Dp K H v d) : Dx K H v d := .inl h
theorem Dx.reads {X : Cx} {pins : List (Addr × Obj)} {σ : L2.St} {H : Hp} {s : Shared} (I : Inv X pins σ H s) {d : PyData} {v : V} {u : Value} (h : Dx X.K H v d) (r : RelV v u) : ∃ as, Reads s.heap u d as ∧ (d.hasDict = true → sysModules ∉ as) := by
  rcases h with h | ⟨rfl, a, rfl, h⟩
  · obtain ⟨as, q⟩ := Dp.reads I d v u h r
    refine ⟨as, q, fun z => ?_⟩
    have nd : d.hasDict = false := by
      have key : ∀ (d : PyData) (v : V), Dp X.K H v d → d.hasDict = false := by
        intro d v h
        exact Dp.rec (motive_1 := fun _ d _ => d.hasDict = false) (motive_2 := fun _ ds _ => PyData.hasDictAll ds = false) (by simp [PyData.hasDict]) (fun _ => by simp [PyData.hasDict]) (fun _ => by simp [PyData.hasDict]) (fun _ => by simp [PyData.hasDict])
          (fun _ _ ih => by simp only [PyData.hasDict]; exact ih) (fun _ _ ih => by simp only [PyData.hasDict]; exact ih) (by simp [PyData.hasDictAll]) (fun _ _ i1 i2 => by simp only [PyData.hasDictAll]; rw [i1, i2]; rfl) h
      exact key d v h
    rw [nd] at z; cases z
  · cases r
    obtain ⟨_, ns, vs, kv, o, es, ep, e1, ⟨c1, _⟩, e3, e4, e5, _⟩ := I.hok a _ h
    cases kv
    have ez : es.toList = [] := by
      cases q : es.toList with
      | nil => rfl
      | cons x r => rw [q] at e5; cases e5
    refine ⟨_, .dict e1 c1 e3 (by rw [ez]; exact .nil) (by rw [ez]; exact .nil), fun _ m => ?_⟩
    have m : sysModules = a := by simpa using m
    rw [m] at ns; simp at ns
def rRepr (K : PySem.W.Frag) : List V → Hp → VK → Prop := fun vs H Q => ∃ x d, vs = [x] ∧ Dx K H x d ∧ d.showable = true ∧ d.depth ≤ 50 ∧ d.shown.length ≤ sizeLine ∧ Q (.str d.shown) H
theorem cr_repr {X : Cx} (hg : X.A.guards = some []) (hu : X.A.units + 64 < cLine) : CallR X (.builtin "repr") (rRepr X.K) := by
  intro pins s σ H vs us Q I r h
  obtain ⟨x, d, rfl, hd, sh, dp, sz, q⟩ := h
  obtain ⟨u, rfl, ru⟩ := r.one
  obtain ⟨as, hr, hsm⟩ := Dx.reads I hd ru
  cases hr with
  | none => exact PySem.P.repr_of_none ⟨.str _, H, I.tok _, ⟨_, rfl⟩, q⟩
  | bool b => exact PySem.P.repr_of_bool ⟨.str _, H, I.tok _, ⟨_, rfl⟩, q⟩
  | int i t => exact PySem.P.repr_of_int (by simpa [PyData.showable] using sh) ⟨.str _, H, I.tok _, ⟨_, rfl⟩, q⟩
  | str x t => exact PySem.P.repr_of_str ⟨.str _, H, I.tok _, ⟨_, rfl⟩, q⟩ sz
  | list h1 h2 h3 h4 => exact PySem.repr_of_reads' (.list h1 h2 h3 h4) sh hsm hg (by omega) (fun _ _ e => e) (fun h' u tk hk => ⟨.str _, H, I.kept hk, ⟨_, rfl⟩, q⟩) sz
  | tuple h1 h2 h3 h4 => exact PySem.repr_of_reads' (.tuple h1 h2 h3 h4) sh hsm hg (by omega) (fun _ _ e => e) (fun h' u tk hk => ⟨.str _, H, I.kept hk, ⟨_, rfl⟩, q⟩) sz
  | dict h1 h2 h3 h4 h5 => exact PySem.repr_of_reads' (.dict h1 h2 h3 h4 h5) sh hsm hg (by omega) (fun _ _ e => e) (fun h' u tk hk => ⟨.str _, H, I.kept hk, ⟨_, rfl⟩, q⟩) sz
theorem ed_repr {K : PySem.W.Frag} {σ : L2.St} {F : Addr → Prop} {H : Hp} {ta : TE} {d : PyData} (ha : ED K ta σ F H d) (h1 : d.showable = true) (h2 : d.depth ≤ 50) (h3 : d.shown.length ≤ sizeLine) : ED K (tCB (rRepr K) (tCons ta tNil)) σ F H (.str d.shown) :=
  ed_cb (ea_cons ha ea_nil) fun F vs H1 hv Q q => by
    cases hv with
    | cons a r => cases r; exact ⟨_, d, rfl, .inl (df_dp a), h1, h2, h3, q _ _ (Same.refl _) (.str _)⟩
end Ag

set_option Elab.async false
set_option linter.all false
set_option maxRecDepth 100000
set_option maxHeartbeats 2000000
set_option pp.maxSteps 300
namespace Ag
open PySem PySem.Spec PyProof.Rows L2
/-! own exceptions as values: made by their own __init__, read, asked by isinstance -/
/-- C(e, ..) as a value -/
def tMkV (C : Addr) (sp : Sp) (dvs : List V) (ta : TA) : TE := fun σ H Q => ta σ H fun vs H1 => vs.length ≤ 1000 ∧ ∀ a, H1 a = none → sp (.ref a :: (vs ++ dvs)) (upd H1 a (exo a C none)) (fun v H2 => v = .non ∧ Q (.ref a) H2) (fun _ _ _ => False)
section
variable {X : Cx} {e : Expr} {es : List Expr} {te : TE} {ta : TA} {p pos : Pos}
theorem pe_oex {CX : CXT} {x : Str} {C fI : Addr} {k : Nat} {fd : FuncData} {ps : List Str} {sp : Sp} {ds : List Value} {dvs : List V} (T : OexC X.K C) (iC : PySem.W.findIn X.K (.ref C) "__init__" = some (some (.ref fI))) (tI : PySem.W.typeIn X.K (.ref fI) = some (.type "function"))
    (F1 : FnOk X.prog X.w X.K X.mg X.base CX k fI fd ps sp) (hr : Room (k + 1) X.A) (hb : Binds X.K fd ps ds) (hd : Vals dvs ds) (hx : Passes CX X (fun _ _ _ => False)) (hg : Gl X x) (hm : X.mg x = some (.ref C)) (ha : PA X (e :: es) ta)
    (hdb : (x == ("__debug__" : Str)) = false := by decide) (he : starEach (e :: es) X.env = (false, eval e X.env) :: starEach es X.env := by rfl) (hpl : (backTo pos (starEach es X.env)).any (·.1) = false := by rfl) :
    PE X (.Call (.Name x p) (e :: es) [] pos) (tMkV C sp dvs ta) := by
  refine ⟨fun pins s σ H Q I h => ?_⟩
  obtain ⟨nm, q, N, bs, bm, sn, sub, ab, col, dd, k0, k1, k2, k3, k5, hC, hbm⟩ := T.cls
  refine wpAny_Call_Name_kw (ld_glob I hg hm ?_ hdb)
  refine PySem.W.callWith_K (h₀ := X.base) I.ok.mod.kin T.kC (thn (ha.run pos pins s σ H _ I h) fun us s1 ⟨vs, H1, I1, r1, hz, q1⟩ => ⟨I1.kIn, ?_⟩) he hpl
  show wpAny _ _ (call (.ref C) us) _ _ _
  obtain ⟨hp, g, dr, tk, os⟩ := s1
  have hsz : hp.objs.size ≤ hp.objs.size + 1 := Nat.le_succ _
  have hq := q1 (hp.objs.size + 1) (I1.hok.fresh hsz)
  have hget : ((hp.push (PySem.W.kdv_tup us)).push (PySem.HandSPX.excO C hp.objs.size)).get? (hp.objs.size + 1) = some (PySem.HandSPX.excO C hp.objs.size) := by heap_get
  have I2 : Inv X pins σ (upd H1 (hp.objs.size + 1) (exo (hp.objs.size + 1) C none)) ⟨(hp.push (PySem.W.kdv_tup us)).push (PySem.HandSPX.excO C hp.objs.size), g, dr, tk, os⟩ :=
    I1.laid (t' := tk) (a := hp.objs.size + 1) (o := exo (hp.objs.size + 1) C none) (h' := (hp.push (PySem.W.kdv_tup us)).push (PySem.HandSPX.excO C hp.objs.size)) (fun _ _ z => Heap.get?_push_of_some _ (Heap.get?_push_of_some _ z)) hsz (exo_ok hget)
  have r2 : Vals (V.ref (hp.objs.size + 1) :: (vs ++ dvs)) (Value.ref (hp.objs.size + 1) :: (us ++ ds)) := .cons rfl (r1.append hd)
  have hl : (Value.ref (hp.objs.size + 1) :: us ++ ds).length = ps.length := by
    have e := r2.length
    rw [F1.len _ _ _ _ hq] at e
    exact e.symm
  have hus : us.length ≤ sizeLine := by
    rw [← Paired.length r1, sizeLine_eq]
    omega
  refine wpAny_call (PySem.HandSPX.call_own F.excBase_ValueError (fun Y => PySem.HandSPX.refsVE_contains Y bm hbm) (I1.kIn _ _ hC) (PySem.W.looks_findIn I1.kIn iC) (fun self => PySem.W.bind_fn I1.kIn self tI) hus
    (codeAny_mono (F1.run _ X.stack _ _ ⟨Value.ref (hp.objs.size + 1) :: us, []⟩ (Value.ref (hp.objs.size + 1) :: (us ++ ds)) _ _ (fun _ _ _ => False) (hr.make C us []) (I2.env0.make C us []) (hb _ (Value.ref (hp.objs.size + 1) :: us) I2.kIn hl) r2 hq) fun r s' hq' => ?_))
  cases r with
  | error er => exact hx pins σ _ _ er s' I2 hq'
  | ok fl =>
    cases fl with
    | ret u =>
      obtain ⟨v, H2, I3, rv, ev, q2⟩ := I2.after hq'
      subst ev
      exact ⟨rv, .ref _, H2, I3, rfl, q2⟩
    | next => exact False.elim hq'
    | brk => exact False.elim hq'
    | cont => exact False.elim hq'
/-- C(), an own exception without an own __init__ -/
theorem pe_exc0 {C : Addr} {bmB : List Value} {B newId initId : String} {x : Str} (F : ExcBaseFacts B newId initId bmB) (q : PySem.W.excIn X.K C bmB newId = true) (gC : X.mg x = some (.ref C)) (kC : PySem.W.keepIn X.K (.ref C) = true) (hg : Gl X x)
    (hdb : (x == ("__debug__" : Str)) = false := by decide) :
    PE X (.Call (.Name x p) [] [] pos) (fun σ H Q => ∀ a, H a = none → Q (.ref a) (upd H a (ExO (.ref C) a))) := by
  refine ⟨fun pins s σ H Q I h => ?_⟩
  refine wpAny_Call_Name_kw (ld_glob I hg gC ?_ hdb)
  refine PySem.W.callWith_K0 (first := []) I.kIn kC ?_
  show wpAny _ _ (call (.ref C) []) _ _ _
  obtain ⟨bm, N, nm, qn, bs, hdct, sn, sub, ab, col, dd, k0, k1, k2, k3, k5, mN, hC, hN, hni, T⟩ := exc_obj I.kIn q
  refine wpAny_call_exc_subT F T hC hN hni (fun h' a hm => ?_) (by show 0 ≤ sizeLine; rw [sizeLine_eq]; omega)
  have hn : H a = none := I.hok.gone hm.new
  obtain ⟨t, ht, _, _⟩ := hm.there
  exact ⟨.ref a, upd H a (ExO (.ref C) a), I.laidN hm.keeps hm.new hn (exO_ok ht ⟨rfl, rfl⟩ rfl rfl rfl (show 4 < 6 by decide)), rfl, h a hn⟩
/-- the field of an own exception that is a value -/
def tXo (K : PySem.W.Frag) (f : Str) (te : TE) : TE := fun σ H Q => te σ H fun x H1 => ∃ (a C dd : Addr) (fs : List (Str × V)) (v : V), x = .ref a ∧ H1 a = some (exo a C (some dd)) ∧ H1 dd = some (exd dd fs) ∧ fs.lookup f = some v ∧ XfC K C ∧ PySem.W.findIn K (.ref C) f = some none ∧ Q v H1
theorem pe_xo {n : Str} (he : PE X e te) (hb : attributeBase e n X.env (eval e X.env) = eval e X.env := by rfl) : PE X (.Attribute e n pos) (tXo X.K n te) := by
  refine ⟨fun pins s σ H Q I h => ?_⟩
  refine attr_of hb (thn (he.run pins s σ H _ I h) fun u s1 hh => ?_)
  obtain ⟨x, H1, I1, rx, a, C, dd, fs, v, ex, ea, ed, l, T, hno, q⟩ := hh
  subst ex
  obtain rfl : u = Value.ref a := rx
  obtain ⟨t0, ha⟩ := exo_at I1.hok ea
  obtain ⟨mA, hns, hr⟩ := exd_at I1.hok ed
  obtain ⟨od, ho, hl⟩ := lookIn_ns hns
  obtain ⟨u, hu, ru⟩ := RelO.some_of (v := v) (o := mA n) (by rw [← l]; exact hr n)
  have J : PySem.W.InstAt s1.heap a _ C (some od) := ⟨ha, rfl, rfl, ho⟩
  exact HandSPX.exc_get I1.kIn J T.ga T.gg T.exC (PySem.W.findObj_own T.hdC hno rfl (by rw [hl, hu])) (handed_of ru) ⟨v, H1, I1.tok _, ru, q⟩
/-- an exception as a value: with fields, or without -/
def ExAt (H : Hp) (a C : Addr) : Prop := (∃ d fs, H a = some (exo a C (some d)) ∧ H d = some (exd d fs)) ∨ H a = some (ExO (.ref C) a)
/-- isinstance(one, c), one an exception that is a value -/
def rIsV (K : PySem.W.Frag) : List V → Hp → VK → Prop := fun xs H Q => ∃ (a D : Addr) (c : V) (cv : Value) (b : Bool), xs = [.ref a, c] ∧ ExAt H a D ∧ ExcC K D ∧ (∀ u, RelV c u → u = cv) ∧ PySem.W.kitOne K (.ref D) cv = some b ∧ Q (.bl b) H
theorem call_isV : CallR X (.builtin "isinstance") (rIsV X.K) := by
  intro pins s σ H xs us Q I r h
  obtain ⟨a, D, c, cv, b, rfl, ha, C, hcv, e, q⟩ := h
  cases r with
  | cons rx rr =>
    cases rr with
    | cons rt rr =>
      cases rr
      cases rx
      have ec := hcv _ rt
      subst ec
      have hcl : (PySem.W.clsIn X.K D).isSome = true := by
        obtain ⟨cd, hc, _⟩ := PySem.W.any_some C.hd
        rw [hc]; rfl
      have J : ∃ oe od, PySem.W.InstAt s.heap a oe D od := by
        rcases ha with ⟨d, fs, ea, ed⟩ | ea
        · obtain ⟨t0, ho⟩ := exo_at I.hok ea
          obtain ⟨mA, hns, _⟩ := exd_at I.hok ed
          obtain ⟨od, hod, _⟩ := lookIn_ns hns
          exact ⟨_, some od, ho, rfl, rfl, hod⟩
        · obtain ⟨⟨oe, vs, ho, hz, hd, _⟩, _⟩ := I.hok a _ ea
          obtain ⟨oc, od, oda, osl⟩ := oe
          obtain ⟨h1, h2⟩ := hz
          dsimp only at h1 h2 hd
          subst h1 h2 hd
          exact ⟨_, none, ho, rfl, rfl, trivial⟩
      obtain ⟨oe, od, J⟩ := J
      exact PySem.W.kia_one (PySem.W.kitx_exc hcl C.hg C.hk C.hs C.ha C.hn C.ht C.hm) I.kIn J e (fun z => nomatch z) fun tk => ⟨.bl b, H, I.kept (t' := tk) fun _ _ z => z, rfl, q⟩
/-- isinstance(e, c), e the exception that the suite holds, with a dict -/
def rIsP (K : PySem.W.Frag) (a : Addr) (cls : Value) (d : Option Addr) : List V → Hp → VK → Prop := fun xs H Q => ∃ (D dd : Addr) (fs : List (Str × V)) (c : V) (cv : Value) (b : Bool), xs = [.ref a, c] ∧ cls = .ref D ∧ d = some dd ∧ H dd = some (.xd fs) ∧ ExcC K D ∧ (∀ u, RelV c u → u = cv) ∧ PySem.W.kitOne K (.ref D) cv = some b ∧ Q (.bl b) H
theorem call_isP {a : Addr} {oe : Obj} {pn : List (Addr × Obj)} {cls : Value} {d : Option Addr} (hz : Zc cls d oe) (hf : ∃ vs, oe.data = .fields vs) : CallR (X.suite a ((a, oe) :: pn)) (.builtin "isinstance") (rIsP X.K a cls d) := by
  intro pins s σ H xs us Q I r h
  obtain ⟨D, dd, fs, c, cv, b, rfl, rfl, rfl, ed, C, hcv, e, q⟩ := h
  cases r with
  | cons rx rr =>
    cases rr with
    | cons rt rr =>
      cases rr
      cases rx
      have ec := hcv _ rt
      subst ec
      have hcl : (PySem.W.clsIn X.K D).isSome = true := by
        obtain ⟨cd, hc, _⟩ := PySem.W.any_some C.hd
        rw [hc]; rfl
      obtain ⟨hget, _⟩ := I.pin (a, oe) (List.mem_append.mpr (.inl List.mem_cons_self))
      obtain ⟨vs, hv⟩ := hf
      have hx : ObjOk X.prog X.w H s.heap dd (.xd fs) := I.hok dd _ ed
      obtain ⟨mA, hns, _⟩ := hx
      obtain ⟨od, hod, _⟩ := lookIn_ns hns
      have J : PySem.W.InstAt s.heap a oe D (some od) := ⟨hget, hz.1, by unfold PySem.W.notCls; rw [hv] <;> rfl, by rw [hz.2]; exact hod⟩
      exact PySem.W.kia_one (PySem.W.kitx_exc hcl C.hg C.hk C.hs C.ha C.hn C.ht C.hm) I.kIn J e (fun z => nomatch z) fun tk => ⟨.bl b, H, I.kept (t' := tk) fun _ _ z => z, rfl, q⟩
end
end Ag

set_option Elab.async false
set_option linter.all false
set_option maxRecDepth 100000
set_option maxHeartbeats 1000000
/-! The order of alike data over the layer. -/
namespace Ag
open PySem PySem.Spec PyProof.Rows L2
open PySem.W (alike alikeAll dataLt)
def rLtD (K : PySem.W.Frag) : R2 := fun x y H Q => ∃ d e, Dp K H x d ∧ Dp K H y e ∧ alike d e = true ∧ d ≠ .none ∧ min d.depth e.depth ≤ 50 ∧ Q (.bl (dataLt d e)) H
def rGtD (K : PySem.W.Frag) : R2 := fun x y H Q => ∃ d e, Dp K H x d ∧ Dp K H y e ∧ alike d e = true ∧ d ≠ .none ∧ min d.depth e.depth ≤ 50 ∧ Q (.bl (dataLt e d)) H
theorem op_ltD {X : Cx} (hu : X.A.units + 64 < cLine) : OpR X (compareOp .Lt) (rLtD X.K) := by
  intro pins s σ H x y v u Q I rx ry h
  obtain ⟨d, e, hd, he, al, nn, dp, q⟩ := h
  obtain ⟨as, r1⟩ := Dp.reads I d x v hd rx
  obtain ⟨bs, r2⟩ := Dp.reads I e y u he ry
  exact PySem.W.lt_data r1 r2 al nn (by omega) ⟨.bl _, H, I, rfl, q⟩
theorem op_gtD {X : Cx} (hu : X.A.units + 64 < cLine) : OpR X (compareOp .Gt) (rGtD X.K) := by
  intro pins s σ H x y v u Q I rx ry h
  obtain ⟨d, e, hd, he, al, nn, dp, q⟩ := h
  obtain ⟨as, r1⟩ := Dp.reads I d x v hd rx
  obtain ⟨bs, r2⟩ := Dp.reads I e y u he ry
  exact PySem.W.gt_data r1 r2 al nn (by omega) ⟨.bl _, H, I, rfl, q⟩
theorem alike_strs : ∀ (xs ys : List Str), alikeAll (xs.map .str) (ys.map .str) = true
  | [], _ => by simp [alikeAll]
  | _ :: _, [] => by simp [alikeAll]
  | x :: xs, y :: ys => by
    simp only [List.map_cons, alikeAll, Bool.and_eq_true]
    exact ⟨by simp [alike], alike_strs xs ys⟩
section
variable {K : PySem.W.Frag} {σ : L2.St} {F : Addr → Prop} {H : Hp} {ta tb : TE} {d e : PyData}
theorem ed_ltD (ha : ED K ta σ F H d) (hb : ED K tb σ F H e) (h1 : alike d e = true) (h2 : d ≠ .none) (h3 : min d.depth e.depth ≤ 50) : ED K (tOp (rLtD K) ta tb) σ F H (.bool (dataLt d e)) :=
  ed_op ha hb fun F x y H1 hx hy Q q => ⟨d, e, df_dp hx, df_dp hy, h1, h2, h3, q _ _ (Same.refl _) (.bl _)⟩
theorem ed_gtD (ha : ED K ta σ F H d) (hb : ED K tb σ F H e) (h1 : alike d e = true) (h2 : d ≠ .none) (h3 : min d.depth e.depth ≤ 50) : ED K (tOp (rGtD K) ta tb) σ F H (.bool (dataLt e d)) :=
  ed_op ha hb fun F x y H1 hx hy Q q => ⟨d, e, df_dp hx, df_dp hy, h1, h2, h3, q _ _ (Same.refl _) (.bl _)⟩
end
theorem strs_depth : ∀ (xs : List Str), PyData.depthAll (xs.map .str) ≤ 1
  | [] => by simp [PyData.depthAll]
  | x :: xs => by
    have := strs_depth xs
    simp only [List.map_cons, PyData.depthAll, PyData.depth]
    omega
end Ag

set_option Elab.async false
set_option linter.all false
set_option maxRecDepth 100000
set_option maxHeartbeats 1000000
/-! Either of two promises; the empty dict asked for its kind. -/
namespace Ag
open PySem PySem.Spec PyProof.Rows L2
/-- a promise that holds where one of two does -/
def spOr (sp sp' : Sp) : Sp := fun vs H Q E => sp vs H Q E ∨ sp' vs H Q E
theorem fn_or {P : Program} {w : World} {K : PySem.W.Frag} {mg : Str → Option Value} {base : Heap} {CX : CXT} {k : Nat} {f : Addr} {fd : FuncData} {ps : List Str} {sp sp' : Sp} (F : FnOk P w K mg base CX k f fd ps sp) (G : FnOk P w K mg base CX k f fd ps sp') :
    FnOk P w K mg base CX k f fd ps (spOr sp sp') :=
  ⟨fun vs H Q E q => q.elim (F.len vs H Q E) (G.len vs H Q E), fun A outer s H args us vs Q E hr he hb hv hs => hs.elim (fun z => F.run A outer s H args us vs Q E hr he hb hv z) (fun z => G.run A outer s H args us vs Q E hr he hb hv z)⟩
section
variable {K : PySem.W.Frag} {σ : L2.St} {F : Addr → Prop} {H : Hp}
theorem kit_dict {T : String} (hT : T = "str" ∨ T = "tuple" ∨ T = "list" ∨ T = "int" ∨ T = "bool") : PySem.W.kitOne K (.type "dict") (.type T) = some false := by
  rcases hT with rfl | rfl | rfl | rfl | rfl
  · exact kit_ty (show kitB "dict" "str" = some false by decide +kernel)
  · exact kit_ty (show kitB "dict" "tuple" = some false by decide +kernel)
  · exact kit_ty (show kitB "dict" "list" = some false by decide +kernel)
  · exact kit_ty (show kitB "dict" "int" = some false by decide +kernel)
  · exact kit_ty (show kitB "dict" "bool" = some false by decide +kernel)
theorem ed_isiE {i : Nat} {a : Addr} {T : String} (h : σ[i]? = some (some (.ref a))) (ha : H a = some (.dK [])) (hT : T = "str" ∨ T = "tuple" ∨ T = "list" ∨ T = "int" ∨ T = "bool") :
    ED K (tCB (rIsi K) (tCons (tVar i) (tCons (tC (.ty T)) tNil))) σ F H (.bool false) := fun H1 s Q q =>
  ⟨_, h, .ref a, .ty T, _, _, _, rfl, .ty T, .base (.dK (s _ _ ha)), kit_dict hT, q _ _ (Same.refl _) (.bl _)⟩
theorem dp_strsF {v : V} {xs : List Str} (h : Dp K H v (.tuple (xs.map .str))) : Df K F H v (.tuple (xs.map .str)) := by
  cases h with
  | tup hs r => have := strs_dps r; subst this; exact .tup hs (dfs_strs xs)
end
end Ag

set_option Elab.async false
set_option linter.all false
set_option maxRecDepth 100000
set_option maxHeartbeats 1000000
/-! Texts of plain signs and how long they may be; lists of texts, made and joined anew. -/
namespace Ag
open PySem PySem.Spec PyProof.Rows L2
/-- plain signs, at most n of them -/
def As (n : Nat) (x : Str) : Prop := (∀ c ∈ x.cps.toList, c < 128) ∧ x.length ≤ n
theorem As.more {m n : Nat} {x : Str} (h : As m x) (l : m ≤ n) : As n x := ⟨h.1, Nat.le_trans h.2 l⟩
theorem as_cat {m n : Nat} {x y : Str} (h : As m x) (k : As n y) : As (m + n) (x ++ y) := by
  refine ⟨fun c hc => ?_, by rw [Str.length_append]; exact Nat.add_le_add h.2 k.2⟩
  have e : (x ++ y).cps.toList = x.cps.toList ++ y.cps.toList := TL.tl_append x y
  rw [e] at hc
  exact (List.mem_append.mp hc).elim (h.1 c) (k.1 c)
theorem as_cut {n : Nat} {x : Str} {lo hi : Option Int} (h : As n x) : As n (cutS x lo hi) := by
  have e : (cutS x lo hi).cps.toList = (x.cps.toList.drop (HT.sIx x.length 0 lo)).take (HT.sIx x.length x.length hi - HT.sIx x.length 0 lo) := by
    unfold cutS; simp
  refine ⟨fun c hc => h.1 c ?_, ?_⟩
  · rw [e] at hc; exact List.mem_of_mem_drop (List.mem_of_mem_take hc)
  · show (cutS x lo hi).cps.size ≤ n
    rw [← Array.length_toList, e, List.length_take, List.length_drop, Array.length_toList]
    have : x.cps.size ≤ n := h.2
    omega
theorem up1_lt : ∀ c, c < 128 → PyProof.Rows.up1 c < 128 := by decide +kernel
theorem as_upper {n : Nat} {x : Str} (h : As n x) : As n (Txt.upper x) := by
  rw [PyProof.Rows.upper_ascii h.1]
  refine ⟨fun c hc => ?_, ?_⟩
  · have hc : c ∈ (x.cps.map PyProof.Rows.up1).toList := hc
    rw [Array.toList_map] at hc
    obtain ⟨b, hb, rfl⟩ := List.mem_map.mp hc
    exact up1_lt b (h.1 b hb)
  · show (x.cps.map PyProof.Rows.up1).size ≤ n
    rw [Array.size_map]; exact h.2
/-- a checked text -/
def asB (n : Nat) (x : Str) : Bool := x.cps.toList.all (fun c => decide (c < 128)) && decide (x.length ≤ n)
theorem as_of {n : Nat} {x : Str} (h : asB n x = true) : As n x := by
  unfold asB at h
  obtain ⟨h1, h2⟩ := Bool.and_eq_true_iff.mp h
  exact ⟨fun c hc => of_decide_eq_true (List.all_eq_true.mp h1 c hc), of_decide_eq_true h2⟩
theorem as_join {s : Str} {n m : Nat} (hs : As m s) : ∀ {xs : List Str}, (∀ x ∈ xs, As n x) → As (xs.length * (n + m)) (Str.join s xs)
  | [], _ => ⟨fun c hc => absurd hc (List.not_mem_nil), (Nat.zero_le _)⟩
  | [x], h => ((h x List.mem_cons_self).more (by simp))
  | x :: y :: r, h => by
    have i := as_join hs (xs := y :: r) fun z hz => h z (List.mem_cons_of_mem _ hz)
    have e : Str.join s (x :: y :: r) = x ++ s ++ Str.join s (y :: r) := rfl
    rw [e]
    refine (as_cat (as_cat (h x List.mem_cons_self) hs) i).more ?_
    simp only [List.length_cons, Nat.add_mul, Nat.one_mul]; omega
section
variable {K : PySem.W.Frag} {σ : L2.St} {F : Addr → Prop} {H : Hp} {te ta tb : TE} {d e : PyData}
theorem ed_slS {x : Str} {tl th : TO} {lo hi : Option Int} (h : ED K te σ F H (.str x)) (hx : x.length ≤ 100000) (hl : EO tl σ H lo) (hh : EO th σ H hi) : ED K (tSl rSlS te tl th) σ F H (.str (cutS x lo hi)) := fun H1 s Q q =>
  h H1 s _ fun v H2 s2 hv => by
    cases hv
    refine hl H2 (s.trans s2) _ fun H3 s3 => hh H3 ((s.trans s2).trans s3) _ fun H4 s4 => ?_
    exact ⟨x, rfl, small5 hx, q _ _ ((s2.trans s3).trans s4) (.str _)⟩
theorem ed_upper {x : Str} (h : ED K te σ F H (.str x)) (hx : x.length ≤ 100000) : ED K (tM0 (fun x xs H Q => ∃ a, x = .str a ∧ xs = [] ∧ a.length ≤ 5592405 ∧ Q (.str (Txt.upper a)) H) te) σ F H (.str (Txt.upper x)) := fun H1 s Q q =>
  h H1 s _ fun v H2 s2 hv => by
    cases hv
    exact ⟨⟨x, rfl⟩, x, rfl, rfl, by omega, q _ _ s2 (.str _)⟩
/-- gives a list of these texts -/
def EL (te : TE) (σ : L2.St) (H : Hp) (xs : List Str) : Prop := ∀ H1, Same H H1 → ∀ Q : VK, (∀ p H2, Same H1 H2 → H2 p = some (.lst (xs.map V.str)) → Q (.ref p) H2) → te σ H1 Q
theorem EL.mono {H' : Hp} {xs : List Str} (s : Same H H') (h : EL te σ H xs) : EL te σ H' xs := fun H1 a Q q => h H1 (s.trans a) Q q
theorem el_var {i : Nat} {p : Addr} {xs : List Str} (h : σ[i]? = some (some (.ref p))) (hp : H p = some (.lst (xs.map V.str))) : EL (tVar i) σ H xs := fun H1 s Q q => ⟨_, h, q p H1 (Same.refl _) (s _ _ hp)⟩
theorem el_cat {xs ys : List Str} (ha : EL ta σ H xs) (hb : EL tb σ H ys) (hl : xs.length + ys.length ≤ 100000) : EL (tOp rCat ta tb) σ H (xs ++ ys) := fun H1 s Q q =>
  ha H1 s _ fun p H2 s2 hp => hb H2 (s.trans s2) _ fun b H3 s3 hb3 =>
    ⟨p, b, _, _, rfl, rfl, s3 _ _ hp, hb3, by rw [List.length_map, List.length_map]; exact small5 hl, fun l hn => q l _ ((s2.trans s3).trans (Same.newA hn)) (by rw [upd_same, List.map_append])⟩
theorem el_lst {t : TA} {xs : List Str} (h : EA K t σ F H (xs.map .str)) (hl : xs.length ≤ 100000) : EL (tLst t) σ H xs := fun H1 s Q q =>
  h H1 s _ fun vs H2 s2 hv => by
    have e := strs_dps (dfs_dps hv)
    subst e
    exact ⟨by rw [List.length_map]; exact small5 hl, fun p hp => q p _ (s2.trans (Same.newA hp)) upd_same⟩
def cutW (xs : List Str) (lo hi : Option Int) : List Str := (xs.drop (HT.sIx xs.length 0 lo)).take (HT.sIx xs.length xs.length hi - HT.sIx xs.length 0 lo)
theorem cutW_map (xs : List Str) (lo hi : Option Int) : cutV (xs.map V.str) lo hi = (cutW xs lo hi).map V.str := by
  unfold cutV cutW; rw [List.length_map, List.map_take, List.map_drop]
theorem cutW_mem {xs : List Str} {lo hi : Option Int} {x : Str} (h : x ∈ cutW xs lo hi) : x ∈ xs := List.mem_of_mem_drop (List.mem_of_mem_take h)
theorem cutW_len {xs : List Str} {lo hi : Option Int} : (cutW xs lo hi).length ≤ xs.length := by
  unfold cutW; rw [List.length_take, List.length_drop]; omega
theorem el_slice {xs : List Str} {tl th : TO} {lo hi : Option Int} (h : EL te σ H xs) (hl : EO tl σ H lo) (hh : EO th σ H hi) : EL (tSl (rSlL K) te tl th) σ H (cutW xs lo hi) := fun H1 s Q q =>
  h H1 s _ fun p H2 s2 hp => hl H2 (s.trans s2) _ fun H3 s3 => hh H3 ((s.trans s2).trans s3) _ fun H4 s4 =>
    ⟨p, _, rfl, .inl (.inl (s4 _ _ (s3 _ _ hp))), fun l hn => q l _ (((s2.trans s3).trans s4).trans (Same.newA hn)) (by rw [upd_same, cutW_map])⟩
theorem el_rep2 {xs : List Str} {tb : TE} (ha : EL ta σ H xs) (hb : ED K tb σ F H (.int 2)) (hl : xs.length ≤ 50000) : EL (tOp rRep ta tb) σ H (xs ++ xs) := fun H1 s Q q =>
  ha H1 s _ fun p H2 s2 hp => hb H2 (s.trans s2) _ fun b H3 s3 hb3 => by
    cases hb3
    refine ⟨p, 2, _, rfl, rfl, s3 _ _ hp, by decide, by decide, ?_, fun l hn => q l _ ((s2.trans s3).trans (Same.newA hn)) ?_⟩
    · rw [List.length_map]; refine small5 ?_
      show xs.length * 2 ≤ _
      omega
    · rw [upd_same]
      show some (HO.lst (List.replicate 2 (xs.map V.str)).flatten) = _
      rw [List.map_append]; simp [List.replicate]
theorem el_if {t : TT} {b : Bool} {xs ys : List Str} (h : ET t σ H b) (h1 : b = true → EL ta σ H xs) (h2 : b = false → EL tb σ H ys) : EL (tIf t ta tb) σ H (if b then xs else ys) := fun H1 s Q q => h H1 s _ fun H2 s2 => by
  cases b with
  | true => exact h1 rfl H2 (s.trans s2) _ fun p H3 s3 hp => q p H3 (s2.trans s3) hp
  | false => exact h2 rfl H2 (s.trans s2) _ fun p H3 s3 hp => q p H3 (s2.trans s3) hp
end
end Ag

set_option Elab.async false
set_option linter.all false
set_option maxRecDepth 100000
set_option maxHeartbeats 1000000
/-! What stays where the pen is drawn and tables of code objects grow. -/
namespace Ag
open PySem PySem.Spec PyProof.Rows L2 LamX
/-- all but the pen and the tables is kept -/
def Kp (p : Addr) (H H' : Hp) : Prop := ∀ a o, a ≠ p → (∀ ps, o ≠ .tbl ps) → H a = some o → H' a = some o
theorem Kp.refl (p : Addr) (H : Hp) : Kp p H H := fun _ _ _ _ h => h
theorem Kp.trans {p : Addr} {H H1 H2 : Hp} (a : Kp p H H1) (b : Kp p H1 H2) : Kp p H H2 := fun x o n t h => b x o n t (a x o n t h)
theorem Kp.but {p : Addr} {H H1 : Hp} (b : But p H H1) : Kp p H H1 := fun x o n _ h => b x o n h
theorem Kp.of {p : Addr} {H H1 : Hp} (b : Same H H1) : Kp p H H1 := fun x o _ _ h => b x o h
theorem Kp.ext {p : Addr} {H H1 : Hp} (b : ExtN H H1) : Kp p H H1 := fun x o _ t h => b x o h t
section
variable {K : PySem.W.Frag} {p c : Addr} {n : Nat} {H H' : Hp}
theorem Pen.rdK {a : Addr} {u : HO} (h : Pen p c n H) (b : Kp p H H') (r : Rd H a u) (no : ∀ kvs, u ≠ .dK kvs) (nt : ∀ ps, u ≠ .tbl ps) : Rd H' a u := by
  rcases r with r | ⟨o, r⟩
  · exact .inl (b _ _ (h.ne r no) nt r)
  · exact .inr ⟨o, b _ _ (h.ne r (fun _ z => nomatch z)) (fun _ z => nomatch z) r⟩
theorem Pen.slK {a : Addr} {xs : List V} (h : Pen p c n H) (b : Kp p H H') (r : SqL K H a xs) : SqL K H' a xs := r.imp (fun z => h.rdK b z (fun _ z => nomatch z) (fun _ z => nomatch z)) id
theorem Pen.stK {a : Addr} {xs : List V} (h : Pen p c n H) (b : Kp p H H') (r : SqT K H a xs) : SqT K H' a xs := r.imp (fun z => h.rdK b z (fun _ z => nomatch z) (fun _ z => nomatch z)) id
mutual
theorem Pen.dpK (h : Pen p c n H) (b : Kp p H H') : ∀ {v : V} {d : PyData}, Dp K H v d → Dp K H' v d
  | _, _, .non => .non
  | _, _, .bl b => .bl b
  | _, _, .int i => .int i
  | _, _, .str x => .str x
  | _, _, .lst q r => .lst (h.slK b q) (Pen.dpsK h b r)
  | _, _, .tup q r => .tup (h.stK b q) (Pen.dpsK h b r)
theorem Pen.dpsK (h : Pen p c n H) (b : Kp p H H') : ∀ {vs : List V} {ds : List PyData}, DpAll K H vs ds → DpAll K H' vs ds
  | _, _, .nil => .nil
  | _, _, .cons q r => .cons (Pen.dpK h b q) (Pen.dpsK h b r)
end
theorem Pen.ext (h : Pen p c n H) (b : ExtN H H') : Pen p c n H' := by
  obtain ⟨cells, a, d, k, f, hp, hc, r⟩ := h
  refine ⟨cells, a, d, k, f, b _ _ hp (fun _ z => nomatch z), ?_, r⟩
  rcases hc with hc | ⟨o, hc⟩
  · exact .inl (b _ _ hc (fun _ z => nomatch z))
  · exact .inr ⟨o, b _ _ hc (fun _ z => nomatch z)⟩
/-- the tables stand where but the pen is changed -/
theorem tabs_but {T : List (Addr × Str)} (h : Pen p c n H) (b : But p H H') (t : Tabs T H) : Tabs T H' := fun q hq => by
  obtain ⟨ps, e, tr, co⟩ := t q hq
  refine ⟨ps, b _ _ (h.ne e (fun _ z => nomatch z)) e, tr, fun pos cv hcv => ?_⟩
  obtain ⟨cc, rfl, hc⟩ := co pos cv hcv
  exact ⟨cc, rfl, b _ _ (h.ne hc (fun _ z => nomatch z)) hc⟩
end
end Ag

set_option Elab.async false
set_option linter.all false
set_option maxRecDepth 100000
set_option maxHeartbeats 1000000
/-! Defs that are only to be run where nothing is being shown (repr of data in a helper of the law). -/
namespace Ag
open PySem PySem.Spec PyProof.Rows L2 LamX
structure FnG (P : Program) (w : World) (K : PySem.W.Frag) (mg : Str → Option Value) (base : Heap) (CX : CXT) (k : Nat) (f : Addr) (fd : FuncData) (ps : List Str) (sp : Sp) : Prop where
  len : ∀ vs H Q E, sp vs H Q E → vs.length = ps.length
  run : ∀ (A : Around) (outer : List Env) (s : Shared) (H : Hp) (us : List Value) (vs : List V) (Q : VK) (E : XK), A.guards = some [] → Room k A → Env0 P w K mg base A outer s H → BindsTo s fd ⟨us, []⟩ (ps.zip us) → Vals vs us → sp vs H Q E →
    codeAny (model P w) A (.call (.ref f) ⟨us, []⟩) (CR CX outer P w H s Q E) s
section
variable {X : Cx} {CX : CXT} {k : Nat} {f : Addr} {fd : FuncData} {ps : List Str} {sp : Sp} {E : XK} {x : Str} {e : Expr} {es : List Expr} {t : TA} {p pos : Pos}
theorem run_fnG {pins : List (Addr × Obj)} {σ : L2.St} {H : Hp} {s : Shared} {Q : VK} {us : List Value} {vs : List V} (F : FnG X.prog X.w X.K X.mg X.base CX k f fd ps sp) (hgd : X.A.guards = some []) (hr : Room k X.A) (hb : Binds X.K fd ps []) (hx : Passes CX X E)
    (I : Inv X pins σ H s) (r : Vals vs us) (h : sp vs H Q E) : wpAny (model X.prog X.w) X.A (call (.ref f) us) (EP X pins σ Q) X.xe s := by
  have hl : us.length = ps.length := by rw [← r.length]; exact F.len _ _ _ _ h
  have hb' := hb s us I.kIn (by rw [List.append_nil]; exact hl)
  rw [List.append_nil] at hb'
  refine wpAny_call (codeAny_mono (F.run X.A X.stack s H us vs Q E hgd hr I.env0 hb' r h) fun r s' hq => ?_)
  cases r with
  | error e => exact hx pins σ H s e s' I hq
  | ok fl =>
    cases fl with
    | ret u => exact I.after hq
    | next => exact False.elim hq
    | brk => exact False.elim hq
    | cont => exact False.elim hq
theorem pe_callG (F : FnG X.prog X.w X.K X.mg X.base CX k f fd ps sp) (hgd : X.A.guards = some []) (hr : Room k X.A) (hg : Gl X x) (hm : X.mg x = some (.ref f)) (hk : PySem.W.keepIn X.K (.ref f) = true) (hb : Binds X.K fd ps []) (hx : Passes CX X E)
    (ha : PA X (e :: es) t) (hdb : (x == ("__debug__" : Str)) = false := by decide) (he : starEach (e :: es) X.env = (false, eval e X.env) :: starEach es X.env := by rfl) (hpl : (backTo pos (starEach es X.env)).any (·.1) = false := by rfl) :
    PE X (.Call (.Name x p) (e :: es) [] pos) (tCall sp [] E t) := by
  refine ⟨fun pins s σ H Q I h => ?_⟩
  refine wpAny_Call_Name_kw (ld_glob I hg hm ?_ hdb)
  refine PySem.W.callWith_K (h₀ := X.base) I.ok.mod.kin hk (thn (ha.run pos pins s σ H _ I h) fun us s1 ⟨vs, H1, I1, r, q⟩ => ⟨I1.kIn, ?_⟩) he hpl
  have q : sp (vs ++ []) H1 Q E := q
  rw [List.append_nil] at q
  exact run_fnG F hgd hr hb hx I1 r q
end
/-- a def that lets nothing out, whose code object is to be known, run where nothing is being shown -/
theorem okG {P : Program} {w : World} {K : PySem.W.Frag} {mg : Str → Option Value} {base : Heap} {x qual : Str} {st : Stmt} {f : Addr} {fd : FuncData} {N ps : List Str} {k : Nat} {sp : Sp} (F : Fun K x qual st f fd) (S : FnScope N ps (defScope st)) (len : ∀ vs H Q E, sp vs H Q E → vs.length = ps.length)
    (hbody : ∀ (A : Around) (outer : List Env) (s : Shared) (H : Hp) (vs : List V) (Q : VK) (E : XK), A.guards = some [] → Room k (A.deeper (envOfC qual (defScope st) s.heap.objs.size f fd.code)) → sp vs H Q E →
      ∃ t, PSs (cxOf CX0 P w K mg base N qual (defScope st) f fd.code A outer s H E) (defBody st) t ∧ t { nx := fun _ H' => Q .non H', rt := Q } (start N vs) H) : FnG P w K mg base CX0 (k + 1) f fd ps sp := by
  obtain ⟨_, _, _, _, _, _, _, _, _, rfl, lk, hcd⟩ := F.ex
  refine ⟨len, fun A outer s H us vs Q E hgd hr e0 hb r hsp => ?_⟩
  exact run_ofS (N := N) lk hcd S hr e0 hb r (len _ _ _ _ hsp) fun hr' => hbody A outer s H vs Q E hgd hr' hsp
end Ag

set_option Elab.async false
set_option linter.all false
set_option maxRecDepth 100000
set_option maxHeartbeats 1000000
set_option pp.maxSteps 300
/-! Short ways through readings: values, pairs of arguments, loops. -/
namespace Ag
open PySem PySem.Spec PyProof.Rows L2 LamX
theorem ite2 {c : Prop} [Decidable c] {A B : Prop} (h1 : c → A) (h2 : ¬ c → B) : if c then A else B := by
  by_cases h : c
  · rw [if_pos h]; exact h1 h
  · rw [if_neg h]; exact h2 h
section
variable {K : PySem.W.Frag} {σ : L2.St} {F : Addr → Prop} {H : Hp} {te ta tb : TE} {d e : PyData}
theorem dfs_ints : ∀ (xs : List Int), DfAll K F H (xs.map V.int) (xs.map .int)
  | [] => .nil
  | x :: xs => .cons (.int x) (dfs_ints xs)
theorem ed_val {v : V} (hd : Df K F H v d) : ED K (tC v) σ F H d := fun H1 s Q q => q v H1 (Same.refl _) (df_mono s Fr.base hd)
theorem run_edc {tr : TA} {Q : List V → Hp → Prop} (h : ED K te σ F H d) (k : ∀ v H1, Same H H1 → Df K (Fr F H) H1 v d → tr σ H1 fun vs H2 => Q (v :: vs) H2) : tCons te tr σ H Q := h H (Same.refl _) _ k
theorem run_catT {v y : V} {xs ys : List PyData} {Q : VK} (hv : Df K F H v (.tuple xs)) (hy : Df K F H y (.tuple ys)) (hl : xs.length + ys.length ≤ 100000) (k : ∀ z H1, Same H H1 → Df K (Fr F H) H1 z (.tuple (xs ++ ys)) → Q z H1) : rCatA K v y H Q :=
  ed_catT (σ := []) (ed_val hv) (ed_val hy) hl H (Same.refl _) Q k
theorem run_el1 {xs : List Str} {tr : TA} {Q : List V → Hp → Prop} (h : EL te σ H xs) (k : ∀ p H1, Same H H1 → H1 p = some (.lst (xs.map V.str)) → tr σ H1 fun vs H2 => Q (V.ref p :: vs) H2) : tCons te tr σ H Q := h H (Same.refl _) _ k
/-- while, and what follows -/
theorem run_while {c : TT} {tb tz : TS} {D : Ends} {W : Nat → L2.St → Hp → Prop} {m0 : Nat} (h0 : W m0 σ H)
    (hs : ∀ m σ H, W m σ H → ∃ b, ET c σ H b ∧ (b = true → ∀ H1, Same H H1 → ∃ N : L2.St → Hp → Prop, (∀ σ' H', N σ' H' → ∃ m', m' < m ∧ W m' σ' H') ∧ tb { D with nx := N, ct := N, bk := tz D } σ H1) ∧ (b = false → ∀ H1, Same H H1 → tz D σ H1)) :
    tSeq (tWhile c tb) tz D σ H := ⟨W, ⟨m0, h0⟩, fun m σ H w => by
  obtain ⟨b, hc, h1, h2⟩ := hs m σ H w
  refine hc H (Same.refl _) _ fun H2 s2 => ?_
  cases b with
  | true => exact h1 rfl H2 s2
  | false => exact h2 rfl H2 s2⟩
end
theorem lt_int {a b : Nat} : decide ((a : Int) < (b : Int)) = decide (a < b) := by
  by_cases h : a < b
  · rw [decide_eq_true h, decide_eq_true (by omega)]
  · rw [decide_eq_false h, decide_eq_false (by omega)]
theorem take_snoc {α : Type} {l : List α} {j : Nat} {x : α} (h : l[j]? = some x) : l.take (j + 1) = l.take j ++ [x] := by rw [List.take_succ, h]; rfl
theorem zip_get {α β : Type} {xs : List α} {ys : List β} {j : Nat} {x : α} {y : β} (h1 : xs[j]? = some x) (h2 : ys[j]? = some y) : (xs.zip ys)[j]? = some (x, y) := by
  rw [List.getElem?_zip_eq_some]; exact ⟨h1, h2⟩
theorem str_at {xs : List Str} {j : Nat} {v : V} (h : (xs.map V.str)[j]? = some v) : ∃ s, xs[j]? = some s ∧ v = .str s := by
  rw [List.getElem?_map] at h
  cases e : xs[j]? with
  | none => rw [e] at h; cases h
  | some s => rw [e] at h; exact ⟨s, rfl, (Option.some.inj h).symm⟩
theorem int_at {xs : List Int} {j : Nat} {v : V} (h : (xs.map V.int)[j]? = some v) : ∃ s, xs[j]? = some s ∧ v = .int s := by
  rw [List.getElem?_map] at h
  cases e : xs[j]? with
  | none => rw [e] at h; cases h
  | some s => rw [e] at h; exact ⟨s, rfl, (Option.some.inj h).symm⟩
theorem sqt_upd {K : PySem.W.Frag} {H : Hp} {D a : Addr} {u o : HO} {xs : List V} (hD : H D = some u) (n1 : ∀ zs, u ≠ .tup zs) (n2 : ∀ x zs, u ≠ .frz x (.tup zs)) (h : SqT K H a xs) : SqT K (upd H D o) a xs := h.imp (fun z => rd_other z fun e => by
  subst e
  rcases z with z | ⟨x, z⟩
  · rw [hD] at z; exact n1 _ (Option.some.inj z)
  · rw [hD] at z; exact n2 _ _ (Option.some.inj z)) id
end Ag

set_option Elab.async false
set_option linter.all false
set_option maxRecDepth 100000
set_option maxHeartbeats 1000000
/-! What is a list or a tuple: asked for its kind, walked, sliced. -/
namespace Ag
open PySem PySem.Spec PyProof.Rows L2
def iVE (K : PySem.W.Frag) (i : Nat) : TI := fun σ H R => ∃ a, σ[i]? = some (some (.ref a)) ∧ (((∃ xs, SqL K H a xs) ∧ R (Itl K a) H) ∨ ((∃ xs, SqT K H a xs) ∧ R (Itt K a) H))
theorem pi_ve {X : Cx} {tg e : Expr} {i : Nat} (h : PE X e (tVar i)) : PI X tg e (iVE X.K i) := ⟨fun pins s σ H R I ⟨a, h1, h2⟩ => by
  rcases h2 with ⟨l, r⟩ | ⟨l, r⟩
  · exact (pi_list h).run pins s σ H R I ⟨_, h1, a, rfl, l, r⟩
  · exact (pi_tup h).run pins s σ H R I ⟨_, h1, a, rfl, l, r⟩⟩
section
variable {K : PySem.W.Frag} {σ : L2.St} {F : Addr → Prop} {H : Hp} {te ta : TE} {d : PyData} {ds : List PyData}
theorem ei_ve {i : Nat} {v : V} (h : σ[i]? = some (some v)) (hd : Df K F H v d) (he : d = .list ds ∨ d = .tuple ds) : EI K (iVE K i) σ F H ds := fun H1 s R q => by
  have hd1 := df_mono (G := Fr F H1) s (fun _ z => .inl z) hd
  rcases he with rfl | rfl
  · cases hd1 with
    | lst hs r => exact ⟨_, h, .inl ⟨⟨_, hs.imp (fun z => z.1) id⟩, q _ H1 (Same.refl _) (wk_list hs r)⟩⟩
  · cases hd1 with
    | tup hs r => exact ⟨_, h, .inr ⟨⟨_, hs⟩, q _ H1 (Same.refl _) (wk_tup hs r)⟩⟩
/-- isinstance(x, (tuple, list)) -/
theorem ed_isiTL (ha : ED K ta σ F H d) : ED K (tCB (rIsiT K) (tCons ta (tCons (tTup (tCons (tC (.ty "tuple")) (tCons (tC (.ty "list")) tNil))) tNil))) σ F H (.bool (isiB "tuple" d || isiB "list" d)) := fun H1 s Q q =>
  ha H1 s _ fun x H2 s2 hx => ⟨(by show 2 ≤ sizeLine; decide), fun p hp => by
    have hx3 := df_mono (G := Fr F H1) (Same.newA (o := .tup [.ty "tuple", .ty "list"]) hp) (fun _ z => z) hx
    refine ⟨x, p, _, .type (tyName d), [.type "tuple", .type "list"], _, rfl, upd_same, .cons (.ty _) (.cons (.ty _) .nil), tyx_of (df_dp hx3), ?_, q _ _ (s2.trans (Same.newA hp)) (.bl _)⟩
    have h1 := kit_all (T := "tuple") (.inr (.inl rfl)) (df_dp hx3)
    have h2 := kit_all (T := "list") (.inr (.inr (.inl rfl))) (df_dp hx3)
    unfold PySem.W.kitAny
    rw [h1]
    cases isiB "tuple" d with
    | true => rfl
    | false =>
      unfold PySem.W.kitAny
      rw [h2]
      cases isiB "list" d <;> rfl⟩
end
end Ag

set_option Elab.async false
set_option linter.all false
set_option maxRecDepth 100000
set_option maxHeartbeats 1000000
/-! What is a list or a tuple: slices, zip of lists. -/
namespace Ag
open PySem PySem.Spec PyProof.Rows L2
def rSlE (K : PySem.W.Frag) : V → Option Int → Option Int → Hp → VK → Prop := fun x lo hi H Q => rSlL K x lo hi H Q ∨ rSlA K x lo hi H Q
theorem sl_either {X : Cx} : SlR X (rSlE X.K) := sl_list.or sl_tupA
/-- the same kind, some of its parts -/
def likeD (d : PyData) (ds : List PyData) : PyData := match d with | .list _ => .list ds | _ => .tuple ds
section
variable {K : PySem.W.Frag} {σ : L2.St} {F : Addr → Prop} {H : Hp} {te : TE} {d : PyData} {ds : List PyData}
theorem ed_slE {tl th : TO} {lo hi : Option Int} (h : ED K te σ F H d) (he : d = .list ds ∨ d = .tuple ds) (hl : EO tl σ H lo) (hh : EO th σ H hi) : ED K (tSl (rSlE K) te tl th) σ F H (likeD d (cutD ds lo hi)) := by
  rcases he with rfl | rfl
  · exact fun H1 s Q q => h H1 s _ fun v H2 s2 hv => hl H2 (s.trans s2) _ fun H3 s3 => hh H3 ((s.trans s2).trans s3) _ fun H4 s4 => by
      cases hv with
      | lst ht r =>
        have s34 := s3.trans s4
        have s24 := s2.trans s34
        refine .inl ⟨_, _, rfl, s34.slA (ht.imp (fun z => z.1) id), fun p hp => ?_⟩
        exact q _ _ (s24.trans (Same.newA hp)) (.lst (.inl ⟨.inl upd_same, .inr (s24.freshA hp)⟩) (dfs_mono (s34.trans (Same.newA hp)) (fun _ z => z) (dfs_cut r)))
  · exact fun H1 s Q q => h H1 s _ fun v H2 s2 hv => hl H2 (s.trans s2) _ fun H3 s3 => hh H3 ((s.trans s2).trans s3) _ fun H4 s4 => by
      cases hv with
      | tup ht r =>
        have s34 := s3.trans s4
        have s24 := s2.trans s34
        refine .inr ⟨_, _, rfl, s34.stA ht, fun z => ?_, fun _ p hp => ?_⟩
        · rw [dfs_len r] at z
          exact q _ _ s24 (by rw [cutD_all z]; exact .tup (s34.stA ht) (dfs_mono s34 (fun _ z => z) r))
        · exact q _ _ (s24.trans (Same.newA hp)) (.tup (.of upd_same) (dfs_mono (s34.trans (Same.newA hp)) (fun _ z => z) (dfs_cut r)))
theorem ei_zipL {ta : TA} {xs ys : List PyData} (h : EA K ta σ F H [.list xs, .list ys]) : EI K (RZ.iZipA K ta) σ F H (zipD xs ys) := fun H1 s R q => h H1 s _ fun vs H2 s2 hv => by
  cases hv with
  | cons a r =>
    cases r with
    | cons b r =>
      cases r
      cases a with
      | lst ha ra =>
        cases b with
        | lst hb rb =>
          refine ⟨_, _, _, _, rfl, .inl ⟨ha.imp (fun z => z.1) id, hb.imp (fun z => z.1) id, q _ H2 s2 ⟨fun i H' s3 hi => ?_, fun H' s3 => ?_, fun i H' y H'' _ s3 z => ?_⟩⟩⟩
          · have hi' : i < xs.length ∧ i < ys.length := by
              unfold zipD at hi; rw [List.length_zipWith] at hi; omega
            obtain ⟨v, e, _⟩ := dfs_get ra (List.getElem?_eq_getElem hi'.1)
            obtain ⟨v2, e2, _⟩ := dfs_get rb (List.getElem?_eq_getElem hi'.2)
            exact ⟨_, _, v, v2, slF s3 ha, slF s3 hb, e, e2⟩
          · refine ⟨_, _, slF s3 ha, slF s3 hb, ?_⟩
            unfold zipD; rw [List.length_zipWith, dfs_len ra, dfs_len rb]; omega
          · obtain ⟨T, x, x2, rfl, hT, rfl, e1, e2⟩ := z
            obtain ⟨d, q1, hd⟩ := dfs_get' (dfs_in ra) (e1 _ (slF s3 ha))
            obtain ⟨d2, q2, hd2⟩ := dfs_get' (dfs_in rb) (e2 _ (slF s3 hb))
            refine ⟨.tuple [d, d2], ?_, Same.newA hT, .tup (.of upd_same) (.cons (df_mono (Same.newA hT) (fun _ z => z) (df_monoF (s3.sub fun _ z => z.1) hd)) (.cons (df_mono (Same.newA hT) (fun _ z => z) (df_monoF (s3.sub fun _ z => z.1) hd2)) .nil))⟩
            unfold zipD; rw [List.getElem?_zipWith, q1, q2]
end
end Ag

set_option Elab.async false
set_option linter.all false
set_option maxRecDepth 100000
set_option maxHeartbeats 1000000
set_option pp.maxSteps 300
/-! A tuple whose very object is known: its methods. -/
namespace Ag
open PySem PySem.Spec PyProof.Rows L2
/-- a tuple without a dict -/
def FzT (H : Hp) (a : Addr) (xs : List V) : Prop := ∃ o : Obj, H a = some (.frz o (.tup xs)) ∧ o.dict = none
theorem FzT.st {K : PySem.W.Frag} {H : Hp} {a : Addr} {xs : List V} (h : FzT H a xs) : SqT K H a xs := let ⟨o, e, _⟩ := h; .inl (.inr ⟨o, e⟩)
theorem FzT.same {H H' : Hp} {a : Addr} {xs : List V} (s : Same H H') (h : FzT H a xs) : FzT H' a xs := let ⟨o, e, d⟩ := h; ⟨o, s _ _ e, d⟩
/-- tuple(list) -/
def rTupF (K : PySem.W.Frag) : List V → Hp → VK → Prop := fun xs H Q => ∃ p ys, xs = [.ref p] ∧ SqL K H p ys ∧ ∀ l o, H l = none → o.dict = none → Q (.ref l) (upd H l (.frz o (.tup ys)))
theorem call_tupleF {X : Cx} : CallR X (.type "tuple") (rTupF X.K) := by
  intro pins s σ H xs us Q I r h
  obtain ⟨p, ys, rfl, hq, q⟩ := h
  obtain ⟨u, rfl, rx⟩ := r.one
  cases rx
  obtain ⟨its, rv, pl, hz⟩ := I.list hq
  have ln := rv.length
  refine call_tuple_list pl.isList (fun h' kp => ?_) (by simp only [List.size_toArray]; omega)
  have I1 : Inv X pins σ H { s with heap := h' } := I.kept (t' := s.toks) kp
  have I2 : Inv X pins σ (upd H h'.objs.size (.frz { cls := .type "tuple", data := .seq its.toArray } (.tup ys))) { s with heap := h'.push { cls := .type "tuple", data := .seq its.toArray } } :=
    I1.laid (t' := s.toks) (fun b o e => Heap.get?_push_of_some _ e) (Nat.le_refl _) ⟨Heap.get?_push_size _ rfl, hz, its, rv, IsTup.new _ _⟩
  exact ⟨.ref h'.objs.size, _, I2, rfl, q _ _ (I1.hok.fresh (Nat.le_refl _)) rfl⟩
def tBMT (r : V → List V → Hp → VK → Prop) (to : TE) (t : TA) : TE := fun σ H Q => to σ H fun x H1 => (∃ a xs, x = .ref a ∧ FzT H1 a xs) ∧ t σ H1 fun vs H2 => r x vs H2 Q
theorem pe_bmT {X : Cx} {name : Str} {id : String} {r : V → List V → Hp → VK → Prop} {o e : Expr} {es : List Expr} {to : TE} {t : TA} {apos cpos : Pos} (slot : Slot "tuple" name id) (hty : typeOf (.builtin id) = pure (.type "method_descriptor")) (hm : MtR X id r) (ho : PE X o to) (ha : PA X (e :: es) t)
    (b0 : attributeBase o name X.env (eval o X.env) = eval o X.env := by rfl) (f0 : ((backTo cpos (starEach (e :: es) X.env)).all (fun x => !x.1) && (backToKw cpos (keywordEach [] X.env)).all (fun x => x.1.isSome) && decide ((e :: es).length + ([] : List Keyword).length + (if ([] : List Keyword).isEmpty then 0 else 1) < 30)) = true := by rfl) (l0 : (apos.endLine == cpos.line) = true := by rfl) (t0 : starEach (e :: es) X.env = (false, eval e X.env) :: starEach es X.env := by rfl) (p0 : (backTo cpos (starEach es X.env)).any (·.1) = false := by rfl) :
    PE X (.Call (.Attribute o name apos) (e :: es) [] cpos) (tBMT r to t) := by
  refine ⟨fun pins s σ H Q I h => wpAny_Call_method_late b0 f0 l0 rfl (thn (ho.run pins s σ H _ I h) fun v z ⟨x, H1, I1, rx, ⟨a, xs, ex, ob, ea, ed⟩, q1⟩ => ?_)⟩
  subst ex
  obtain rfl : v = Value.ref a := rx
  obtain ⟨g, _, its, _, o2, g2, cl, _⟩ := (show ObjOk X.prog X.w H1 z.heap a (.frz ob (.tup xs)) from I1.hok a _ ea)
  refine ⟨"tuple", id, PySem.F.plainAttrs_tuple, slot, hty, ⟨o2, g2, cl⟩, fun b eb => ?_, ?_⟩
  · cases eb; exact ⟨ob, g, ed⟩
  have hA := ha.run cpos pins z σ H1 _ I1 q1
  rw [t0] at hA ⊢
  refine Calls.callWith_builtin (by show (false || (backTo cpos (starEach es X.env)).any (·.1)) = false; rw [p0]; rfl) (Calls.evalArgs_plain (thn hA fun us s2 ⟨vs, H2, I2, r2, q2⟩ => hm pins s2 σ H2 (.ref a) vs (.ref a) us Q I2 rfl r2 q2))
end Ag

set_option Elab.async false
set_option linter.all false
set_option maxRecDepth 100000
set_option maxHeartbeats 4000000
/-! set(tuple of texts). -/
namespace Ag
open PySem PySem.Spec PyProof.Rows L2
section
variable {P : Program} {w : World} {A : Around} {E : Value → Shared → Prop}
set_option maxHeartbeats 4000000 in
theorem set_of_strsT {s : Shared} {l : Addr} {items : Array Value} {xs : List Str} {Q : Value → Shared → Prop} (hh : A.handled = none) (hl : s.heap.IsTuple l items) (hi : StrsAre items.toList xs) (hb : xs.length + 1 < scanBound)
    (hQ : ∀ (h' : Heap) (tk : Nat) S m, SetAtG (PySem.strKind P w) h' s.heap.objs.size S m → m ≤ xs.length → (∀ k, S k = true ↔ k ∈ xs) → (∀ b o, s.heap.get? b = some o → h'.get? b = some o) → Q (.ref s.heap.objs.size) { s with heap := h', toks := tk }) :
    wpAny (model P w) A (call (.type "set") [.ref l]) Q E s := by
  have isz : items.size = xs.length := by rw [← StrsAre.len_eq hi, Array.length_toList]
  obtain ⟨c, tl, hmro⟩ := F.called_set.mro
  have hmade := F.called_set.made
  have hsub := F.called_set.sub
  refine wpAny_call (codeAny_of_tree ?_)
  show wpAny _ _ (callAny (.type "set") _) _ _ _
  refine wpAny_pure ⟨Code.quiet_builtin _ (by decide +kernel), codeAny_builtin F.entry_type_call ?_⟩
  rw [Around.under_plain (weight_type_call_type "set" [.ref l] []) rfl]
  have h1 := F.called_set.notType
  have h2 := F.called_set.canCreate
  have hct := F.typeCall_set_1 (.ref l)
  repeat (any_goals (first | assumption | wp_step))
  refine codeAny_mono (code_set_led1 (.ref l) (E := E) (Q₁ := fun obj s₁ => obj = .ref s.heap.objs.size ∧ s₁ = { s with heap := s.heap.push ({ cls := .type "set", dict := none, data := .set #[] 0 (.fresh 0 0 (!w.params.followText "set-order")) } : Obj) }) ⟨rfl, rfl⟩) fun r s₁ hr => ?_
  cases r with
  | error e => exact hr
  | ok fl =>
    cases fl with
    | ret obj =>
      obtain ⟨rfl, rfl⟩ := hr
      have hS : (s.heap.push ({ cls := .type "set", dict := none, data := .set #[] 0 (.fresh 0 0 (!w.params.followText "set-order")) } : Obj)).get? s.heap.objs.size = some ({ cls := .type "set", dict := none, data := .set #[] 0 (.fresh 0 0 (!w.params.followText "set-order")) } : Obj) := Heap.get?_push_size _ rfl
      have hT : Shared.TypeIs { s with heap := s.heap.push ({ cls := .type "set", dict := none, data := .set #[] 0 (.fresh 0 0 (!w.params.followText "set-order")) } : Obj) } (.ref s.heap.objs.size) "set" := ⟨_, hS, rfl⟩
      have hli := F.called_set.init.lookup
      have hbi := F.called_set.init.bind (.ref s.heap.objs.size)
      repeat (any_goals (first | assumption | wp_step))
      refine codeAny_mono (codeAny_call_builtin (R := wants (fun r s₂ => r = .none ∧ ∃ h' tk S m, s₂ = { s with heap := h', toks := tk } ∧ SetAtG (PySem.strKind P w) h' s.heap.objs.size S m ∧ m ≤ xs.length ∧ (∀ k, S k = true ↔ k ∈ xs) ∧
          (∀ b o, s.heap.get? b = some o → h'.get? b = some o)) E) F.called_set.init.plain F.entry_set_init (check_set_init_1 hT ?_)) fun r₂ s₂ hr₂ => ?_
      · obtain ⟨ol, hol, hcl, nl, hdl⟩ := hl
        obtain ⟨ocls, odict, odata, oslots⟩ := ol
        simp only at hcl hdl
        subst hcl; subst hdl
        have hol1 : (s.heap.push ({ cls := .type "set", dict := none, data := .set #[] 0 (.fresh 0 0 (!w.params.followText "set-order")) } : Obj)).get? l = some { cls := .type "tuple", dict := odict, data := .seq items nl, slots := oslots } := Heap.get?_push_of_some _ hol
        have hsls := F.sub_tuple_set
        have hslf := F.sub_tuple_frozenset
        have hne : (Value.type "tuple" == Value.type "dict") = false := by decide
        have hl1 : (s.heap.push ({ cls := .type "set", dict := none, data := .set #[] 0 (.fresh 0 0 (!w.params.followText "set-order")) } : Obj)).IsTuple l items := ⟨_, hol1, rfl, nl, rfl⟩
        unfold Builtin.«set.__init__» noKeywords Builtin.Frozenset.updateFrom
        generalize hPI : pyIter = PI
        wp_walk
        subst hPI
        refine wpAny_pyIter_tuple hl1 ?_
        refine wpAny_bind (wpAny_runValue ?_)
        have llt : l < s.heap.objs.size := Heap.lt_size hol
        have hh3 : A.in1.in1.in1.handled = none := by simp [hh]
        have z1 : (s.heap.push ({ cls := .type "set", dict := none, data := .set #[] 0 (.fresh 0 0 (!w.params.followText "set-order")) } : Obj)).objs.size = s.heap.objs.size + 1 := Heap.size_push ..
        have ne1 : l ≠ (s.heap.push ({ cls := .type "set", dict := none, data := .set #[] 0 (.fresh 0 0 (!w.params.followText "set-order")) } : Obj)).objs.size := by rw [z1]; exact Nat.ne_of_lt (Nat.lt_succ_of_lt llt)
        have hnf : s.heap.objs.size ∉ [(s.heap.push ({ cls := .type "set", dict := none, data := .set #[] 0 (.fresh 0 0 (!w.params.followText "set-order")) } : Obj)).objs.size, l] := by
          rw [z1]; intro z
          rcases List.mem_cons.mp z with z | z
          · exact Nat.ne_of_lt (Nat.lt_succ_self _) z
          · exact Nat.ne_of_gt llt (List.mem_singleton.mp z)
        have hval : ∀ (i : Nat) (v : Value), items[i]? = some v → ∃ x t, xs[i]? = some x ∧ v = .str x t := fun i v q => by
          have q2 : items.toList[i]? = some v := by rw [Array.getElem?_toList]; exact q
          obtain ⟨t, e⟩ := SS.strs_at hi i v q2
          have il : i < xs.length := by rw [← isz, ← Array.length_toList]; exact (List.getElem?_eq_some_iff.mp q2).1
          refine ⟨_, t, ?_, e⟩
          rw [List.getD_eq_getElem?_getD, List.getElem?_eq_getElem il]; rfl
        refine upd_loop ((Walks.tuple hh3 _ l ne1 items).toS) s.heap.objs.size hnf xs isz hb hval (items.size - 0) 0 _ (by omega) (Nat.zero_le _)
          ⟨⟨_, Heap.get?_push_size _ rfl, rfl, rfl⟩, (hl1.push _)⟩ ⟨_, 0, SetAtG.fresh (kd := PySem.strKind P w) (Heap.get?_push_of_some _ hS), Nat.le_refl _, fun k => (by simp)⟩ fun s' S m mv hS' hm hk => ?_
        obtain ⟨h', g2, d', tk', os'⟩ := s'
        have eg : g2 = s.gens := mv.gens
        have ed : d' = s.drawn := mv.drawn
        have eo : os' = s.os := mv.os
        subst eg; subst ed; subst eo
        show wpAny _ _ _ _ _ _
        refine wpAny_pure ?_
        show wpAny _ _ (ret Value.none) _ _ _
        refine wpAny_pure ⟨rfl, h', tk', S, m, rfl, hS', by rw [← isz]; exact hm, hk, fun b o e => mv.heap b o (fun z => ?_) (Heap.get?_push_of_some _ (Heap.get?_push_of_some _ e))⟩
        have lb := Heap.lt_size e
        rcases List.mem_cons.mp z with z | z
        · exact Nat.ne_of_lt lb z
        · exact Nat.ne_of_lt (Nat.lt_succ_of_lt lb) ((List.mem_singleton.mp z).trans z1)
      · cases r₂ with
        | error e => exact hr₂
        | ok fl₂ =>
          cases fl₂ with
          | ret r =>
            obtain ⟨rfl, h', tk, S, m, rfl, hS', hm, hk, kp⟩ := hr₂
            repeat (any_goals (first | assumption | wp_step))
            exact hQ _ _ _ _ hS' hm hk kp
          | _ => exact hr₂.elim
    | _ => exact hr.elim
end

def rSetT (K : PySem.W.Frag) (P : Program) (w : World) : List V → Hp → VK → Prop := fun vs H Q => ∃ (a : Addr) (xs : List Str), vs = [V.ref a] ∧ SqT K H a (xs.map V.str) ∧ xs.length < 4000 ∧ ∀ p, H p = none → Q (.ref p) (upd H p (StrSet P w p xs))
theorem cr_setT {X : Cx} (hc : X.calm = true) : CallR X (.type "set") (rSetT X.K X.prog X.w) := by
  intro pins s σ H vs us Q I r h
  obtain ⟨a, xs, rfl, hs, hb, q⟩ := h
  obtain ⟨its, rv, hl, _⟩ := I.tuple hs
  rw [Vals.ref1 r]
  have hn : H s.heap.objs.size = none := I.hok.fresh (Nat.le_refl _)
  refine set_of_strsT (P := X.prog) (w := X.w) (I.ok.hd hc) hl rv.strs (by unfold scanBound; omega) fun h' tk S m hS hm hk kp => ?_
  refine ⟨.ref s.heap.objs.size, upd H s.heap.objs.size (StrSet X.prog X.w s.heap.objs.size xs), I.laid (t' := tk) kp (Nat.le_refl _) ?_, rfl, q _ hn⟩
  refine ⟨⟨S, m, hS, hm, hk⟩, ?_, ?_⟩
  · obtain ⟨o, es, ep, t, R⟩ := hS
    exact ⟨o, R.at_⟩
  · rintro h1 h2 ⟨S, m, hS, hm, hk⟩ e
    exact ⟨S, m, hS.keep e, hm, hk⟩
end Ag

set_option Elab.async false
set_option linter.all false
set_option maxRecDepth 100000
set_option maxHeartbeats 1000000
set_option pp.maxSteps 300
/-! What is shown of data is of plain signs. -/
namespace Ag
open PySem PySem.Spec PyProof.Rows L2 Builtin.Str
def Asc (x : Str) : Prop := ∀ c ∈ x.cps.toList, c < 128
theorem asc_app {x y : Str} (h : Asc x) (k : Asc y) : Asc (x ++ y) := fun c hc => by
  rw [show (x ++ y).cps.toList = x.cps.toList ++ y.cps.toList from TL.tl_append x y] at hc
  exact (List.mem_append.mp hc).elim (h c) (k c)
theorem asc_join {s : Str} (hs : Asc s) : ∀ {xs : List Str}, (∀ x ∈ xs, Asc x) → Asc (Str.join s xs)
  | [], _ => fun c hc => absurd hc List.not_mem_nil
  | [x], h => h x List.mem_cons_self
  | x :: y :: r, h => by
    have e : Str.join s (x :: y :: r) = x ++ s ++ Str.join s (y :: r) := rfl
    rw [e]
    exact asc_app (asc_app (h x List.mem_cons_self) hs) (asc_join hs (xs := y :: r) fun z hz => h z (List.mem_cons_of_mem _ hz))
def ascB (x : Str) : Bool := x.cps.toList.all fun c => decide (c < 128)
theorem asc_of {x : Str} (h : ascB x = true) : Asc x := fun c hc => of_decide_eq_true (List.all_eq_true.mp h c hc)
theorem asc_sep : Asc (", " : Str) := asc_of (by decide +kernel)
theorem asc_textFrom : ∀ (ts : List Str) (k : Nat) (acc : Str), Asc acc → (∀ t ∈ ts, Asc t) → Asc (textFrom k acc ts)
  | [], _, _, h, _ => h
  | t :: ts, k, acc, h, ht => by
    refine asc_textFrom ts (k + 1) _ (asc_app (asc_app h ?_) (ht t List.mem_cons_self)) fun x hx => ht x (List.mem_cons_of_mem _ hx)
    by_cases z : k > 0
    · rw [if_pos z]; exact asc_sep
    · rw [if_neg z]; exact asc_of (by decide +kernel)
theorem repr_char : ∀ c, c < 128 → ∀ q, q = 34 ∨ q = 39 → ∀ y ∈ reprChar q c, y < 128 := by
  have h : ∀ c, c < 128 → (reprChar 34 c).all (fun y => decide (y < 128)) = true ∧ (reprChar 39 c).all (fun y => decide (y < 128)) = true := by decide +kernel
  rintro c hc q (rfl | rfl) y hy
  · exact of_decide_eq_true (List.all_eq_true.mp (h c hc).1 y hy)
  · exact of_decide_eq_true (List.all_eq_true.mp (h c hc).2 y hy)
theorem quote_or (x : Str) : reprQuote x = 34 ∨ reprQuote x = 39 := by
  unfold reprQuote; split <;> first | exact .inl rfl | exact .inr rfl
theorem asc_fold (q : Nat) (hq : q = 34 ∨ q = 39) : ∀ (l : List Nat) (acc : Array Nat), (∀ c ∈ l, c < 128) → (∀ c ∈ acc.toList, c < 128) → ∀ c ∈ (l.foldl (fun out c => out ++ (reprChar q c).toArray) acc).toList, c < 128
  | [], _, _, h => h
  | c :: l, acc, hl, h => asc_fold q hq l _ (fun z hz => hl z (List.mem_cons_of_mem _ hz)) fun z hz => by
    rw [Array.toList_append] at hz
    exact (List.mem_append.mp hz).elim (h z) (repr_char c (hl c List.mem_cons_self) q hq z)
theorem asc_repr {x : Str} (h : Asc x) : Asc (reprText x) := fun c hc => by
  unfold reprText at hc
  have hc : c ∈ ((x.cps.foldl (fun out c => out ++ (reprChar (reprQuote x) c).toArray) #[reprQuote x]).push (reprQuote x)).toList := hc
  have q128 : reprQuote x < 128 := by rcases quote_or x with e | e <;> rw [e] <;> decide
  rw [Array.toList_push, ← Array.foldl_toList] at hc
  rcases List.mem_append.mp hc with hc | hc
  · exact asc_fold _ (quote_or x) _ _ h (fun z hz => by
      have hz : z ∈ [reprQuote x] := hz
      rw [List.mem_singleton.mp hz]; exact q128) c hc
  · rw [List.mem_singleton.mp hc]; exact q128
theorem asc_all : ∀ {ds : List PyData}, (∀ d ∈ ds, Asc d.shown) → ∀ t ∈ PyData.shownAll ds, Asc t
  | [], _, t, ht => by simp [PyData.shownAll] at ht
  | d :: ds, h, t, ht => by
    have e : PyData.shownAll (d :: ds) = d.shown :: PyData.shownAll ds := by simp only [PyData.shownAll]
    rw [e] at ht
    rcases List.mem_cons.mp ht with rfl | ht
    · exact h d List.mem_cons_self
    · exact asc_all (fun x hx => h x (List.mem_cons_of_mem _ hx)) t ht
theorem asc_tup {ds : List PyData} (h : ∀ d ∈ ds, Asc d.shown) : Asc (PyData.tuple ds).shown := by
  rw [PyData.shown]
  unfold tupleText
  refine asc_app (asc_app (asc_of (by decide +kernel)) (asc_join asc_sep (asc_all h))) ?_
  split <;> exact asc_of (by decide +kernel)
theorem asc_lst {ds : List PyData} (h : ∀ d ∈ ds, Asc d.shown) : Asc (PyData.list ds).shown := by
  rw [PyData.shown]
  unfold listText
  exact asc_app (asc_textFrom _ _ _ (asc_of (by decide +kernel)) (asc_all h)) (asc_of (by decide +kernel))
theorem asc_str {x : Str} (h : Asc x) : Asc (PyData.str x).shown := by rw [PyData.shown]; exact asc_repr h
theorem asc_bool (b : Bool) : Asc (PyData.bool b).shown := by cases b <;> exact asc_of (by decide +kernel)
theorem asc_none : Asc PyData.none.shown := asc_of (by decide +kernel)
/-- a list of three texts told -/
theorem told_shaped {a b x : Str} (ha : Asc a) (hb : Asc b) (h : Asc x) : SeqAt.shaped (.list [.str a, .str b, .str x]) = true := by
  have cv : ∀ {y : Str}, Asc y → (y.cps.all (· < 0x110000)) = true := fun {y} hy => Array.all_eq_true_iff_forall_mem.mpr fun c hc => decide_eq_true (by have := hy c (Array.mem_toList_iff.mpr hc); omega)
  have la : (PyData.list [.str a, .str b, .str x]).canLay0 = true := by
    simp only [PyData.canLay0, PyData.canLayAll0, Bool.and_eq_true, Bool.and_true]
    exact ⟨cv ha, cv hb, cv h⟩
  have d : (PyData.list [.str a, .str b, .str x]).depth ≤ 64 := by
    simp only [PyData.depth, PyData.depthAll]; exact Nat.le_of_ble_eq_true rfl
  unfold SeqAt.shaped
  rw [la, decide_eq_true d]; rfl
end Ag

set_option Elab.async false
set_option linter.all false
set_option maxRecDepth 100000
set_option maxHeartbeats 2000000
set_option pp.maxSteps 300
/-! enumerate of a tuple. -/
namespace Ag
open PySem PySem.Spec PyProof.Rows L2
set_option maxHeartbeats 4000000 in
theorem enum_newB {v : Value} {o : Obj} {Ok : Heap → Prop} (B : Begins v o Ok) :
    Meets (Builtin.«enumerate.__new__» ⟨[.type "enumerate", v], []⟩) (fun _ R z => Ok z.heap ∧
      R (.ok (.ret (.ref (z.heap.push o).objs.size))) { z with heap := (z.heap.push o).push { cls := .type "enumerate", data := .fields #[.none, .bool false, .ref z.heap.objs.size, rawInt 0, .none, .none] } }) :=
  .of_wp fun prog w A R z hz => by
    obtain ⟨hp, gn, dr, tk, sy⟩ := z; obtain ⟨hok, hz⟩ := hz; have hsub := sub_enumerate
    have itr : ∀ {A' : Around} {E : Value → Shared → Prop} {Q : Value → Shared → Prop}, Q (.ref hp.objs.size) ⟨hp.push o, gn, dr, tk, sy⟩ → wpAny (model prog w) A' (pyIter v) Q E ⟨hp, gn, dr, tk, sy⟩ := fun q => B.iter prog w _ _ ⟨hp, gn, dr, tk, sy⟩ _ hok q
    wp_walk using itr
    refine wpAny_stack_any fun stk => wpAny_pure ?_
    split
    · rename_i c _ _ _ _ _; cases (c == Value.type "enumerate") <;> (wp_walk using itr; exact ⟨_, rfl, hz⟩)
    · wp_walk using itr; exact ⟨_, rfl, hz⟩
section
variable {prog : Program} {w : World} {A : Around} {E : Value → Shared → Prop} {z : Shared}
/-- enumerate(t) -/
theorem enum_tup {t : Addr} {its : Array Value} {Q : Value → Shared → Prop} (ht : z.heap.IsTuple t its)
    (k : ∀ h', IsEnum h' (z.heap.objs.size + 1) z.heap.objs.size 0 .none → h'.IsTupleIter z.heap.objs.size t 0 → (∀ b o, z.heap.get? b = some o → h'.get? b = some o) → Q (.ref (z.heap.objs.size + 1)) { z with heap := h' }) :
    wpAny (model prog w) A (call (.type "enumerate") [.ref t]) Q E z := by
  have hn : (z.heap.push { cls := .type "tuple_iterator", data := .fields #[.ref t, .int 0 0] }).objs.size = z.heap.objs.size + 1 := Heap.size_push ..
  refine callType_new F.called_enumerate (by decide) (F.typeCall_enumerate_1 _) (F.newCall_enumerate_1 _) (fun o => F.args_object_init_2 o _) F.entry_enumerate_new (enum_newB (begins_tuple t its)) ⟨ht, ?_⟩
  show _ ∧ _; rw [hn]
  have en : IsEnum ((z.heap.push { cls := .type "tuple_iterator", data := .fields #[.ref t, .int 0 0] }).push { cls := .type "enumerate", data := .fields #[.none, .bool false, .ref z.heap.objs.size, rawInt 0, .none, .none] }) (z.heap.objs.size + 1) z.heap.objs.size 0 .none := by
    have q := Heap.get?_push_size (z.heap.push { cls := .type "tuple_iterator", data := .fields #[.ref t, .int 0 0] }) (o := { cls := .type "enumerate", data := .fields #[.none, .bool false, .ref z.heap.objs.size, rawInt 0, .none, .none] }) rfl
    rw [hn] at q; exact q
  exact ⟨⟨_, en, rfl⟩, k _ en ⟨_, Heap.get?_push_of_some _ (Heap.get?_push_size _ rfl), rfl, rfl⟩ fun b o q => Heap.get?_push_of_some _ (Heap.get?_push_of_some _ q)⟩
end
/-- the tuple at a, each item in a new pair with its place -/
def IteT (K : PySem.W.Frag) (a : Addr) : It :=
  ⟨fun i H => ∃ (xs : List V) (x : V), SqT K H a xs ∧ xs[i]? = some x, fun i H v H' => ∃ T x, v = .ref T ∧ H T = none ∧ H' = upd H T (.tup [.int (i : Nat), x]) ∧ ∀ xs, SqT K H a xs → xs[i]? = some x, fun i H => ∃ xs : List V, SqT K H a xs ∧ xs.length = i⟩
theorem turn_enumT {P : Program} {w : World} {K : PySem.W.Frag} {es : List Expr} {kk : Nat} {tpos : Pos} (a e it : Addr) :
    Turn P w K (.Tuple es kk tpos) (IteT K a) [e, it] e (fun i h => (∃ old, IsEnum h e it ((i : Nat) : Int) old) ∧ h.IsTupleIter it a i ∧ e ≠ it ∧ a ≠ it ∧ e ≠ a) where
  mem := List.mem_cons_self
  obj := fun i h st b hb => by
    obtain ⟨⟨old, he⟩, ⟨o, ho, hc, hd⟩, _⟩ := st
    rcases List.mem_cons.mp hb with q | q
    · subst q; exact ⟨_, he, fun v z => nomatch z⟩
    · rw [List.mem_singleton.mp q]; exact ⟨o, ho, fun v z => by rw [hd] at z; exact nomatch z⟩
  keep := fun i h h' st k => let ⟨⟨old, he⟩, hi, ne⟩ := st; ⟨⟨old, k e (by simp) _ he⟩, hi.at fun o z => k it (by simp) o z, ne⟩
  item := by
    intro X hP hw hK hc i pins s σ H E I fr st hg
    subst hP hw hK
    obtain ⟨⟨old, he⟩, hit, n1, n2, n3⟩ := st
    obtain ⟨xs, x, hq, hx⟩ := hg
    obtain ⟨its, rv, p, _⟩ := I.tuple hq
    obtain ⟨u, hu, ru⟩ := rv.get hx
    have le : e < s.heap.objs.size := Heap.lt_size he
    have li : it < s.heap.objs.size := by obtain ⟨_, q, _⟩ := hit; exact Heap.lt_size q
    have lt : i < its.toArray.size := by rw [List.size_toArray]; exact (List.getElem?_eq_some_iff.mp hu).1
    refine wpAny_pyNext_enum_itemD (Draws.tuple (A := X.A.in1) (show X.A.in1.handled = none from I.ok.hd hc) it a n2 its.toArray) he ⟨hit, p⟩ lt n1 (by simp [n1, n3]) fun y h1 tk hy ho hs hT hz hk => ?_
    have ey : y = u := by
      have hy : its.toArray[i]? = some y := hy
      rw [List.getElem?_toArray, hu] at hy; exact (Option.some.inj hy).symm
    subst ey
    refine ⟨_, rfl, wpAny_letOwnedTupleGo_enum (s := { s with heap := h1, toks := tk + 1 }) ho fun h2 he2 sb => ?_⟩
    have hT2 : h2.get? s.heap.objs.size = some { cls := .type "tuple", data := .seq #[.int i tk, y] } := (sb.2 _ (Nat.ne_of_gt le)).trans hT
    have new : ObjOk X.prog X.w (upd H s.heap.objs.size (.tup [.int (i : Nat), x])) h2 s.heap.objs.size (.tup [.int (i : Nat), x]) := ⟨(by show 2 ≤ sizeLine; decide), [.int i tk, y], .cons ⟨_, rfl⟩ (.cons ru .nil), ⟨_, hT2, rfl, _, rfl⟩⟩
    have I1 : Inv X pins σ (upd H s.heap.objs.size (.tup [.int (i : Nat), x])) { s with heap := h2, toks := tk + 1 } :=
      I.turnedNew (ch := [e, it]) (fun b ob hb q => (sb.2 b (fun z => hb (by rw [z]; exact List.mem_cons_self))).trans (hk b ob (fun z => hb (by rw [z]; exact List.mem_cons_self)) (fun z => hb (by rw [z]; exact List.mem_cons_of_mem _ List.mem_cons_self)) q)) fr (Nat.le_refl _) new
    refine ⟨.ref s.heap.objs.size, _, I1, rfl, ⟨_, x, rfl, I.hok.fresh (Nat.le_refl _), rfl, fun ys h => by rw [I.tuple_inj h hq]; exact hx⟩, ⟨⟨y, ?_⟩, hs.1.at fun o q => (sb.2 it (Ne.symm n1)).trans q, n1, n2, n3⟩, fun b hb => ?_⟩
    · rw [show ((i + 1 : Nat) : Int) = (i : Int) + 1 by omega]; exact he2
    · have hb' : b < s.heap.objs.size := by
        rcases List.mem_cons.mp hb with z | z
        · rw [z]; exact le
        · rw [List.mem_singleton.mp z]; exact li
      rw [upd_ne (Nat.ne_of_lt hb')]; exact (fr b hb).1
  done := by
    intro X hP hw hK hc i pins s σ H E I fr st hg
    subst hP hw hK
    obtain ⟨⟨old, he⟩, hit, n1, n2, n3⟩ := st
    obtain ⟨xs, hq, hx⟩ := hg
    obtain ⟨its, rv, p, _⟩ := I.tuple hq
    obtain ⟨f0, f1, _, f3, f4, f5⟩ := fr it (List.mem_cons_of_mem _ List.mem_cons_self)
    have hi : its.toArray.size = i := by rw [List.size_toArray, ← rv.length]; exact hx
    subst hi
    exact wpAny_pyNext_enum_endD (Draws.tuple (A := X.A.in1) (show X.A.in1.handled = none from I.ok.hd hc) it a n2 its.toArray) he ⟨hit, p⟩ fun h1 eb => ⟨rfl, I.turned (t' := s.toks) (fun b o hb q => eb b o hb q) f0 f1 f3 f4 f5⟩
  self := fun A i z Q E st q => by obtain ⟨⟨_, he⟩, _⟩ := st; exact wpAny_pyIter_enum he q
/-- enumerate(tuple) -/
def iEnT (K : PySem.W.Frag) (ta : TA) : TI := fun σ H R => ta σ H fun vs H1 => ∃ a xs, vs = [.ref a] ∧ SqT K H1 a xs ∧ R (IteT K a) H1
theorem pi_enumT {X : Cx} {e : Expr} {ta : TA} {p pos tpos : Pos} {es : List Expr} {kk : Nat} (hg : Gl X "enumerate") (hm : X.mg "enumerate" = none) (ha : PA X [e] ta) (hs : starEach [e] X.env = [(false, eval e X.env)] := by rfl) :
    PI X (.Tuple es kk tpos) (.Call (.Name "enumerate" p) [e] [] pos) (iEnT X.K ta) := by
  refine ⟨fun pins s σ H R I h => Call_ (ld_blt I hg hm boot_enumerate (PyProof.Rows.callWith_type1 (thn (ha.run pos pins s σ H _ I h) fun us z ⟨vs, H1, I1, r1, q1⟩ => ?_) hs rfl))⟩
  obtain ⟨a, xs, rfl, hq, q⟩ := q1
  obtain ⟨u, rfl, r⟩ := r1.one
  cases r
  obtain ⟨its, rv, p, hz⟩ := I1.tuple hq
  have hlt : a < z.heap.objs.size := by obtain ⟨o, ho, _⟩ := id p; exact Heap.lt_size ho
  refine enum_tup p fun h' he hit hk => wpAny_pyIter_enum he ?_
  have I2 : Inv X pins σ H1 { z with heap := h' } := I1.kept (t' := z.toks) hk
  refine ⟨z.heap.objs.size + 1, [z.heap.objs.size + 1, z.heap.objs.size], _, _, H1, rfl, I2, turn_enumT a (z.heap.objs.size + 1) z.heap.objs.size, ⟨⟨.none, he⟩, hit, Nat.succ_ne_self _, Nat.ne_of_lt hlt, Nat.ne_of_gt (Nat.lt_succ_of_lt hlt)⟩, fun b hb => ?_, q⟩
  have le : z.heap.objs.size ≤ b := by
    rcases List.mem_cons.mp hb with q | q
    · rw [q]; exact Nat.le_succ _
    · rw [List.mem_singleton.mp q]; exact Nat.le_refl _
  exact I1.fpOk le (I1.hok.fresh le)
end Ag

set_option Elab.async false
set_option linter.all false
set_option maxRecDepth 100000
set_option maxHeartbeats 2000000
set_option pp.maxSteps 300
/-! len(o) by an own __len__; o == x by an own __eq__, whatever it answers. -/
namespace Ag
open PySem PySem.Spec PyProof.Rows L2
section
variable {X : Cx} {CX : CXT} {C f : Addr} {k : Nat} {fd : FuncData} {ps : List Str} {sp : Sp} {E : XK}
/-- an own def run by a built-in one -/
theorem run_sub {A : Around} {pins : List (Addr × Obj)} {σ : L2.St} {H : Hp} {s : Shared} {Q : VK} {us : List Value} {vs : List V} (F : FnOk X.prog X.w X.K X.mg X.base CX k f fd ps sp) (hr : Room k A) (fr : A.frames = X.A.frames) (hb : Binds X.K fd ps []) (hx : Passes CX X E)
    (I : Inv X pins σ H s) (r : Vals vs us) (h : sp vs H Q E) : wpAny (model X.prog X.w) A (call (.ref f) us) (EP X pins σ Q) X.xe s := by
  have hl : us.length = ps.length := by rw [← r.length]; exact F.len _ _ _ _ h
  have bd := hb s us I.kIn (by rw [List.append_nil]; exact hl)
  rw [List.append_nil] at bd
  have e1 := I.env0
  have e0 : Env0 X.prog X.w X.K X.mg X.base A X.stack s H := { frames := by rw [fr]; exact e1.frames, mod := e1.mod, bs := e1.bs, bsz := e1.bsz, funs := e1.funs, frf := e1.frf, hok := e1.hok, bare := e1.bare }
  refine wpAny_call (codeAny_mono (F.run A X.stack s H ⟨us, []⟩ us vs Q E hr e0 bd r h) fun z s' hq => ?_)
  cases z with
  | error e => exact hx pins σ H s e s' I hq
  | ok fl =>
    cases fl with
    | ret u => exact I.after hq
    | next => exact False.elim hq
    | brk => exact False.elim hq
    | cont => exact False.elim hq
def rLenO (C : Addr) (sp : Sp) (E : XK) : List V → Hp → VK → Prop := fun xs H Q => ∃ b dx fs, xs = [.ref b] ∧ H b = some (.ins C dx fs) ∧ sp [.ref b] H (fun v H' => ∃ n : Nat, v = .int (n : Int) ∧ n ≤ 1000000 ∧ Q (.int (n : Int)) H') E
theorem call_lenO (F : FnOk X.prog X.w X.K X.mg X.base CX k f fd ps sp) (m : Meth X.K C "__len__" f) (hr : Room (k + 1) X.A) (hb : Binds X.K fd ps []) (hx : Passes CX X E) : CallR X (.builtin "len") (rLenO C sp E) := by
  intro pins s σ H xs us Q I r h
  obtain ⟨b, dx, fs, rfl, hB, hsp⟩ := h
  obtain ⟨u, rfl, ru⟩ := r.one
  cases ru
  obtain ⟨mA, J, _⟩ := ins_get I.hok hB
  obtain ⟨od, J, _⟩ := J.look
  refine Calls.call_function_entry kind_len plain_len entry_len (args_len1 _) ?_
  unfold Builtin.«len»
  refine wpAny_bind (m := oneArg "len" _) (wpAny_pure (wpAny_bind (m := callSpecial? (.ref b) (PySem.Str.ofString "__len__")) (PySem.W.special_fn I.kIn J m.at_ (beq_iff_eq.mp m.fn) (wpAny_mono (run_sub F hr.in1 rfl hb hx I (vs := [V.ref b]) (.cons rfl .nil) hsp) (fun v s' hv => ?_) fun _ _ z => z))))
  obtain ⟨w, H', I', rw', n, rfl, hn, q⟩ := hv
  obtain ⟨t, rfl⟩ := rw'
  refine wpAny_bind (wpAny_holding (wpAny_pure (wpAny_bind (wpAny_letGo ?_))))
  show wpAny _ _ (if (n : Int) < 0 then _ else _) _ _ s'
  rw [if_neg (by omega)]
  show wpAny _ _ (if (n : Int) ≥ 2 ^ 63 then _ else _) _ _ s'
  rw [if_neg (by omega)]
  exact wpAny_bind (wpAny_mkInt (wpAny_pure ⟨_, rfl, ⟨.int n, H', I'.tok _, ⟨_, rfl⟩, q⟩⟩))
/-- what an own == may be asked about: another of the class, or a tuple -/
def Rgt (K : PySem.W.Frag) (C : Addr) (y : V) (H : Hp) : Prop := ∃ a, y = .ref a ∧ ((∃ dx fs, H a = some (.ins C dx fs)) ∨ (∃ xs, SqT K H a xs) ∧ PySem.W.subIn K (.type "tuple") (.ref C) = some false)
def rEqO (K : PySem.W.Frag) (C : Addr) (sp : Sp) (E : XK) : R2 := fun x y H Q => ∃ b dx fs, x = .ref b ∧ H b = some (.ins C dx fs) ∧ Rgt K C y H ∧ sp [.ref b, y] H (fun v H' => ∃ c, v = .bl c ∧ Q (.bl c) H') E
theorem op_eqO (F : FnOk X.prog X.w X.K X.mg X.base CX k f fd ps sp) (m : Meth X.K C "__eq__" f) (hr : Room k X.A) (hb : Binds X.K fd ps []) (hx : Passes CX X E) : OpR X (compareOp .Eq) (rEqO X.K C sp E) := by
  intro pins s σ H x y v u Q I rx ry h
  obtain ⟨b, dx, fs, rfl, hB, ⟨a, rfl, hy⟩, hsp⟩ := h
  cases rx; cases ry
  obtain ⟨mA, J, _⟩ := ins_get I.hok hB
  obtain ⟨od, J, _⟩ := J.look
  obtain ⟨mF, hF⟩ := I.fr
  have run : wpAny (model X.prog X.w) X.A (call (.ref f) [.ref b, .ref a]) (PySem.W.CmpBack (EP X pins σ Q)) X.xe s := by
    refine wpAny_mono (run_sub F hr rfl hb hx I (vs := [V.ref b, V.ref a]) (.cons rfl (.cons rfl .nil)) hsp) (fun z s' hz => ?_) fun _ _ z => z
    obtain ⟨w, H', I', rw', c, rfl, q⟩ := hz
    cases rw'
    exact ⟨.bl c, H', I', rfl, q⟩
  show wpAny (model X.prog X.w) X.A (richCompare .Eq (.ref b) (.ref a)) (EP X pins σ Q) X.xe s
  rcases hy with ⟨dy, gs, hA⟩ | ⟨⟨ys, hA⟩, hn⟩
  · obtain ⟨mB, J2, _⟩ := ins_get I.hok hA
    obtain ⟨od2, J2, _⟩ := J2.look
    exact PySem.W.cmp_K (op := .Eq) (tb := .ref C) hr.units0 hF I.ok.mod.kin J J2.type (by simp [PySem.W.notFirst]) m.at_ m.fn run
  · obtain ⟨its, rv, ⟨o, ho, hc, _⟩, _⟩ := I.tuple hA
    exact PySem.W.cmp_K (op := .Eq) (tb := .type "tuple") hr.units0 hF I.ok.mod.kin J (fun A Q E s k z => wpAny_typeOf_ref (k _ _ ho) (by rw [hc]; exact z)) (by unfold PySem.W.notFirst; rw [hn]; rfl) m.at_ m.fn run
end
end Ag

set_option Elab.async false
set_option linter.all false
set_option maxRecDepth 100000
set_option maxHeartbeats 4000000
set_option pp.maxSteps 400
/-! xs[::-1] of any tuple that is not empty; a tuple once. -/
namespace Ag
open PySem PySem.Spec PyProof.Rows L2
theorem fm_congr {α β : Type} {f g : α → Option β} : ∀ {l : List α}, (∀ x ∈ l, f x = g x) → l.filterMap f = l.filterMap g
  | [], _ => rfl
  | x :: l, h => by rw [List.filterMap_cons, List.filterMap_cons, h x List.mem_cons_self, fm_congr fun y hy => h y (List.mem_cons_of_mem _ hy)]
theorem pick_back (its : Array Value) : ((List.range its.size).filterMap fun (m : Nat) => its[((((its.size : Nat) : Int) - 1) + (m : Int) * (-1)).toNat]?) = its.toList.reverse := by
  have e : (List.range its.size).filterMap (fun (m : Nat) => its[((((its.size : Nat) : Int) - 1) + (m : Int) * (-1)).toNat]?) = ((List.range its.size).map fun k => its.size - 1 - k).filterMap (its[·]?) := by
    rw [List.filterMap_map]
    refine fm_congr fun m hm => ?_
    have := List.mem_range.mp hm
    show its[_]? = its[its.size - 1 - m]?
    rw [show ((((its.size : Nat) : Int) - 1) + (m : Int) * (-1)).toNat = its.size - 1 - m by omega]
  rw [e, PySem.W.krv_range, List.filterMap_reverse, PySem.W.krv_all]
section
variable {prog : Program} {w : World} {A : Around} {E : Value → Shared → Prop} {s : Shared}
theorem rev_of_any {t sl : Addr} {its : Array Value} {vl vu vs : Value} {Q : Value → Shared → Prop} (ht : IsTup s.heap t its) (h1 : 1 ≤ its.size) (hz : its.size ≤ sizeLine) (hs : s.heap.IsSliceOf sl vl vu vs) (pl : IsPart vl none) (pu : IsPart vu none) (ps : IsPart vs (some (-1)))
    (h : Q (.ref s.heap.objs.size) { s with heap := s.heap.push { cls := .type "tuple", data := .seq its.toList.reverse.toArray } }) : wpAny (model prog w) A (getItem (.ref t) (.ref sl)) Q E s := by
  obtain ⟨o, ho, hc, hd⟩ := id hs
  have ty : s.TypeIs (.ref sl) "slice" := ⟨o, ho, hc⟩
  have ad : Builtin.Slice.sliceAdjust none none (-1) ((its.size : Nat) : Int) = (((its.size : Nat) : Int) - 1, -1) := rfl
  have pc : Builtin.Slice.slicePlaces (((its.size : Nat) : Int) - 1) (-1) (-1) = its.size := by
    unfold Builtin.Slice.slicePlaces
    rw [if_neg (by decide), if_pos (by omega), show ((((its.size : Nat) : Int) - 1 - -1 - 1) / (- -1) + 1).toNat = its.size by rw [show (- -1 : Int) = 1 by decide, Int.ediv_one]; omega]
  unfold getItem
  try with_reducible refine wpAny_holding ?_
  first | refine wpAny_bind (wpAny_pure ?_) | skip
  refine wpAny_bind (wpAny_sequenceKey ht.typeIs (by decide) (wpAny_bind (wpAny_callSpecial?_slot (name := Str.ofString "__getitem__") ht.typeIs PyProof.Rows.slot_tuple_getitem (wpAny_call_entry PyProof.Rows.slot_tuple_getitem ht.typeIs entry_tuple_getitem ?_ (args_tuple_getitem _ _)))))
  show wpAny _ _ (Builtin.Tuple.tupleItemsOf (.ref t) >>= _) _ _ s
  refine wpAny_bind (tupleItemsOf_ ht (wpAny_bind (wpAny_typeOf ty ?_))); rw [if_pos (by decide)]
  have ap : ∀ {Q' : Int × Int × Nat → Shared → Prop}, Q' (((its.size : Nat) : Int) - 1, -1, its.size) s → wpAny (model prog w) A.in1 (Builtin.Slice.sliceApplied (.ref sl) (pure ((its.size : Nat) : Int))) Q' E s := fun {Q'} q => by
    unfold Builtin.Slice.sliceApplied Builtin.Slice.sliceFields
    refine wpAny_bind (wpAny_bind (wpAny_field ho hd (x := vl) rfl (wpAny_bind (wpAny_field ho hd (x := vu) rfl (wpAny_bind (wpAny_field ho hd (x := vs) rfl (wpAny_pure ?_)))))))
    refine wpAny_bind (HT.slicePart_ ps ?_)
    show wpAny _ _ (if ((-1 : Int) == 0) = true then _ else _) _ _ s
    rw [if_neg (by decide)]
    refine wpAny_bind (HT.slicePart_ pl (wpAny_bind (HT.slicePart_ pu (wpAny_bind (wpAny_pure ?_)))))
    show wpAny _ _ (match Builtin.Slice.sliceAdjust none none (-1) ((its.size : Nat) : Int) with | (u, v) => pure (u, (-1 : Int), Builtin.Slice.slicePlaces u v (-1))) _ _ s
    rw [ad]
    show wpAny _ _ (pure (((its.size : Nat) : Int) - 1, (-1 : Int), Builtin.Slice.slicePlaces (((its.size : Nat) : Int) - 1) (-1) (-1))) _ _ s
    rw [pc]
    exact wpAny_pure q
  refine wpAny_bind (wpAny_mono (ap (Q' := fun z s' => z = (((its.size : Nat) : Int) - 1, -1, its.size) ∧ s' = s) ⟨rfl, rfl⟩) (fun z s' hz => ?_) fun _ _ e => e)
  obtain ⟨rfl, rfl⟩ := hz
  show wpAny _ _ (if (((its.size : Nat) : Int) - 1 == 0 && (-1 : Int) == 1 && its.size == its.size) = true then _ else _) _ _ s'
  rw [if_neg (by rw [show ((-1 : Int) == 1) = false from rfl, Bool.and_false, Bool.false_and]; exact Bool.false_ne_true)]
  have e : ((List.range its.size).filterMap fun (m : Nat) => its[((((its.size : Nat) : Int) - 1) + (m : Int) * (-1)).toNat]?).toArray = its.toList.reverse.toArray := by rw [pick_back]
  rw [e]
  have fit : its.toList.reverse.toArray.size ≤ sizeLine := by rw [List.size_toArray, List.length_reverse, Array.length_toList]; exact hz
  first
    | exact wpAny_bind (m := Builtin.Tuple.tupleExact _) (wpAny_newObj_type (wpAny_pure ⟨_, rfl, wpAny_pure h⟩) fit)
    | exact wpAny_bind (m := Builtin.Tuple.tupleExact _) (wpAny_newObj_type (wpAny_bind (wpAny_pure (wpAny_pure ⟨_, rfl, wpAny_pure h⟩))) fit)
    | exact wpAny_bind (wpAny_bind (m := Builtin.Tuple.tupleExact _) (wpAny_newObj_type (wpAny_pure (wpAny_pure ⟨_, rfl, wpAny_pure h⟩)) fit))
    | exact wpAny_bind (wpAny_bind (m := Builtin.Tuple.tupleExact _) (wpAny_newObj_type (wpAny_pure ⟨_, rfl, wpAny_pure h⟩) fit))
end
/-- t[::-1] -/
def tRevT (K : PySem.W.Frag) (te : TE) : TE := fun σ H Q => te σ H fun x H1 => ∃ a xs, x = .ref a ∧ SqT K H1 a xs ∧ 1 ≤ xs.length ∧ ∀ p, H1 p = none → Q (.ref p) (upd H1 p (.tup xs.reverse))
theorem vals_rev : ∀ {xs : List V} {us : List Value}, Vals xs us → Vals xs.reverse us.reverse
  | _, _, .nil => .nil
  | _, _, .cons r t => by rw [List.reverse_cons, List.reverse_cons]; exact (vals_rev t).append (.cons r .nil)
theorem pe_revT {X : Cx} {e : Expr} {te : TE} {k : Nat} {p1 p2 p3 pos : Pos} (he : PE X e te) : PE X (.Subscript e (.Slice none none (some (.UnaryOp .USub (.Constant (.int 1) k p1) p2)) p3) pos) (tRevT X.K te) := by
  refine ⟨fun pins s σ H Q I h => Subscript_ (thn (he.run pins s σ H _ I h) fun v s1 ⟨x, H1, I1, r1, a, xs, ex, hx, h1, q⟩ => ?_)⟩
  subst ex
  obtain rfl : v = Value.ref a := r1
  refine wpAny_Slice (thn (po_none.run pins s1 σ H1 (fun o G => o = none ∧ G = H1) I1 ⟨rfl, rfl⟩) fun vl s2 ⟨l, H2, I2, pl, el, e2⟩ => ?_)
  subst el e2
  refine thn (po_none.run pins s2 σ H2 (fun o G => o = none ∧ G = H2) I2 ⟨rfl, rfl⟩) fun vu s3 ⟨u, H3, I3, pu, eu, e3⟩ => ?_
  subst eu e3
  refine thn ((po_some (pe_un un_neg pe_int) : PO X (some (.UnaryOp .USub (.Constant (.int 1) k p1) p2)) (tPart (tUn (rU fun i => .int (-i)) (tC (.int 1))))).run pins s3 σ H3 (fun o G => o = some (-1) ∧ G = H3) I3 ⟨1, rfl, -1, rfl, rfl, rfl⟩) fun vs s4 ⟨o, H4, I4, ps, eo, e4⟩ => ?_
  subst eo e4
  have I5 : Inv X pins σ H4 { s4 with heap := s4.heap.push { cls := .type "slice", data := .fields #[vl, vu, vs] } } := I4.kept (t' := s4.toks) fun b ob z => Heap.get?_push_of_some _ z
  obtain ⟨its, r, ht, hz⟩ := I5.tuple hx
  have ln := r.length
  refine tail_any (ops := [.ref a, .ref s4.heap.objs.size]) ht.typeIs PyProof.Rows.slot_tuple_getitem.lookup (rev_of_any ht (by rw [List.size_toArray, ← ln]; exact h1) (by rw [List.size_toArray, ← ln]; exact hz) (Heap.IsSliceOf.new _ vl vu vs) pl pu ps ?_) (by with_unfolding_all rfl)
  exact ⟨.ref _, _, I5.laid (t' := s4.toks) (o := .tup xs.reverse) (fun b ob z => Heap.get?_push_of_some _ z) (Nat.le_refl _) ⟨by rw [List.length_reverse]; exact hz, its.reverse, vals_rev r, IsTup.new _ _⟩, rfl, q _ (I5.hok.fresh (Nat.le_refl _))⟩
theorem dfs_rev {K : PySem.W.Frag} {F : Addr → Prop} {H : Hp} : ∀ {vs : List V} {ds : List PyData}, DfAll K F H vs ds → DfAll K F H vs.reverse ds.reverse
  | _, _, .nil => .nil
  | _, _, .cons h r => by rw [List.reverse_cons, List.reverse_cons]; exact dfs_app (dfs_rev r) (.cons h .nil)
theorem ed_revT {K : PySem.W.Frag} {σ : L2.St} {F : Addr → Prop} {H : Hp} {te : TE} {xs : List PyData} (h : ED K te σ F H (.tuple xs)) (h1 : 1 ≤ xs.length) : ED K (tRevT K te) σ F H (.tuple xs.reverse) := fun H1 s Q q =>
  h H1 s _ fun v H2 s2 hv => by
    cases hv with
    | tup ht r => exact ⟨_, _, rfl, ht, by rw [dfs_len r]; exact h1, fun p hp => q _ _ (s2.trans (Same.newA hp)) (.tup (.of upd_same) (dfs_mono (Same.newA hp) (fun _ z => z) (dfs_rev r)))⟩
/-! ### t * n, n at least 1 -/
theorem tuple_mul1 (l : Addr) (items : Array Value) (n : Nat) (dd : Option Addr) (sl : Array (Option Value)) (u : Tok) :
    Meets (Builtin.«tuple.__mul__» ⟨[.ref l, .int 1 u], []⟩) (fun _ R s => s.heap.get? l = some { cls := .type "tuple", dict := dd, data := .seq items n, slots := sl } ∧ R (.ok (.ret (Value.ref l))) s) :=
  .of_wp fun prog w A R s h => by
    obtain ⟨hp, g, d, tk, os⟩ := s
    obtain ⟨hl, h⟩ := h
    have f1 := AutoSeq1.idx_int
    wp_walk using wpAny_loadPart' hl
    exact ⟨_, rfl, h⟩
def rRepN (K : PySem.W.Frag) : R2 := fun x y H Q => ∃ (l : Addr) (k : Nat) (xs : List V), x = .ref l ∧ y = .int (k : Int) ∧ SqT K H l xs ∧ xs ≠ [] ∧ 1 ≤ k ∧ k ≤ 1000 ∧ xs.length ≤ 1000 ∧ (k = 1 → Q (.ref l) H) ∧ (2 ≤ k → ∀ p, H p = none → Q (.ref p) (upd H p (.tup (List.replicate k xs).flatten)))
theorem op_repN {X : Cx} : OpR X (binaryOp .Mult) (rRepN X.K) := by
  intro pins s σ H x y v u Q I rx ry h
  obtain ⟨l, k, xs, rfl, rfl, hT, hne, h1, h2, hz, q1, q2⟩ := h
  by_cases hk : k = 1
  · subst hk
    cases rx; obtain ⟨t, rfl⟩ := ry
    obtain ⟨its, r, ⟨⟨cls, dd, data, sl⟩, ho, hc, n, hd⟩, hs⟩ := I.tuple hT
    simp only at hc hd; subst hc hd
    exact wpAny_binaryOp_repeat_ref (T := "tuple") (U := "int") (by decide) ⟨_, ho, rfl⟩ (fun s' => typeIs_int s' 1 t) noFill_tuple_mul F.fills_int_mul F.slot_int_rmul repeat_tuple F.slot_int_index.lookup
      (call_meets F.slot_int_rmul (typeIs_int s 1 t) F.entry_int_rmul (F.args_int_rmul_2 _ _) (int_rmul_tuple 1 t l its.toArray n dd sl)
        ⟨ho, rfl, ⟨_, ho, rfl⟩, call_meets F.slot_tuple_mul ⟨_, ho, rfl⟩ F.entry_tuple_mul (F.args_tuple_mul_2 _ _) (tuple_mul1 l its.toArray n dd sl t) ⟨ho, ⟨.ref l, H, I, rfl, q1 rfl⟩⟩⟩)
  · exact op_repT pins s σ H _ _ v u Q I rx ry ⟨l, (k : Int), xs, rfl, rfl, hT, hne, by omega, by omega, hz, fun p hp => q2 (by omega) p hp⟩
theorem dfs_rep {K : PySem.W.Frag} {F : Addr → Prop} {H : Hp} {vs : List V} {ds : List PyData} (h : DfAll K F H vs ds) : ∀ k : Nat, DfAll K F H (List.replicate k vs).flatten (List.replicate k ds).flatten
  | 0 => .nil
  | k + 1 => by rw [List.replicate_succ, List.replicate_succ, List.flatten_cons, List.flatten_cons]; exact dfs_app h (dfs_rep h k)
theorem ed_repN {K : PySem.W.Frag} {σ : L2.St} {F : Addr → Prop} {H : Hp} {ta tb : TE} {xs : List PyData} {k : Nat} (ha : ED K ta σ F H (.tuple xs)) (hb : ED K tb σ F H (.int (k : Int))) (h0 : 1 ≤ xs.length) (hl : xs.length ≤ 1000) (h1 : 1 ≤ k) (h2 : k ≤ 1000) : ED K (tOp (rRepN K) ta tb) σ F H (.tuple (List.replicate k xs).flatten) :=
  ed_op ha hb fun F a b H1 hx hy Q q => by
    cases hy
    cases hx with
    | tup h r =>
      have ln := dfs_len r
      refine ⟨_, k, _, rfl, rfl, h, (fun z => by rw [z] at ln; simp at ln; omega), h1, h2, by rw [ln]; exact hl, fun e => ?_, fun _ p hp => q _ _ (Same.newA hp) (.tup (.of upd_same) (dfs_mono (Same.newA hp) (fun _ z => .inl z) (dfs_rep r k)))⟩
      subst e
      have e1 : (List.replicate 1 xs).flatten = xs := by simp
      exact q _ _ (Same.refl _) (by rw [e1]; exact .tup h (dfs_mono (Same.refl _) (fun _ z => .inl z) r))
end Ag

set_option Elab.async false
set_option linter.all false
set_option maxRecDepth 100000
set_option maxHeartbeats 4000000
/-! Sets of fewer than 64 tuples whose items are numbers and texts. -/
namespace Ag
open PySem PySem.Spec PyProof.Rows L2
section
variable {P : Program} {w : World}
/-- the probe at its c-th step, and what it keeps -/
abbrev prb (m : Nat) (g : Int) (c : Nat) : SetTable.Probe := nth m (runAt m (SetTable.bits g % (m + 1)) (SetTable.bits g)) c
theorem prb_add (m : Nat) (g : Int) (c q : Nat) : nth m (prb m g c) q = prb m g (c + q) := (nth_add m c _ q).symm
theorem prb_way (m : Nat) (g : Int) (c q : Nat) : (nth m (prb m g c) q).j = way m g (c + q) := congrArg (fun z : SetTable.Probe => z.j) (prb_add m g c q)
theorem nth_dm (m : Nat) : ∀ (n : Nat) (z : SetTable.Probe), z.dummy = none → (nth m z n).dummy = none
  | 0, _, e => e
  | n + 1, z, e => nth_dm m n (adv m z) (by unfold adv; split <;> exact e)

variable {κ : Type} [DecidableEq κ] (kd : HeapKind P w κ)
/-- what a set asks of the keys it holds -/
structure KeyOk : Prop where
  old : ∀ {h h' : Heap} {k : κ} {b : Addr}, (∀ c o, h.get? c = some o → h'.get? c = some o) → kd.is h k b → kd.is h' k b
  but : ∀ {h h' : Heap} {k : κ} {b d : Addr} {o : Obj} {vs : Array (Int × Value)} {n : Nat} {t : SetTable}, kd.is h k b → h.get? d = some o → o.data = .set vs n t → Heap.SameBut d h h' → kd.is h' k b
  cls : ∀ {A : Around} {E : Value → Shared → Prop} {s : Shared} {k : κ} {b : Addr} {Q : Bool → Shared → Prop}, kd.is s.heap k b → Q false s → wpAny (model P w) A (ofAClassStatement 8 (.ref b)) Q E s
  byv : ∀ {A : Around} {E : Value → Shared → Prop} {s : Shared} {k : κ} {b : Addr} {Q : Bool → Shared → Prop}, kd.is s.heap k b → (∀ r, Q r s) → wpAny (model P w) A (hashByValue 8 (.ref b)) Q E s
/-- the entries of a table whose keys are those of L -/
def entH (L : List (Addr × κ)) : List (Int × Value) := L.map fun z => (kd.hash z.2, Value.ref z.1)
structure SetH (h : Heap) (a : Addr) (L : List (Addr × κ)) (vs : Array (Int × Value)) (n : Nat) (t : SetTable) : Prop where
  at_ : ∃ o, h.get? a = some o ∧ o.ExactSet ∧ o.data = .set vs n t
  ents : vs.toList = entH kd L
  lay : TabOk t (L.map fun z => kd.hash z.2)
  once : (L.map Prod.snd).Nodup
  keys : ∀ z ∈ L, kd.is h z.2 z.1
  told : w.params.followText "set-order" = true ∨ t.led = true
  loose : L.length * 5 < t.mask * 3
  small : L.length < 64
variable {kd} {A : Around} {E : Value → Shared → Prop} {s : Shared} {a : Addr} {L : List (Addr × κ)} {vs : Array (Int × Value)} {n : Nat} {t : SetTable}
theorem ent_len {vs : Array (Int × Value)} {L : List (Addr × κ)} (e : vs.toList = entH kd L) : vs.size = L.length := by
  have := congrArg List.length e
  unfold entH at this
  rwa [Array.length_toList, List.length_map] at this
theorem ent_at {vs : Array (Int × Value)} {L : List (Addr × κ)} (e : vs.toList = entH kd L) {i : Nat} {z : Addr × κ} (hz : L[i]? = some z) : vs[i]? = some (kd.hash z.2, Value.ref z.1) := by
  have : vs.toList[i]? = some (kd.hash z.2, Value.ref z.1) := by rw [e]; unfold entH; rw [List.getElem?_map, hz]; rfl
  rwa [Array.getElem?_toList] at this
theorem fit_of {vs : Array (Int × Value)} {L : List (Addr × κ)} {t : SetTable} (e : vs.toList = entH kd L) (h1 : t.place.size = vs.size) (h2 : t.dummies = #[]) (h3 : vs.size ≤ t.mask) : t.fits vs.size = true := by
  unfold SetTable.fits SetTable.fill
  rw [h2, Bool.and_eq_true, beq_iff_eq, decide_eq_true_eq]
  exact ⟨h1, by show t.place.size + 0 ≤ t.mask; omega⟩
theorem byv_if (ok : KeyOk kd) {c : Bool} {k : κ} {b : Addr} {α : Type} {F : Bool → Sem α} {Q : α → Shared → Prop} (hb : kd.is s.heap k b) (q : ∀ r, wpAny (model P w) A (F r) Q E s) : wpAny (model P w) A (if c = true then hashByValue 8 (.ref b) >>= F else pure true >>= F) Q E s := by
  cases c with
  | true => exact wp_if_pos rfl (wpAny_bind (ok.byv hb q))
  | false => exact wp_if_neg (by decide) (wpAny_bind (wpAny_pure (q true)))
theorem SetH.plc (R : SetH kd s.heap a L vs n t) : t.place.size = L.length := by
  have := R.lay.sz
  rwa [List.length_map] at this
theorem SetH.fits (R : SetH kd s.heap a L vs n t) : t.fits vs.size = true := by
  have z := ent_len R.ents
  have r := R.loose
  exact fit_of R.ents (by rw [R.plc, z]) R.lay.dm (by omega)
/-- nothing shows when keys are looked for among keys -/
theorem unseen (ok : KeyOk kd) {k : κ} {b : Addr} {Q : Bool → Shared → Prop} (hb : kd.is s.heap k b) {ys : List Value} (all : ∀ y ∈ ys, ∃ j c, y = Value.ref c ∧ kd.is s.heap j c) (q : Q false s) :
    wpAny (model P w) A (searchCouldBeSeen (.ref b) ys) Q E s := by
  unfold searchCouldBeSeen
  refine wpAny_bind (wpAny_forIn_list _ (fun left out s1 => out.1 = none ∧ s1 = s ∧ ∀ y ∈ left, ∃ j c, y = Value.ref c ∧ kd.is s.heap j c) _ (fun y left out s1 z => ?_) (fun out s1 z => ?_) _ _ ⟨rfl, rfl, all⟩)
  · obtain ⟨e1, rfl, z⟩ := z
    obtain ⟨j, c, rfl, hc⟩ := z y List.mem_cons_self
    have z2 := fun u hu => z u (List.mem_cons_of_mem _ hu)
    dsimp only
    by_cases hv : (b == c || (carriedByValue (.ref b) && carriedByValue (.ref c))) = true
    · exact wp_if_pos hv (wpAny_pure ⟨rfl, rfl, z2⟩)
    · refine wp_if_neg hv (wpAny_bind (kd.quiet hb ?_))
      simp only [Bool.not_true, Bool.false_eq_true, if_false]
      refine wpAny_bind (kd.quiet hc ?_)
      simp only [Bool.not_true, Bool.false_eq_true, if_false]
      refine wpAny_bind (ok.cls hb ?_)
      simp only [Bool.false_eq_true, if_false]
      refine wpAny_bind (ok.cls hc ?_)
      simp only [Bool.false_eq_true, if_false]
      exact wpAny_pure ⟨rfl, rfl, z2⟩
  · obtain ⟨o1, o2⟩ := out
    obtain ⟨e1, rfl, _⟩ := z
    have e1 : o1 = none := e1
    subst e1
    exact wpAny_pure q
/-- looking for a key that is to be added, from the c-th step on; at the e-th step is the first empty slot -/
theorem look_from (ok : KeyOk kd) (R : SetH kd s.heap a L vs n t) {b : Addr} {k : κ} (hb : kd.is s.heap k b) (ro : kd.room A) {e : Nat} (e1 : e < 10 * SetTable.turns t.mask) (e2 : way t.mask (kd.hash k) e ∉ t.place.toList)
    (e3 : ∀ c, c < e → way t.mask (kd.hash k) c ∈ t.place.toList) {Q : SetFound → Shared → Prop} (yes : k ∈ L.map Prod.snd → Q (.there none) s) (no : k ∉ L.map Prod.snd → Q (.free (way t.mask (kd.hash k) e) false) s) :
    ∀ (u c : Nat) (o : Option SetTable.Probe), o.getD (t.probeStart (kd.hash k)) = prb t.mask (kd.hash k) c → c ≤ e → e < u + c →
      (∀ (i : Nat) z, L[i]? = some z → z.2 = k → ∃ d, c ≤ d ∧ d < e ∧ t.place.toList[i]? = some (way t.mask (kd.hash k) d)) → wpAny (model P w) A (setSearchFrom a (.ref b) (kd.hash k) true u o) Q E s
  | 0, c, o, _, h1, h2, _ => absurd h2 (by omega)
  | u + 1, c, o, ho, h1, h2, still => by
    obtain ⟨ob, g1, g2, g3⟩ := R.at_
    rw [setSearchFrom_succ]
    refine wpAny_bind (wpAny_setState_of g1 g3 R.fits ?_)
    dsimp only
    have ng : ¬ t.gaveWay = true := by
      unfold SetTable.gaveWay
      rw [mask_odd R.lay.mok]; decide
    refine wp_if_neg ng ?_
    try refine wpAny_bind (wpAny_pure ?_)
    have hs : ∀ (i : Nat) z, L[i]? = some z → (fun i => (vs[i]?.map (·.1)).getD 0) i = kd.hash z.2 := fun i z hz => by
      show (vs[i]?.map (·.1)).getD 0 = _
      rw [ent_at R.ents hz]; rfl
    rcases go_spec t R.lay.ris R.lay.dm (fun i => (vs[i]?.map (·.1)).getD 0) (kd.hash k) (10 * SetTable.turns t.mask) (e - c) (prb t.mask (kd.hash k) c) (nth_dm _ _ _ rfl) (by omega) (fun q hq => by rw [prb_way]; exact e3 _ (by omega)) (by rw [prb_way, show c + (e - c) = e by omega]; exact e2) with ⟨q, i, f1, f2, f3, f4, f5⟩ | ⟨f4, f5⟩
    · -- one with the same hash
      rw [prb_way, prb_add] at f5
      rw [prb_way] at f2
      have st : t.probe (fun i => (vs[i]?.map (·.1)).getD 0) (kd.hash k) (o.getD (t.probeStart (kd.hash k))) = some (.candidate (way t.mask (kd.hash k) (c + q)) i (prb t.mask (kd.hash k) (c + (q + 1)))) := by rw [ho]; exact f5
      rw [st]
      dsimp only
      have il : i < L.length := by
        have z := (List.getElem?_eq_some_iff.mp f2).1
        rw [Array.length_toList, R.plc] at z; exact z
      obtain ⟨z, hz⟩ : ∃ z, L[i]? = some z := ⟨_, List.getElem?_eq_getElem il⟩
      have zL : z ∈ L := List.mem_of_getElem? hz
      have sl : t.slot (way t.mask (kd.hash k) (c + q)) = .live i := slot_live R.lay.ris f2
      have on : wpAny (model P w) A (searchRest a (.ref b) (kd.hash k) true u vs t (way t.mask (kd.hash k) (c + q)) i (prb t.mask (kd.hash k) (c + (q + 1)))) Q E s := by
        unfold searchRest
        rw [ent_at R.ents hz]
        dsimp only
        refine wpAny_bind (wpAny_holding (kd.eqBool ro (R.keys z zL) hb ?_))
        refine wpAny_bind (wpAny_setState_of g1 g3 R.fits ?_)
        dsimp only
        by_cases eq : z.2 = k
        · exact wp_if_pos (by rw [decide_eq_true eq]; rfl) (wpAny_pure (yes (List.mem_map.mpr ⟨z, zL, eq⟩)))
        · have fl : (true && decide (z.2 = k)) = false := by rw [decide_eq_false eq]; rfl
          refine wp_if_neg (by rw [fl]; decide) ?_
          try refine wpAny_bind (wpAny_pure ?_)
          rw [sameMem]
          dsimp only
          simp only [if_true, sl, ent_at R.ents hz]
          refine wpAny_bind (wpAny_isSame_ref_self (wpAny_bind (wpAny_pure ?_)))
          simp only [if_true]
          refine wp_if_neg (by rw [decide_eq_false eq]; decide) ?_
          refine look_from ok R hb ro e1 e2 e3 yes no u (c + (q + 1)) _ rfl (by omega) (by omega) fun i' z' hz' ek => ?_
          obtain ⟨d, d1, d2, d3⟩ := still i' z' hz' ek
          refine ⟨d, ?_, d2, d3⟩
          rcases Nat.lt_trichotomy d (c + q) with lt | rfl | gt
          · refine absurd ((hs i' z' hz').trans (congrArg kd.hash ek)) (f4 (d - c) i' (by omega) ?_)
            rw [prb_way, show c + (d - c) = d by omega]; exact d3
          · have same := slot_live R.lay.ris d3
            rw [sl] at same
            injection same with same
            rw [← same, hz] at hz'
            exact absurd ((congrArg Prod.snd (Option.some.inj hz')).trans ek) eq
          · omega
      by_cases tl : t.led = true
      · refine wp_if_neg (by rw [tl]; decide) ?_
        try refine wpAny_bind (wpAny_pure ?_)
        exact on
      · refine wp_if_pos (by rw [Bool.not_eq_true] at tl; rw [tl]; rfl) ?_
        refine wpAny_bind (unseen ok hb (fun y hy => ?_) ?_)
        · obtain ⟨y1, m1, m2⟩ := List.mem_map.mp hy
          have m3 : y1 ∈ vs.toList := by
            have : y1 ∈ vs ∧ y1.1 = kd.hash k := by simpa using m1
            simpa using this.1
          rw [R.ents] at m3
          obtain ⟨z2, hz2, m4⟩ := List.mem_map.mp m3
          exact ⟨z2.2, z2.1, by rw [← m2, ← m4], R.keys z2 hz2⟩
        · refine wp_if_neg (by decide) ?_
          try refine wpAny_bind (wpAny_pure ?_)
          exact on
    · -- the empty slot is come to
      rw [prb_way, show c + (e - c) = e by omega] at f5
      have st : t.probe (fun i => (vs[i]?.map (·.1)).getD 0) (kd.hash k) (o.getD (t.probeStart (kd.hash k))) = some (.empty (way t.mask (kd.hash k) e) none) := by rw [ho]; exact f5
      rw [st]
      dsimp only
      refine wpAny_pure (no fun hm => ?_)
      obtain ⟨z, zL, ek⟩ := List.mem_map.mp hm
      obtain ⟨i, hi, ei⟩ := List.getElem_of_mem zL
      have hz : L[i]? = some z := by rw [List.getElem?_eq_getElem hi, ei]
      obtain ⟨d, d1, d2, d3⟩ := still i z hz ek
      refine absurd ((hs i z hz).trans (congrArg kd.hash ek)) (f4 (d - c) i (by omega) ?_)
      rw [prb_way, show c + (d - c) = d by omega]; exact d3
theorem look_at (ok : KeyOk kd) (R : SetH kd s.heap a L vs n t) {b : Addr} {k : κ} (hb : kd.is s.heap k b) (ro : kd.room A) {Q : SetFound → Shared → Prop} (yes : k ∈ L.map Prod.snd → Q (.there none) s)
    (no : ∀ e, k ∉ L.map Prod.snd → way t.mask (kd.hash k) e ∉ t.place.toList → (∀ c, c < e → way t.mask (kd.hash k) c ∈ t.place.toList) → Q (.free (way t.mask (kd.hash k) e) false) s) :
    wpAny (model P w) A (setSearch a (.ref b) (kd.hash k) true) Q E s := by
  have rm := R.loose
  obtain ⟨e, e1, e2, e3⟩ := R.lay.first (by rw [List.length_map]; omega) (kd.hash k)
  have few : e < 100000 := by
    have : 10 * SetTable.turns t.mask ≤ 1420 := by
      unfold SetTable.turns
      rcases R.lay.mok with m | m | m <;> omega
    omega
  unfold setSearch
  refine look_from ok R hb ro e1 e2 e3 yes (fun hn => no e hn e2 e3) 100000 0 none rfl (Nat.zero_le _) (by omega) fun i z hz ek => ?_
  have il : i < t.place.toList.length := by
    rw [Array.length_toList, R.plc]
    exact (List.getElem?_eq_some_iff.mp hz).1
  have hj := List.getElem?_eq_getElem il
  obtain ⟨d, d1, d2⟩ := R.lay.before e2 (h := kd.hash k) (i := i) (by rw [List.getElem?_map, hz, ← ek]; rfl) hj
  exact ⟨d, Nat.zero_le _, d1, by rw [d2]; exact hj⟩
end
end Ag

set_option Elab.async false
set_option linter.all false
set_option maxRecDepth 100000
set_option maxHeartbeats 4000000
namespace Ag
open PySem PySem.Spec PyProof.Rows L2
theorem self_pick {α : Type} : ∀ l : List α, (List.range l.length).filterMap (fun i => l[i]?) = l
  | [] => rfl
  | x :: l => by
    have e : (List.range (x :: l).length).filterMap (fun i => (x :: l)[i]?) = x :: (List.range l.length).filterMap (fun i => l[i]?) := by
      rw [List.length_cons, List.range_succ_eq_map, List.filterMap_cons_some (b := x) (by rfl), List.filterMap_map]
      congr 1
    rw [e, self_pick l]
section
variable {P : Program} {w : World} {κ : Type} [DecidableEq κ] {kd : HeapKind P w κ} {A : Around} {E : Value → Shared → Prop} {s : Shared} {a : Addr} {L : List (Addr × κ)} {vs : Array (Int × Value)} {n : Nat} {t : SetTable}
theorem picked {vs : Array (Int × Value)} {L : List (Addr × κ)} (e : vs.toList = entH kd L) : ∀ l : List Nat, (∀ i ∈ l, i < L.length) →
    l.filterMap (fun i => vs[i]?) = entH kd (l.filterMap fun i => L[i]?) ∧ ((l.filterMap fun i => L[i]?).map fun z => kd.hash z.2) = l.map fun i => (vs.map (·.1)).getD i 0
  | [], _ => ⟨rfl, rfl⟩
  | i :: l, h => by
    obtain ⟨h1, h2⟩ := picked e l fun j hj => h j (List.mem_cons_of_mem _ hj)
    have hi := h i List.mem_cons_self
    have e1 : L[i]? = some L[i] := List.getElem?_eq_getElem hi
    have e2 := ent_at e e1
    have e3 : (vs.map (·.1)).getD i 0 = kd.hash (L[i]).2 := by
      have : (vs.map (·.1))[i]? = some (kd.hash (L[i]).2) := by rw [Array.getElem?_map, e2]; rfl
      rw [Array.getD_eq_getD_getElem?, this]; rfl
    rw [List.filterMap_cons_some e2, List.filterMap_cons_some e1, h1, List.map_cons, List.map_cons, h2, e3]
    exact ⟨rfl, rfl⟩
/-- the table is laid anew, with more room -/
theorem relay_h (ok : KeyOk kd) {o : Obj} (g1 : s.heap.get? a = some o) (g2 : o.ExactSet) (g3 : o.data = .set vs n t) (e : vs.toList = entH kd L) (z : t.place.size = vs.size) (dm : t.dummies = #[]) (le : vs.size ≤ t.mask) (once : (L.map Prod.snd).Nodup)
    (keys : ∀ z ∈ L, kd.is s.heap z.2 z.1) (told : w.params.followText "set-order" = true ∨ t.led = true) (few : L.length < 64) {want M : Nat} (w1 : SetTable.sizeAbove want - 1 = M) (w2 : MaskOk M) (w3 : SetTable.sizeAbove want ≤ 128)
    (w4 : L.length * 5 < M * 3) {Q : Unit → Shared → Prop} (q : ∀ h' L' vs' n' t', Heap.SameBut a s.heap h' → SetH kd h' a L' vs' n' t' → L'.Perm L → Q () { s with heap := h' }) : wpAny (model P w) A (setRelay a want) Q E s := by
  have len := ent_len e
  obtain ⟨t', od, r1, r2, r3, r4, r5, r6, r7⟩ := relaid_ok t (hs := vs.map (·.1)) (wanted := want) w1 w2 (by rw [Array.size_map, len]; omega)
  rw [Array.size_map, len] at r2
  obtain ⟨p1, p2⟩ := picked e od.toList fun i hi => List.mem_range.mp (r2.mem_iff.mp hi)
  have p3 : (od.toList.filterMap fun i => L[i]?).Perm L := by
    have := r2.filterMap fun i => L[i]?
    rwa [self_pick] at this
  have p4 : (od.filterMap (vs[·]?)).toList = entH kd (od.toList.filterMap fun i => L[i]?) := by rw [Array.toList_filterMap]; exact p1
  rw [← p2] at r3
  generalize od.toList.filterMap (fun i => L[i]?) = L' at p3 p4 r3
  have len2 := ent_len p4
  rw [p3.length_eq] at len2
  rw [setRelay_eq]
  refine wpAny_bind (wpAny_setState_of g1 g3 (fit_of e z dm le) ?_)
  dsimp only
  refine wp_if_neg (by rw [sizeLine_eq]; omega) ?_
  try refine wpAny_bind (wpAny_pure ?_)
  rw [r1]
  dsimp only
  refine wpAny_bind ?_
  refine wp_if_neg (by rw [len2, len]; simp) ?_
  try refine wpAny_bind (wpAny_pure ?_)
  refine wpAny_pure ?_
  dsimp only
  refine wpAny_storeSet_of g1 g3 ?_ (by rw [len2, sizeLine_eq]; omega)
  have sb : Heap.SameBut a s.heap (s.heap.update a (Obj.putSet (od.filterMap (vs[·]?)) t')) := Heap.SameBut.update ..
  exact q _ L' (od.filterMap (vs[·]?)) (n + 1) t' sb ⟨⟨_, store_at g1 g3, ⟨g2.1, g2.2.1, g2.2.2⟩, rfl⟩, p4, r3, (p3.map Prod.snd).nodup_iff.mpr once, fun y hy => ok.but (keys y (p3.mem_iff.mp hy)) g1 g3 sb, by rw [r5]; exact told,
    by rw [p3.length_eq, r4]; exact w4, by rw [p3.length_eq]; exact few⟩ p3
theorem grown_case {m l : Nat} (mk : MaskOk m) (lt : l * 5 < m * 3) (ge : m * 3 ≤ (l + 1) * 5) (few : l + 1 < 64) : ∃ M, SetTable.sizeAbove (SetTable.grown (l + 1)) - 1 = M ∧ MaskOk M ∧ SetTable.sizeAbove (SetTable.grown (l + 1)) ≤ 128 ∧ (l + 1) * 5 < M * 3 := by
  rcases mk with rfl | rfl | rfl
  · have : l = 4 := by omega
    subst this
    exact ⟨31, by rw [size_20], .inr (.inl rfl), by rw [size_20]; decide, by decide⟩
  · have : l = 18 := by omega
    subst this
    exact ⟨127, by rw [size_76], .inr (.inr rfl), by rw [size_76]; decide, by decide⟩
  · exact absurd ge (by omega)
/-- a key is added -/
theorem add_h (ok : KeyOk kd) (R : SetH kd s.heap a L vs n t) {b : Addr} {k : κ} (hb : kd.is s.heap k b) (ro : kd.room A) (few : L.length + 1 < 64) {Q : Bool → Shared → Prop}
    (q : ∀ r h' L' vs' n' t', Heap.SameBut a s.heap h' → SetH kd h' a L' vs' n' t' → (k ∈ L.map Prod.snd → L' = L) → (k ∉ L.map Prod.snd → L'.Perm ((b, k) :: L)) → Q r { s with heap := h' }) :
    wpAny (model P w) A (setAddHashed a (.ref b) (kd.hash k)) Q E s := by
  obtain ⟨o, g1, g2, g3⟩ := R.at_
  have len := ent_len R.ents
  have rm := R.loose
  unfold setAddHashed
  refine wpAny_holding ?_
  rw [show (100000 : Nat) = 99999 + 1 from rfl, setAddHashedIn_succ]
  refine wpAny_bind (wpAny_setState_of g1 g3 R.fits ?_)
  dsimp only
  refine wp_if_neg (by simp [byScan, Value.scannable]) ?_
  try refine wpAny_bind (wpAny_pure ?_)
  refine wpAny_bind (look_at ok R hb ro (fun yes => ?_) fun e no e2 e3 => ?_)
  · dsimp only
    exact wpAny_pure (q false s.heap L vs n t (Heap.SameBut.refl a s.heap) R (fun _ => rfl) fun no => absurd yes no)
  · dsimp only
    refine wpAny_bind (wpAny_setState_of g1 g3 R.fits ?_)
    dsimp only
    obtain ⟨q1, q2, q3, q4, q5, q6, q7, q8, q9⟩ := R.lay.put e2 e3
    generalize hT : t.put (way t.mask (kd.hash k) e) = T1 at q1 q3 q4 q5 q7 q8 q9 ⊢
    obtain ⟨t0, j⟩ := T1
    dsimp only at q1 q3 q4 q5 q7 q8 q9 ⊢
    subst q1
    refine byv_if ok hb fun r0 => ?_
    generalize hT2 : (if r0 = true then t0 else { t0 with plain := false }) = t1
    obtain ⟨q3, q4, q5, q9⟩ : TabOk t1 ((L.map fun z => kd.hash z.2).take (SetTable.below t.place (way t.mask (kd.hash k) e)) ++ kd.hash k :: (L.map fun z => kd.hash z.2).drop (SetTable.below t.place (way t.mask (kd.hash k) e))) ∧ t1.mask = t.mask ∧ t1.led = t.led ∧ t1.fill = (L.map fun z => kd.hash z.2).length + 1 := by
      subst hT2
      cases r0 with
      | true => exact ⟨q3, q4, q5, q9⟩
      | false => exact ⟨⟨q3.ris, q3.dm, q3.sz, q3.mok, q3.bd, q3.reach⟩, q4, q5, q9⟩
    clear hT2
    generalize hj : SetTable.below t.place (way t.mask (kd.hash k) e) = j at q2 q3 ⊢
    have p1 := put_perm L j (b, k)
    have e1 : (SetTable.insertAt vs j (kd.hash k, Value.ref b)).toList = entH kd (L.take j ++ (b, k) :: L.drop j) := by
      rw [SetTable.toList_insertAt, R.ents]
      unfold entH
      rw [List.map_append, List.map_cons, List.map_take, List.map_drop]
    have p2 : ((L.take j ++ (b, k) :: L.drop j).map fun z => kd.hash z.2) = (L.map fun z => kd.hash z.2).take j ++ kd.hash k :: (L.map fun z => kd.hash z.2).drop j := by rw [List.map_append, List.map_cons, List.map_take, List.map_drop]
    rw [← p2] at q3
    generalize SetTable.insertAt vs j (kd.hash k, Value.ref b) = v1 at e1 ⊢
    generalize L.take j ++ (b, k) :: L.drop j = L1 at p1 q3 e1
    have l1 : L1.length = L.length + 1 := p1.length_eq
    have l2 : v1.size = L.length + 1 := by rw [ent_len e1, l1]
    have once : (L1.map Prod.snd).Nodup := (p1.map Prod.snd).nodup_iff.mpr (List.nodup_cons.mpr ⟨no, R.once⟩)
    refine wpAny_bind (wpAny_storeSet_of g1 g3 ?_ (by rw [l2, sizeLine_eq]; omega))
    have sb : Heap.SameBut a s.heap (s.heap.update a (Obj.putSet v1 t1)) := Heap.SameBut.update ..
    have o1 := store_at (es' := v1) (t' := t1) g1 g3
    generalize s.heap.update a (Obj.putSet v1 t1) = h1 at sb o1 ⊢
    have keys : ∀ z ∈ L1, kd.is h1 z.2 z.1 := fun z hz => by
      rcases List.mem_cons.mp (p1.mem_iff.mp hz) with ez | hz
      · rw [ez]; exact ok.but hb g1 g3 sb
      · exact ok.but (R.keys z hz) g1 g3 sb
    have told : w.params.followText "set-order" = true ∨ t1.led = true := by rw [q5]; exact R.told
    have full : t1.tooFull = true ↔ t.mask * 3 ≤ (L.length + 1) * 5 := by
      unfold SetTable.tooFull
      rw [decide_eq_true_iff, q9, List.length_map, q4]
    by_cases tf : t1.tooFull = true
    · obtain ⟨M, w1, w2, w3, w4⟩ := grown_case R.lay.mok rm (full.mp tf) few
      first
        | (refine wpAny_bind ?_; refine wp_if_pos (by rw [tf]; rfl) ?_)
        | (refine wp_if_pos (by rw [tf]; rfl) ?_; refine wpAny_bind ?_)
      rw [len]
      refine relay_h (s := { s with heap := h1 }) ok o1 ⟨g2.1, g2.2.1, g2.2.2⟩ rfl e1 (by have := q3.sz; rw [List.length_map] at this; rw [this, l1, l2]) q3.dm (by rw [l2, q4]; rcases R.lay.mok with m | m | m <;> omega) once keys told (by rw [l1]; exact few) w1 w2 w3 (by rw [l1]; exact w4) fun h2 L2 v2 n2 t2 sb2 R2 p3 => ?_
      exact wpAny_pure (q true h2 L2 v2 n2 t2 (sb.trans sb2) R2 (fun yes => absurd yes no) fun _ => p3.trans p1)
    · have nf : ¬ t.mask * 3 ≤ (L.length + 1) * 5 := fun z => tf (full.mpr z)
      rw [Bool.not_eq_true] at tf
      first
        | refine wp_if_neg (by rw [tf]; decide) ?_
        | (refine wpAny_bind ?_; refine wp_if_neg (by rw [tf]; decide) ?_; refine wpAny_pure ?_)
      refine wpAny_pure (q true h1 L1 v1 (n + 1) t1 sb ⟨⟨_, o1, ⟨g2.1, g2.2.1, g2.2.2⟩, rfl⟩, e1, q3, once, keys, told, by rw [l1, q4]; omega, by rw [l1]; exact few⟩ (fun yes => absurd yes no) fun _ => p1)
/-- what a set has got of the first i keys -/
structure Has (ks : List (Addr × κ)) (i : Nat) (L : List (Addr × κ)) : Prop where
  of : ∀ z ∈ L, z ∈ ks.take i
  all : ∀ z ∈ ks.take i, z.2 ∈ L.map Prod.snd
  len : L.length ≤ i
theorem Has.step {ks L L' : List (Addr × κ)} {i : Nat} {z : Addr × κ} (g : Has ks i L) (h : ks[i]? = some z) (h1 : z.2 ∈ L.map Prod.snd → L' = L) (h2 : z.2 ∉ L.map Prod.snd → L'.Perm (z :: L)) : Has ks (i + 1) L' := by
  have e : ks.take (i + 1) = ks.take i ++ [z] := by rw [List.take_succ, h]; rfl
  rw [show Has ks (i + 1) L' ↔ ((∀ y ∈ L', y ∈ ks.take (i + 1)) ∧ (∀ y ∈ ks.take (i + 1), y.2 ∈ L'.map Prod.snd) ∧ L'.length ≤ i + 1) from ⟨fun x => ⟨x.of, x.all, x.len⟩, fun x => ⟨x.1, x.2.1, x.2.2⟩⟩, e]
  by_cases hz : z.2 ∈ L.map Prod.snd
  · rw [h1 hz]
    refine ⟨fun y hy => List.mem_append_left _ (g.of y hy), fun y hy => ?_, Nat.le_succ_of_le g.len⟩
    rcases List.mem_append.mp hy with m | m
    · exact g.all y m
    · rw [List.mem_singleton.mp m]; exact hz
  · have pm := h2 hz
    refine ⟨fun y hy => ?_, fun y hy => (pm.map Prod.snd).mem_iff.mpr ?_, by rw [pm.length_eq]; exact Nat.succ_le_succ g.len⟩
    · rcases List.mem_cons.mp (pm.mem_iff.mp hy) with m | m
      · rw [m]; exact List.mem_append_right _ List.mem_cons_self
      · exact List.mem_append_left _ (g.of y m)
    · rcases List.mem_append.mp hy with m | m
      · exact List.mem_cons_of_mem _ (g.all y m)
      · rw [List.mem_singleton.mp m]; exact List.mem_cons_self
theorem SetH.keep {h h' : Heap} (R : SetH kd h a L vs n t) (e : ∀ o, h.get? a = some o → h'.get? a = some o) (k : ∀ z ∈ L, kd.is h' z.2 z.1) : SetH kd h' a L vs n t := by
  obtain ⟨o, g1, g⟩ := R.at_
  exact ⟨⟨o, e o g1, g⟩, R.ents, R.lay, R.once, k, R.told, R.loose, R.small⟩
theorem setH_new {h : Heap} (g : h.get? a = some { cls := .type "set", dict := none, data := .set #[] 0 (.fresh 0 0 (!w.params.followText "set-order")) }) : SetH kd h a [] #[] 0 (.fresh 0 0 (!w.params.followText "set-order")) := by
  refine ⟨⟨_, g, ⟨rfl, rfl, rfl⟩, rfl⟩, rfl, ⟨List.Pairwise.nil, rfl, rfl, .inl rfl, fun y hy => ?_, fun i y j hi => ?_⟩, List.nodup_nil, fun z hz => ?_, ?_, ?_, ?_⟩
  · cases hy
  · simp at hi
  · cases hz
  · show _ ∨ (!w.params.followText "set-order") = true
    cases w.params.followText "set-order" <;> simp
  · show 0 * 5 < 7 * 3; decide
  · show 0 < 64; decide
end
end Ag

set_option Elab.async false
set_option linter.all false
set_option maxRecDepth 100000
set_option maxHeartbeats 4000000
namespace Ag
open PySem PySem.Spec PyProof.Rows L2
section
variable {P : Program} {w : World} {A : Around} {E : Value → Shared → Prop} {s : Shared}
/-- tuples of numbers and texts -/
abbrev TKind (P : Program) (w : World) : HeapKind P w (List Key) := tupleKind (mixKind P w)
theorem flat_items {k : List Key} {us : List Value} (h : ItemsAre (mixKind P w) k us) : ∀ u ∈ us, (∃ i t, u = Value.int i t) ∨ ∃ x t, u = Value.str x t := by
  induction h with
  | nil => exact fun u hu => absurd hu List.not_mem_nil
  | cons a _ ih =>
    refine fun u hu => (List.mem_cons.mp hu).elim (fun e => ?_) (ih u)
    subst e
    rcases keyIs_shape a with ⟨i, t, _, e⟩ | ⟨x, t, _, e⟩
    · exact .inl ⟨i, t, e⟩
    · exact .inr ⟨x, t, e⟩
theorem cls_flat {n : Nat} {u : Value} (h : (∃ i t, u = Value.int i t) ∨ ∃ x t, u = Value.str x t) : ofAClassStatement n u = pure false := by
  rcases h with ⟨i, t, rfl⟩ | ⟨x, t, rfl⟩ <;> cases n <;> rfl
theorem byv_flat {n : Nat} {u : Value} (h : (∃ i t, u = Value.int i t) ∨ ∃ x t, u = Value.str x t) : ∃ r, hashByValue n u = pure r := by
  rcases h with ⟨i, t, rfl⟩ | ⟨x, t, rfl⟩
  · exact ⟨true, by cases n <;> rfl⟩
  · exact ⟨false, by cases n <;> rfl⟩
theorem tkind_ok : KeyOk (TKind P w) where
  old := fun e k => let ⟨o, its, m, e1, e2⟩ := k; ⟨o, its, m, e _ _ e1, e2⟩
  but := fun {h h' k b d o vs n t} hk g1 g3 sb => by
    obtain ⟨o', its, m, e1, e2, e3, e4⟩ := hk
    refine ⟨o', its, m, (sb.2 b fun z => ?_).trans e1, e2, e3, e4⟩
    subst z
    rw [e1] at g1
    cases Option.some.inj g1
    rw [e3] at g3; cases g3
  cls := fun {A E s k b Q} hk q => by
    have ty := IsTupleKey.typeIs hk
    obtain ⟨o, its, m, e1, _, e3, e4⟩ := hk
    unfold ofAClassStatement
    refine wpAny_bind (wpAny_typeOf ty ?_)
    dsimp only
    simp only [show (("tuple" : String) == "tuple") = true by decide, if_true, Bool.not_true, Bool.false_eq_true, if_false]
    try refine wpAny_bind (wpAny_pure ?_)
    try simp only [Bool.not_true, Bool.false_eq_true, if_false]
    show wpAny _ _ (seqItems? (.ref b) >>= _) _ _ s
    refine wpAny_bind (wpAny_seqItems e1 e3 ?_)
    dsimp only
    refine wpAny_bind ?_
    show wpAny _ _ (forIn its _ _) _ _ s
    rw [← Array.forIn_toList]
    refine wpAny_forIn_list _ (fun left out s1 => out.1 = none ∧ s1 = s ∧ ∀ u ∈ left, (∃ i t, u = Value.int i t) ∨ ∃ x t, u = Value.str x t) _ (fun u left out s1 z => ?_) (fun out s1 z => ?_) _ _ ⟨rfl, rfl, flat_items e4⟩
    · obtain ⟨_, rfl, z⟩ := z
      rw [cls_flat (z u List.mem_cons_self)]
      refine wpAny_bind (wpAny_pure ?_)
      simp only [Bool.false_eq_true, if_false]
      exact wpAny_pure ⟨rfl, rfl, fun y hy => z y (List.mem_cons_of_mem _ hy)⟩
    · obtain ⟨o1, o2⟩ := out
      obtain ⟨z1, rfl, _⟩ := z
      have z1 : o1 = none := z1
      subst z1
      exact wpAny_pure q
  byv := fun {A E s k b Q} hk q => by
    have ty := IsTupleKey.typeIs hk
    obtain ⟨o, its, m, e1, _, e3, e4⟩ := hk
    unfold hashByValue
    refine wpAny_bind (wpAny_specialOf ty F.slot_tuple_hash.lookup ?_)
    show wpAny _ _ (seqItems? (.ref b) >>= _) _ _ s
    refine wpAny_bind (wpAny_seqItems e1 e3 ?_)
    refine wpAny_bind ?_
    show wpAny _ _ (forIn its _ _) _ _ s
    rw [← Array.forIn_toList]
    refine wpAny_forIn_list _ (fun left out s1 => s1 = s ∧ ∀ u ∈ left, (∃ i t, u = Value.int i t) ∨ ∃ x t, u = Value.str x t) _ (fun u left out s1 z => ?_) (fun out s1 z => ?_) _ _ ⟨rfl, flat_items e4⟩
    · obtain ⟨rfl, z⟩ := z
      obtain ⟨r, er⟩ := byv_flat (n := 7) (z u List.mem_cons_self)
      rw [er]
      refine wpAny_bind (wpAny_pure ?_)
      cases r with
      | true =>
        simp only [Bool.not_true, Bool.false_eq_true, if_false]
        exact wpAny_pure ⟨rfl, fun y hy => z y (List.mem_cons_of_mem _ hy)⟩
      | false =>
        simp only [Bool.not_false, if_true]
        exact wpAny_pure (wpAny_pure (q _))
    · obtain ⟨o1, o2⟩ := out
      obtain ⟨rfl, _⟩ := z
      cases o1 with
      | none => exact wpAny_pure (q _)
      | some r => exact wpAny_pure (q _)
variable {κ : Type} [DecidableEq κ] {kd : HeapKind P w κ}
/-- set.update's loop over keys -/
theorem upd_keys (ok : KeyOk kd) {I : Addr} {fp wr : List Addr} {G : Array GenState → Array GenState → Prop} {n : Nat} {Pv : Nat → Value → Prop} {St : Nat → Shared → Prop} {R : Result → Shared → Prop}
    (W : WalksS P w A.in1 I fp wr G n Pv St) (C : Addr) (hC : C ∉ fp) (ks : List (Addr × κ)) (hn : n = ks.length) (hb : ks.length < 64) (hv : ∀ i v, Pv i v → ∃ z, ks[i]? = some z ∧ v = Value.ref z.1)
    (h0 : Heap) (hk : ∀ z ∈ ks, kd.is h0 z.2 z.1) (hC0 : h0.get? C = none) (hw0 : ∀ b ∈ wr, h0.get? b = none) (ro : kd.room A.in1) :
    ∀ (j i : Nat) (s : Shared), n - i = j → i ≤ n → St i s → (∀ b o, h0.get? b = some o → s.heap.get? b = some o) → (∃ L vs m t, SetH kd s.heap C L vs m t ∧ Has ks i L) →
      (∀ s' L vs m t, Moved (C :: wr) G s s' → SetH kd s'.heap C L vs m t → Has ks n L → (∀ b o, h0.get? b = some o → s'.heap.get? b = some o) → R (.ok (.ret .none)) s') →
      codeAny (model P w) A (.builtin "set.update.loop" ⟨[.ref C, .ref I], []⟩) R s := by
  have hCw : C ∉ wr := fun z => hC (W.sub _ z)
  have wide : ∀ b ∈ wr, b ∈ C :: wr := fun b z => List.mem_cons_of_mem _ z
  have stay : ∀ {s s' : Shared}, Moved wr G s s' → (∀ b o, h0.get? b = some o → s.heap.get? b = some o) → ∀ b o, h0.get? b = some o → s'.heap.get? b = some o := fun mv kp b o e => mv.heap b o (fun z => by rw [hw0 b z] at e; cases e) (kp b o e)
  have isIn : ∀ {L i}, Has ks i L → ∀ z ∈ L, kd.is h0 z.2 z.1 := fun g z hz => hk z (List.mem_of_mem_take (g.of z hz))
  intro j
  induction j with
  | zero =>
    intro i s hj hi st kp ⟨L, vs, m, t, hS, g⟩ hR
    obtain rfl : i = n := by omega
    refine codeAny_builtin F.entry_set_update_loop ?_
    rw [Around.under_plainId F.plain_set_update_loop _]
    show wpAny _ A.in1 (pyNext (.ref I) >>= _) _ _ s
    refine wpAny_bind (W.done s _ _ st fun s' mv => ?_)
    show wpAny _ A.in1 (ret Value.none) _ _ s'
    have kp2 := stay mv kp
    exact wpAny_pure (hR s' L vs m t (mv.mono wide) (hS.keep (fun o e => mv.heap C o hCw e) fun z hz => ok.old kp2 (isIn g z hz)) g kp2)
  | succ j ih =>
    intro i s hj hi st kp ⟨L, vs, m, t, hS, g⟩ hR
    have lt : i < n := by omega
    refine codeAny_builtin F.entry_set_update_loop ?_
    rw [Around.under_plainId F.plain_set_update_loop _]
    show wpAny _ A.in1 (pyNext (.ref I) >>= _) _ _ s
    refine wpAny_bind (W.item i s _ _ lt st fun v s' pv st' mv => ?_)
    obtain ⟨z, hz, rfl⟩ := hv i v pv
    have kp2 := stay mv kp
    have hS2 := hS.keep (h' := s'.heap) (fun o e => mv.heap C o hCw e) fun z hz => ok.old kp2 (isIn g z hz)
    have hz2 : kd.is s'.heap z.2 z.1 := ok.old kp2 (hk z (List.mem_of_getElem? hz))
    show wpAny _ A.in1 (holding [Value.ref z.1] (setAdd C (.ref z.1)) >>= _) _ _ s'
    refine wpAny_bind (wpAny_holding ?_)
    unfold setAdd
    refine wpAny_holding (wpAny_bind (kd.pyHash ro hz2 ?_))
    refine add_h (s := { s' with toks := s'.toks + kd.draws z.2 }) ok hS2 hz2 ro (by have := g.len; omega) fun r h' L' vs' m' t' sb hS3 c1 c2 => ?_
    have kp3 : ∀ b o, h0.get? b = some o → h'.get? b = some o := fun b o e => (sb.2 b (fun q => by rw [q, hC0] at e; cases e)).trans (kp2 b o e)
    refine wpAny_pure ⟨plainId_quiet F.plain_set_update_loop _, ih (i + 1) _ (by omega) lt (W.frame _ s' _ _ st' (Nat.le_add_right _ _) fun b q o e => ?_) kp3 ⟨L', vs', m', t', hS3, g.step hz c1 c2⟩ fun s2 L2 vs2 m2 t2 mv2 hS4 g2 kp4 => hR s2 L2 vs2 m2 t2 ?_ hS4 g2 kp4⟩
    · rw [sb.2 b (fun y => hC (y ▸ q))]; exact e
    · refine Moved.trans W.gtrans ((mv.mono wide).then_heap (Nat.le_add_right _ _) fun b o q e => ?_) mv2
      rw [sb.2 b (fun y => q (y ▸ List.mem_cons_self))]; exact e
set_option maxHeartbeats 4000000 in
theorem set_of_keys (ok : KeyOk kd) {s : Shared} {l : Addr} {items : Array Value} {ks : List (Addr × κ)} {Q : Value → Shared → Prop} (hh : A.handled = none) (hl : s.heap.IsList l items) (hi : items.toList = ks.map fun z => Value.ref z.1) (hk : ∀ z ∈ ks, kd.is s.heap z.2 z.1) (hb : ks.length < 64)
    (ro : kd.room A.in1.in1.in1)
    (hQ : ∀ (h' : Heap) (tk : Nat) L vs m t, SetH kd h' s.heap.objs.size L vs m t → Has ks ks.length L → (∀ b o, s.heap.get? b = some o → h'.get? b = some o) → Q (.ref s.heap.objs.size) { s with heap := h', toks := tk }) :
    wpAny (model P w) A (call (.type "set") [.ref l]) Q E s := by
  have isz : items.size = ks.length := by
    have := congrArg List.length hi
    rwa [Array.length_toList, List.length_map] at this
  obtain ⟨c, tl, hmro⟩ := F.called_set.mro
  have hmade := F.called_set.made
  have hsub := F.called_set.sub
  refine wpAny_call (codeAny_of_tree ?_)
  show wpAny _ _ (callAny (.type "set") _) _ _ _
  refine wpAny_pure ⟨Code.quiet_builtin _ (by decide +kernel), codeAny_builtin F.entry_type_call ?_⟩
  rw [Around.under_plain (weight_type_call_type "set" [.ref l] []) rfl]
  have h1 := F.called_set.notType
  have h2 := F.called_set.canCreate
  have hct := F.typeCall_set_1 (.ref l)
  repeat (any_goals (first | assumption | wp_step))
  refine codeAny_mono (code_set_led1 (.ref l) (E := E) (Q₁ := fun obj s₁ => obj = .ref s.heap.objs.size ∧ s₁ = { s with heap := s.heap.push ({ cls := .type "set", dict := none, data := .set #[] 0 (.fresh 0 0 (!w.params.followText "set-order")) } : Obj) }) ⟨rfl, rfl⟩) fun r s₁ hr => ?_
  cases r with
  | error e => exact hr
  | ok fl =>
    cases fl with
    | ret obj =>
      obtain ⟨rfl, rfl⟩ := hr
      have hS : (s.heap.push ({ cls := .type "set", dict := none, data := .set #[] 0 (.fresh 0 0 (!w.params.followText "set-order")) } : Obj)).get? s.heap.objs.size = some ({ cls := .type "set", dict := none, data := .set #[] 0 (.fresh 0 0 (!w.params.followText "set-order")) } : Obj) := Heap.get?_push_size _ rfl
      have hT : Shared.TypeIs { s with heap := s.heap.push ({ cls := .type "set", dict := none, data := .set #[] 0 (.fresh 0 0 (!w.params.followText "set-order")) } : Obj) } (.ref s.heap.objs.size) "set" := ⟨_, hS, rfl⟩
      have hli := F.called_set.init.lookup
      have hbi := F.called_set.init.bind (.ref s.heap.objs.size)
      repeat (any_goals (first | assumption | wp_step))
      refine codeAny_mono (codeAny_call_builtin (R := wants (fun r s₂ => r = .none ∧ ∃ h' tk L vs m t, s₂ = { s with heap := h', toks := tk } ∧ SetH kd h' s.heap.objs.size L vs m t ∧ Has ks ks.length L ∧
          (∀ b o, s.heap.get? b = some o → h'.get? b = some o)) E) F.called_set.init.plain F.entry_set_init (check_set_init_1 hT ?_)) fun r₂ s₂ hr₂ => ?_
      · obtain ⟨ol, hol, hcl, nl, hdl⟩ := hl
        obtain ⟨ocls, odict, odata, oslots⟩ := ol
        simp only at hcl hdl
        subst hcl; subst hdl
        have hol1 : (s.heap.push ({ cls := .type "set", dict := none, data := .set #[] 0 (.fresh 0 0 (!w.params.followText "set-order")) } : Obj)).get? l = some { cls := .type "list", dict := odict, data := .seq items nl, slots := oslots } := Heap.get?_push_of_some _ hol
        have hsls := F.sub_list_set
        have hslf := F.sub_list_frozenset
        have hne : (Value.type "list" == Value.type "dict") = false := by decide
        have hl1 : (s.heap.push ({ cls := .type "set", dict := none, data := .set #[] 0 (.fresh 0 0 (!w.params.followText "set-order")) } : Obj)).IsList l items := ⟨_, hol1, rfl, nl, rfl⟩
        unfold Builtin.«set.__init__» noKeywords Builtin.Frozenset.updateFrom
        generalize hPI : pyIter = PI
        wp_walk
        subst hPI
        refine wpAny_pyIter_list hl1 ?_
        refine wpAny_bind (wpAny_runValue ?_)
        have llt : l < s.heap.objs.size := Heap.lt_size hol
        have hh3 : A.in1.in1.in1.handled = none := by simp [hh]
        have z1 : (s.heap.push ({ cls := .type "set", dict := none, data := .set #[] 0 (.fresh 0 0 (!w.params.followText "set-order")) } : Obj)).objs.size = s.heap.objs.size + 1 := Heap.size_push ..
        have ne1 : l ≠ (s.heap.push ({ cls := .type "set", dict := none, data := .set #[] 0 (.fresh 0 0 (!w.params.followText "set-order")) } : Obj)).objs.size := by rw [z1]; exact Nat.ne_of_lt (Nat.lt_succ_of_lt llt)
        have hnf : s.heap.objs.size ∉ [(s.heap.push ({ cls := .type "set", dict := none, data := .set #[] 0 (.fresh 0 0 (!w.params.followText "set-order")) } : Obj)).objs.size, l] := by
          rw [z1]; intro z
          rcases List.mem_cons.mp z with z | z
          · exact Nat.ne_of_lt (Nat.lt_succ_self _) z
          · exact Nat.ne_of_gt llt (List.mem_singleton.mp z)
        have hval : ∀ (i : Nat) (v : Value), items[i]? = some v → ∃ z, ks[i]? = some z ∧ v = Value.ref z.1 := fun i v q => by
          have q2 : items.toList[i]? = some v := by rw [Array.getElem?_toList]; exact q
          rw [hi, List.getElem?_map] at q2
          cases e : ks[i]? with
          | none => rw [e] at q2; cases q2
          | some z => rw [e] at q2; exact ⟨z, rfl, (Option.some.inj q2).symm⟩
        have noObj : ∀ b, s.heap.objs.size ≤ b → s.heap.get? b = none := fun b hb => by
          cases q : s.heap.get? b with
          | none => rfl
          | some o => exact absurd (Heap.lt_size q) (Nat.not_lt.mpr hb)
        refine upd_keys ok ((Walks.list hh3 _ l ne1 items).toS) s.heap.objs.size hnf ks isz hb hval s.heap hk (noObj _ (Nat.le_refl _)) (fun b hb => noObj b (by rw [List.mem_singleton.mp hb, z1]; exact Nat.le_succ _)) ro (items.size - 0) 0 _ (by omega) (Nat.zero_le _)
          ⟨⟨_, Heap.get?_push_size _ rfl, rfl, rfl⟩, (hl1.push _)⟩ (fun b o e => Heap.get?_push_of_some _ (Heap.get?_push_of_some _ e)) ⟨[], #[], 0, _, setH_new (Heap.get?_push_of_some _ hS), ⟨fun z hz => (nomatch hz), fun z hz => (nomatch hz), Nat.le_refl _⟩⟩ fun s' L vs m t mv hS' g kp => ?_
        obtain ⟨h', g2, d', tk', os'⟩ := s'
        have eg : g2 = s.gens := mv.gens
        have ed : d' = s.drawn := mv.drawn
        have eo : os' = s.os := mv.os
        subst eg; subst ed; subst eo
        show wpAny _ _ _ _ _ _
        refine wpAny_pure ?_
        show wpAny _ _ (ret Value.none) _ _ _
        rw [isz] at g
        exact wpAny_pure ⟨rfl, h', tk', L, vs, m, t, rfl, hS', g, kp⟩
      · cases r₂ with
        | error e => exact hr₂
        | ok fl₂ =>
          cases fl₂ with
          | ret r =>
            obtain ⟨rfl, h', tk, L, vs, m, t, rfl, hS', g, kp⟩ := hr₂
            repeat (any_goals (first | assumption | wp_step))
            exact hQ _ _ _ _ _ _ hS' g kp
          | _ => exact hr₂.elim
    | _ => exact hr.elim
set_option maxHeartbeats 4000000 in
theorem set_of_keysT (ok : KeyOk kd) {s : Shared} {l : Addr} {items : Array Value} {ks : List (Addr × κ)} {Q : Value → Shared → Prop} (hh : A.handled = none) (hl : s.heap.IsTuple l items) (hi : items.toList = ks.map fun z => Value.ref z.1) (hk : ∀ z ∈ ks, kd.is s.heap z.2 z.1) (hb : ks.length < 64)
    (ro : kd.room A.in1.in1.in1)
    (hQ : ∀ (h' : Heap) (tk : Nat) L vs m t, SetH kd h' s.heap.objs.size L vs m t → Has ks ks.length L → (∀ b o, s.heap.get? b = some o → h'.get? b = some o) → Q (.ref s.heap.objs.size) { s with heap := h', toks := tk }) :
    wpAny (model P w) A (call (.type "set") [.ref l]) Q E s := by
  have isz : items.size = ks.length := by
    have := congrArg List.length hi
    rwa [Array.length_toList, List.length_map] at this
  obtain ⟨c, tl, hmro⟩ := F.called_set.mro
  have hmade := F.called_set.made
  have hsub := F.called_set.sub
  refine wpAny_call (codeAny_of_tree ?_)
  show wpAny _ _ (callAny (.type "set") _) _ _ _
  refine wpAny_pure ⟨Code.quiet_builtin _ (by decide +kernel), codeAny_builtin F.entry_type_call ?_⟩
  rw [Around.under_plain (weight_type_call_type "set" [.ref l] []) rfl]
  have h1 := F.called_set.notType
  have h2 := F.called_set.canCreate
  have hct := F.typeCall_set_1 (.ref l)
  repeat (any_goals (first | assumption | wp_step))
  refine codeAny_mono (code_set_led1 (.ref l) (E := E) (Q₁ := fun obj s₁ => obj = .ref s.heap.objs.size ∧ s₁ = { s with heap := s.heap.push ({ cls := .type "set", dict := none, data := .set #[] 0 (.fresh 0 0 (!w.params.followText "set-order")) } : Obj) }) ⟨rfl, rfl⟩) fun r s₁ hr => ?_
  cases r with
  | error e => exact hr
  | ok fl =>
    cases fl with
    | ret obj =>
      obtain ⟨rfl, rfl⟩ := hr
      have hS : (s.heap.push ({ cls := .type "set", dict := none, data := .set #[] 0 (.fresh 0 0 (!w.params.followText "set-order")) } : Obj)).get? s.heap.objs.size = some ({ cls := .type "set", dict := none, data := .set #[] 0 (.fresh 0 0 (!w.params.followText "set-order")) } : Obj) := Heap.get?_push_size _ rfl
      have hT : Shared.TypeIs { s with heap := s.heap.push ({ cls := .type "set", dict := none, data := .set #[] 0 (.fresh 0 0 (!w.params.followText "set-order")) } : Obj) } (.ref s.heap.objs.size) "set" := ⟨_, hS, rfl⟩
      have hli := F.called_set.init.lookup
      have hbi := F.called_set.init.bind (.ref s.heap.objs.size)
      repeat (any_goals (first | assumption | wp_step))
      refine codeAny_mono (codeAny_call_builtin (R := wants (fun r s₂ => r = .none ∧ ∃ h' tk L vs m t, s₂ = { s with heap := h', toks := tk } ∧ SetH kd h' s.heap.objs.size L vs m t ∧ Has ks ks.length L ∧
          (∀ b o, s.heap.get? b = some o → h'.get? b = some o)) E) F.called_set.init.plain F.entry_set_init (check_set_init_1 hT ?_)) fun r₂ s₂ hr₂ => ?_
      · obtain ⟨ol, hol, hcl, nl, hdl⟩ := hl
        obtain ⟨ocls, odict, odata, oslots⟩ := ol
        simp only at hcl hdl
        subst hcl; subst hdl
        have hol1 : (s.heap.push ({ cls := .type "set", dict := none, data := .set #[] 0 (.fresh 0 0 (!w.params.followText "set-order")) } : Obj)).get? l = some { cls := .type "tuple", dict := odict, data := .seq items nl, slots := oslots } := Heap.get?_push_of_some _ hol
        have hsls := F.sub_tuple_set
        have hslf := F.sub_tuple_frozenset
        have hne : (Value.type "tuple" == Value.type "dict") = false := by decide
        have hl1 : (s.heap.push ({ cls := .type "set", dict := none, data := .set #[] 0 (.fresh 0 0 (!w.params.followText "set-order")) } : Obj)).IsTuple l items := ⟨_, hol1, rfl, nl, rfl⟩
        unfold Builtin.«set.__init__» noKeywords Builtin.Frozenset.updateFrom
        generalize hPI : pyIter = PI
        wp_walk
        subst hPI
        refine wpAny_pyIter_tuple hl1 ?_
        refine wpAny_bind (wpAny_runValue ?_)
        have llt : l < s.heap.objs.size := Heap.lt_size hol
        have hh3 : A.in1.in1.in1.handled = none := by simp [hh]
        have z1 : (s.heap.push ({ cls := .type "set", dict := none, data := .set #[] 0 (.fresh 0 0 (!w.params.followText "set-order")) } : Obj)).objs.size = s.heap.objs.size + 1 := Heap.size_push ..
        have ne1 : l ≠ (s.heap.push ({ cls := .type "set", dict := none, data := .set #[] 0 (.fresh 0 0 (!w.params.followText "set-order")) } : Obj)).objs.size := by rw [z1]; exact Nat.ne_of_lt (Nat.lt_succ_of_lt llt)
        have hnf : s.heap.objs.size ∉ [(s.heap.push ({ cls := .type "set", dict := none, data := .set #[] 0 (.fresh 0 0 (!w.params.followText "set-order")) } : Obj)).objs.size, l] := by
          rw [z1]; intro z
          rcases List.mem_cons.mp z with z | z
          · exact Nat.ne_of_lt (Nat.lt_succ_self _) z
          · exact Nat.ne_of_gt llt (List.mem_singleton.mp z)
        have hval : ∀ (i : Nat) (v : Value), items[i]? = some v → ∃ z, ks[i]? = some z ∧ v = Value.ref z.1 := fun i v q => by
          have q2 : items.toList[i]? = some v := by rw [Array.getElem?_toList]; exact q
          rw [hi, List.getElem?_map] at q2
          cases e : ks[i]? with
          | none => rw [e] at q2; cases q2
          | some z => rw [e] at q2; exact ⟨z, rfl, (Option.some.inj q2).symm⟩
        have noObj : ∀ b, s.heap.objs.size ≤ b → s.heap.get? b = none := fun b hb => by
          cases q : s.heap.get? b with
          | none => rfl
          | some o => exact absurd (Heap.lt_size q) (Nat.not_lt.mpr hb)
        refine upd_keys ok ((Walks.tuple hh3 _ l ne1 items).toS) s.heap.objs.size hnf ks isz hb hval s.heap hk (noObj _ (Nat.le_refl _)) (fun b hb => noObj b (by rw [List.mem_singleton.mp hb, z1]; exact Nat.le_succ _)) ro (items.size - 0) 0 _ (by omega) (Nat.zero_le _)
          ⟨⟨_, Heap.get?_push_size _ rfl, rfl, rfl⟩, (hl1.push _)⟩ (fun b o e => Heap.get?_push_of_some _ (Heap.get?_push_of_some _ e)) ⟨[], #[], 0, _, setH_new (Heap.get?_push_of_some _ hS), ⟨fun z hz => (nomatch hz), fun z hz => (nomatch hz), Nat.le_refl _⟩⟩ fun s' L vs m t mv hS' g kp => ?_
        obtain ⟨h', g2, d', tk', os'⟩ := s'
        have eg : g2 = s.gens := mv.gens
        have ed : d' = s.drawn := mv.drawn
        have eo : os' = s.os := mv.os
        subst eg; subst ed; subst eo
        show wpAny _ _ _ _ _ _
        refine wpAny_pure ?_
        show wpAny _ _ (ret Value.none) _ _ _
        rw [isz] at g
        exact wpAny_pure ⟨rfl, h', tk', L, vs, m, t, rfl, hS', g, kp⟩
      · cases r₂ with
        | error e => exact hr₂
        | ok fl₂ =>
          cases fl₂ with
          | ret r =>
            obtain ⟨rfl, h', tk, L, vs, m, t, rfl, hS', g, kp⟩ := hr₂
            repeat (any_goals (first | assumption | wp_step))
            exact hQ _ _ _ _ _ _ hS' g kp
          | _ => exact hr₂.elim
    | _ => exact hr.elim
end
end Ag

set_option Elab.async false
set_option linter.all false
set_option maxRecDepth 100000
set_option maxHeartbeats 2000000
/-! Sets of tuples over the layer: set(list or tuple of tuples), sorted of such a set. -/
namespace Ag
open PySem PySem.Spec PyProof.Rows L2
open PySem.W (EachIs AllAlike Sortable dataKind sortLe dataLt keyToks sortingHeap sortingHeap_old)
/-- a key as data -/
def itmD : Key → PyData | .inl i => .int i | .inr x => .str x
def keyD (k : List Key) : PyData := .tuple (k.map itmD)
theorem dps_key {K : PySem.W.Frag} {H : Hp} : ∀ k : List Key, DpAll K H (k.map kV) (k.map itmD)
  | [] => .nil
  | .inl i :: k => .cons (.int i) (dps_key k)
  | .inr x :: k => .cons (.str x) (dps_key k)
theorem depth_key : ∀ k : List Key, PyData.depthAll (k.map itmD) = 0
  | [] => by simp [PyData.depthAll]
  | .inl i :: k => by simp [PyData.depthAll, itmD, PyData.depth, depth_key k]
  | .inr x :: k => by simp [PyData.depthAll, itmD, PyData.depth, depth_key k]
theorem keyD_depth (k : List Key) : (keyD k).depth ≤ 1 := by
  have := depth_key k
  unfold keyD
  simp only [PyData.depth]
  omega
theorem map_of_perm {α β : Type} (f : α → β) {us vs : List β} (p : us.Perm vs) : ∀ L : List α, L.map f = vs → ∃ M : List α, M.Perm L ∧ us = M.map f := by
  induction p with
  | nil =>
    intro L e
    cases L with
    | nil => exact ⟨[], .nil, rfl⟩
    | cons x l => cases e
  | cons u _ ih =>
    intro L e
    cases L with
    | nil => cases e
    | cons x l =>
      rw [List.map_cons, List.cons.injEq] at e
      obtain ⟨M, a, b⟩ := ih l e.2
      exact ⟨x :: M, a.cons x, by rw [List.map_cons, e.1, b]⟩
  | swap u v l =>
    intro L e
    match L, e with
    | x :: y :: l', e =>
      rw [List.map_cons, List.map_cons, List.cons.injEq, List.cons.injEq] at e
      exact ⟨y :: x :: l', .swap x y l', by rw [List.map_cons, List.map_cons, e.1, e.2.1, e.2.2]⟩
  | trans _ _ ih1 ih2 =>
    intro L e
    obtain ⟨M, a, b⟩ := ih2 L e
    obtain ⟨N, c, d⟩ := ih1 M b.symm
    exact ⟨N, c.trans a, d⟩
theorem each_pairs : ∀ M : List (Addr × List Key), EachIs (fun (u : Value) (b : V × (Addr × List Key)) => RelV b.1 u) (M.map fun z => Value.ref z.1) (M.map fun z => (V.ref z.1, z))
  | [] => .nil
  | z :: M => .cons rfl (each_pairs M)
section
variable {P : Program} {w : World}
theorem vals_fst {β : Type} {us : List Value} {zs : List (V × β)} (h : EachIs (fun (u : Value) (b : V × β) => RelV b.1 u) us zs) : Vals (zs.map Prod.fst) us := by
  induction h with
  | nil => exact .nil
  | cons a _ ih => exact .cons a ih
/-- a set's table, without what stands at the keys' places -/
structure Set0 (P : Program) (w : World) (h : Heap) (a : Addr) (L : List (Addr × List Key)) (vs : Array (Int × Value)) (n : Nat) (t : SetTable) : Prop where
  at_ : ∃ o, h.get? a = some o ∧ o.ExactSet ∧ o.data = .set vs n t
  ents : vs.toList = entH (TKind P w) L
  lay : TabOk t (L.map fun z => (TKind P w).hash z.2)
  once : (L.map Prod.snd).Nodup
  told : w.params.followText "set-order" = true ∨ t.led = true
  loose : L.length * 5 < t.mask * 3
  small : L.length < 64
variable {h : Heap} {a : Addr} {L : List (Addr × List Key)} {vs : Array (Int × Value)} {n : Nat} {t : SetTable}
theorem SetH.bare (R : SetH (TKind P w) h a L vs n t) : Set0 P w h a L vs n t := ⟨R.at_, R.ents, R.lay, R.once, R.told, R.loose, R.small⟩
theorem Set0.full (R : Set0 P w h a L vs n t) (k : ∀ z ∈ L, (TKind P w).is h z.2 z.1) : SetH (TKind P w) h a L vs n t := ⟨R.at_, R.ents, R.lay, R.once, k, R.told, R.loose, R.small⟩
/-- the set of the keys of ks, at a -/
def KeySet (P : Program) (w : World) (a : Addr) (ks : List (Addr × List Key)) : HO := .ext fun h => ∃ L vs n t, Set0 P w h a L vs n t ∧ Has ks ks.length L
theorem refs_val : ∀ {ks : List (Addr × List Key)} {us : List Value}, Vals (ks.map fun z => V.ref z.1) us → us = ks.map fun z => Value.ref z.1
  | [], _, .nil => rfl
  | z :: ks, _, .cons r t => by
    have e := refs_val t
    cases r
    rw [e]; rfl
theorem val_refs : ∀ ks : List (Addr × List Key), Vals (ks.map fun z => V.ref z.1) (ks.map fun z => Value.ref z.1)
  | [] => .nil
  | z :: ks => .cons rfl (val_refs ks)
end
section
variable {X : Cx}
theorem key_at {pins : List (Addr × Obj)} {σ : L2.St} {H : Hp} {s : Shared} (I : L2.Inv X pins σ H s) {b : Addr} {k : List Key} (h : SqT X.K H b (k.map kV)) : (TKind X.prog X.w).is s.heap k b := by
  obtain ⟨its, r, ⟨o, e1, e2, n, e3⟩, _⟩ := I.tuple h
  exact ⟨o, its.toArray, n, e1, e2, e3, by simpa using items_are r⟩
def rSetQ (K : PySem.W.Frag) (P : Program) (w : World) : List V → Hp → VK → Prop := fun xs H Q => ∃ (l : Addr) (ks : List (Addr × List Key)), xs = [V.ref l] ∧ (SqL K H l (ks.map fun z => V.ref z.1) ∨ SqT K H l (ks.map fun z => V.ref z.1)) ∧ (∀ z ∈ ks, SqT K H z.1 (z.2.map kV)) ∧ ks.length < 64 ∧
  ∀ p, H p = none → Q (.ref p) (upd H p (KeySet P w p ks))
theorem cr_setQ (hc : X.calm = true) (hu : X.A.units + 3 < cLine) : CallR X (.type "set") (rSetQ X.K X.prog X.w) := by
  intro pins s σ H vs us Q I r h
  obtain ⟨l, ks, rfl, hs, hk, hb, q⟩ := h
  rw [Vals.ref1 r]
  have hn : H s.heap.objs.size = none := I.hok.fresh (Nat.le_refl _)
  have keys : ∀ z ∈ ks, (TKind X.prog X.w).is s.heap z.2 z.1 := fun z hz => key_at I (hk z hz)
  have fin : ∀ (h' : Heap) (tk : Nat) L vs m t, SetH (TKind X.prog X.w) h' s.heap.objs.size L vs m t → Has ks ks.length L → (∀ b o, s.heap.get? b = some o → h'.get? b = some o) →
      ∃ y H', Inv X pins σ H' { s with heap := h', toks := tk } ∧ RelV y (Value.ref s.heap.objs.size) ∧ Q y H' := fun h' tk L vs m t R g kp => by
    refine ⟨.ref s.heap.objs.size, upd H s.heap.objs.size (KeySet X.prog X.w s.heap.objs.size ks), I.laid (t' := tk) kp (Nat.le_refl _) ⟨⟨L, vs, m, t, R.bare, g⟩, ?_, ?_⟩, rfl, q _ hn⟩
    · obtain ⟨o, e, _⟩ := R.at_
      exact ⟨o, e⟩
    · rintro h1 h2 ⟨L, vs, m, t, R, g⟩ e
      obtain ⟨o, e1, e2⟩ := R.at_
      exact ⟨L, vs, m, t, ⟨⟨o, e o e1, e2⟩, R.ents, R.lay, R.once, R.told, R.loose, R.small⟩, g⟩
  rcases hs with hs | hs
  · obtain ⟨its, rv, hl, _⟩ := I.list hs
    exact set_of_keys (P := X.prog) (w := X.w) tkind_ok (I.ok.hd hc) hl.isList (refs_val rv) keys hb hu fin
  · obtain ⟨its, rv, hl, _⟩ := I.tuple hs
    exact set_of_keysT (P := X.prog) (w := X.w) tkind_ok (I.ok.hd hc) hl (refs_val rv) keys hb hu fin
def rSortQ (K : PySem.W.Frag) (P : Program) (w : World) : List V → Hp → VK → Prop := fun xs H Q => ∃ (a : Addr) (ks : List (Addr × List Key)), xs = [V.ref a] ∧ H a = some (KeySet P w a ks) ∧ (∀ z ∈ ks, SqT K H z.1 (z.2.map kV)) ∧ AllAlike (ks.map fun z => keyD z.2) ∧ Sortable (ks.map fun z => keyD z.2) ∧
  ∀ (L zs : List (Addr × List Key)) p, Has ks ks.length L → (L.map Prod.snd).Nodup → zs.Perm L → (zs.map fun z => keyD z.2) = (L.map fun z => keyD z.2).mergeSort leD → H p = none → Q (.ref p) (upd H p (.lst (zs.map fun z => V.ref z.1)))
theorem cr_sortQ (hc : X.calm = true) (hu : X.A.units + 64 < cLine) : CallR X (.builtin "sorted") (rSortQ X.K X.prog X.w) := by
  intro pins s σ H vs us Q I r h
  obtain ⟨a, ks, rfl, ha, hk, al, so, q⟩ := h
  obtain ⟨⟨L, tv, m, t, R0, g⟩, _⟩ := I.hok a _ ha
  rw [Vals.ref1 r]
  have sub : ∀ z ∈ L, z ∈ ks := fun z hz => List.mem_of_mem_take (g.of z hz)
  have R := R0.full fun z hz => key_at I (hk z (sub z hz))
  obtain ⟨o, g1, g2, g3⟩ := R.at_
  have len := ent_len R.ents
  have sm := R.small
  refine Calls.call_function_entry kind_sorted plain_sorted entry_sorted (args_sorted1 _) ?_
  unfold Builtin.«sorted»
  refine wpAny_bind (m := checkCount "sorted" 1 1 _) (wpAny_pure ?_)
  refine wpAny_bind (collect_set (A := X.A.in1) (I.ok.hd hc) ⟨o, g1, g2.1, g3⟩ R.fits (by unfold scanBound; omega) R.lay.ris R.told fun s1 us k1 hz gs o1 pm => ?_)
  have e1 : tv.toList.map (·.2) = L.map fun z => Value.ref z.1 := by
    rw [R.ents]; unfold entH; rw [List.map_map]; rfl
  rw [e1] at pm
  obtain ⟨M, pM, rfl⟩ := map_of_perm _ pm L rfl
  have subM : ∀ z ∈ M, z ∈ ks := fun z hz => sub z (pM.mem_iff.mp hz)
  have hlen : (M.map fun z => Value.ref z.1).length ≤ sizeLine := by rw [List.length_map, pM.length_eq, sizeLine_eq]; omega
  have dps : ∀ N : List (Addr × List Key), (∀ z ∈ N, z ∈ ks) → DpAll X.K H (N.map fun z => V.ref z.1) (N.map fun z => keyD z.2) := by
    intro N
    induction N with
    | nil => exact fun _ => .nil
    | cons z N ih => exact fun hN => .cons (.tup (hk z (hN z List.mem_cons_self)) (dps_key z.2)) (ih fun y hy => hN y (List.mem_cons_of_mem _ hy))
  have alM : AllAlike (M.map fun z => keyD z.2) := fun d hd e he => by
    obtain ⟨z, hz, rfl⟩ := List.mem_map.mp hd
    obtain ⟨y, hy, rfl⟩ := List.mem_map.mp he
    exact al _ (List.mem_map.mpr ⟨z, subM z hz, rfl⟩) _ (List.mem_map.mpr ⟨y, subM y hy, rfl⟩)
  have soM : Sortable (M.map fun z => keyD z.2) := by
    have up : ∀ d ∈ M.map (fun z => keyD z.2), d ∈ ks.map fun z => keyD z.2 := fun d hd => by
      obtain ⟨z, hz, rfl⟩ := List.mem_map.mp hd
      exact List.mem_map.mpr ⟨z, subM z hz, rfl⟩
    exact so.imp (fun h d hd => h d (up d hd)) fun h d hd => h d (up d hd)
  obtain ⟨as, hr⟩ := Dp.readsAll I _ _ _ (dps M subM) (val_refs M)
  refine wpAny_bind (wpAny_newList ?_ hlen)
  have hoL : (s1.heap.push (seqObj "list" (M.map fun z => Value.ref z.1).toArray 0)).get? s1.heap.objs.size = some (seqObj "list" (M.map fun z => Value.ref z.1).toArray 0) := Heap.get?_push_size _ rfl
  have old : ∀ b u, s.heap.get? b = some u → (sortingHeap (s1.heap.push (seqObj "list" (M.map fun z => Value.ref z.1).toArray 0)) s1.heap.objs.size (M.map fun z => Value.ref z.1)).get? b = some u := fun b u e => by
    have e2 := k1 b u e
    exact sortingHeap_old (Nat.ne_of_lt (Heap.lt_size e2)) (Heap.get?_push_of_some _ e2)
  have hr2 := PyProof.Rows.ReadsAll.keeps old hr
  generalize hh : sortingHeap (s1.heap.push (seqObj "list" (M.map fun z => Value.ref z.1).toArray 0)) s1.heap.objs.size (M.map fun z => Value.ref z.1) = h2 at hr2
  have hS : ∀ d ∈ M.map (fun z => keyD z.2), X.A.in1.in1.units + d.depth < cLine := fun d hd => by
    obtain ⟨z, hz, rfl⟩ := List.mem_map.mp hd
    have := keyD_depth z.2
    show X.A.units + 1 + 1 + _ < cLine
    omega
  refine wpAny_bind (wpAny_holding (wpAny_call_entry slot_list_sort ⟨_, hoL, rfl⟩ entry_list_sort (PySem.W.list_sort_vals (κ := dataKind h2 (M.map fun z => keyD z.2)) (s := { s1 with heap := s1.heap.push (seqObj "list" (M.map fun z => Value.ref z.1).toArray 0) }) hoL (by rw [hh]; exact PySem.W.SortsAt.data (s := { s1 with heap := h2 }) (each_reads hr2) alM soM hS) hlen ⟨_, rfl, ?_⟩) (args_list_sort _)))
  · have e2 := each_pairs M
    have hk2 : EachIs (fun (v : Value) (b : V × (Addr × List Key)) => (dataKind h2 (M.map fun z => keyD z.2)).keyOf v = some (keyToks (keyD b.2.2))) (M.map fun z => Value.ref z.1) (M.map fun z => (V.ref z.1, z)) := by
      have all : ∀ (N : List (Addr × List Key)) {as : List Addr}, (∀ z ∈ N, z ∈ M) → ReadsAll h2 (N.map fun z => Value.ref z.1) (N.map fun z => keyD z.2) as → EachIs (fun (v : Value) (b : V × (Addr × List Key)) => (dataKind h2 (M.map fun z => keyD z.2)).keyOf v = some (keyToks (keyD b.2.2))) (N.map fun z => Value.ref z.1) (N.map fun z => (V.ref z.1, z)) := by
        intro N
        induction N with
        | nil => exact fun _ _ => .nil
        | cons z N ih =>
          intro as hN hrN
          cases hrN with
          | cons a b => exact .cons (PySem.W.dataKind_some alM (List.mem_map.mpr ⟨z, hN z List.mem_cons_self, rfl⟩) a) (ih (fun y hy => hN y (List.mem_cons_of_mem _ hy)) b)
      exact all M (fun _ h => h) hr2
    have e3 := PySem.W.sortVals_each (κ := dataKind h2 (M.map fun z => keyD z.2)) (rev := false) (ks := M.map fun z => Value.ref z.1) (fun b : V × (Addr × List Key) => keyToks (keyD b.2.2)) e2 hk2
    obtain ⟨c, hc2⟩ := sortedHeap_at (vs := M.map fun z => Value.ref z.1) (out := (PySem.W.sortVals (dataKind h2 (M.map fun z => keyD z.2)) false (M.map fun z => Value.ref z.1) (M.map fun z => Value.ref z.1)).toArray) hoL
    generalize PySem.W.sortVals (dataKind h2 (M.map fun z => keyD z.2)) false (M.map fun z => Value.ref z.1) (M.map fun z => Value.ref z.1) = out at e3 hc2 ⊢
    have ps : ((M.map fun z => (V.ref z.1, z)).mergeSort (sortLe (dataKind h2 (M.map fun z => keyD z.2)).toKeyOrd false fun b : V × (Addr × List Key) => keyToks (keyD b.2.2))).Perm (M.map fun z => (V.ref z.1, z)) := List.mergeSort_perm _ _
    have ms : ((M.map fun z => (V.ref z.1, z)).mergeSort (sortLe (dataKind h2 (M.map fun z => keyD z.2)).toKeyOrd false fun b : V × (Addr × List Key) => keyToks (keyD b.2.2))).map (fun b => keyD b.2.2) = ((M.map fun z => (V.ref z.1, z)).map fun b => keyD b.2.2).mergeSort leD :=
      PySem.W.sort_maps (s := leD) (fun b : V × (Addr × List Key) => keyD b.2.2) fun p _ q _ => rfl
    generalize (M.map fun z => (V.ref z.1, z)).mergeSort (sortLe (dataKind h2 (M.map fun z => keyD z.2)).toKeyOrd false fun b : V × (Addr × List Key) => keyToks (keyD b.2.2)) = W at e3 ps ms
    have kp : ∀ b u, s.heap.get? b = some u → (sortedHeap (s1.heap.push (seqObj "list" (M.map fun z => Value.ref z.1).toArray 0)) s1.heap.objs.size (M.map fun z => Value.ref z.1) out.toArray).get? b = some u := fun b u e => by
      have e2 := k1 b u e
      have lt := Heap.lt_size e2
      rw [sortedHeap_old (Nat.ne_of_lt lt) (by rw [size_push']; exact Nat.lt_succ_of_lt lt)]
      exact Heap.get?_push_of_some _ e2
    generalize sortedHeap (s1.heap.push (seqObj "list" (M.map fun z => Value.ref z.1).toArray 0)) s1.heap.objs.size (M.map fun z => Value.ref z.1) out.toArray = h3 at kp hc2 ⊢
    have hn : H s1.heap.objs.size = none := I.hok.fresh hz
    have hv := vals_fst e3
    have e4 : W.map Prod.fst = (W.map Prod.snd).map fun z => V.ref z.1 := by
      rw [List.map_map]
      refine List.map_congr_left fun b hb => ?_
      obtain ⟨z, _, rfl⟩ := List.mem_map.mp (ps.mem_iff.mp hb)
      rfl
    have e5 : (W.map Prod.snd).Perm M := by
      have := ps.map Prod.snd
      rw [List.map_map] at this
      exact this.trans (by rw [show (Prod.snd ∘ fun z : Addr × List Key => (V.ref z.1, z)) = id from rfl, List.map_id])
    have e6 : ((W.map Prod.snd).map fun z => keyD z.2) = (M.map fun z => keyD z.2).mergeSort leD := by
      rw [List.map_map]
      refine ms.trans ?_
      rw [List.map_map]; rfl
    have small : (W.map Prod.fst).length ≤ sizeLine := by
      rw [List.length_map, ps.length_eq, List.length_map, pM.length_eq, sizeLine_eq]; omega
    have J : Inv X pins σ (upd H s1.heap.objs.size (.lst (W.map Prod.fst))) { s with heap := h3, gens := s1.gens, drawn := s1.drawn, toks := s1.toks } :=
      I.call (ch := []) (Un.laid kp hz hn) (I.hok.laid kp hz ⟨small, _, c, hv, hc2⟩) (by rw [gs]; exact I.bare) (fun _ z => nomatch z)
    have es : ({ s1 with heap := h3 } : Shared) = { s with heap := h3, gens := s1.gens, drawn := s1.drawn, toks := s1.toks } := by
      cases s1; cases s; cases o1; rfl
    refine wpAny_pure ⟨_, rfl, .ref s1.heap.objs.size, _, ?_, rfl, q M (W.map Prod.snd) s1.heap.objs.size ⟨fun z hz => g.of z (pM.mem_iff.mp hz), fun z hz => (pM.map Prod.snd).mem_iff.mpr (g.all z hz), by rw [pM.length_eq]; exact g.len⟩ ((pM.map Prod.snd).nodup_iff.mpr R.once) e5 e6 hn⟩
    rw [← e4]
    exact es ▸ J
end
end Ag

set_option Elab.async false
set_option linter.all false
set_option maxRecDepth 100000
set_option maxHeartbeats 1000000
set_option pp.maxSteps 300
/-! Pairs of a number and a text, in their order. -/
namespace Ag
open PySem PySem.Spec PyProof.Rows L2
open PySem.W (alike alikeAll dataLt dataLt_tuple dataLt_all_yes dataLt_all_no dataLt_int dataLt_str AllAlike Sortable)
abbrev Pr := Int × Str
def pairD (p : Pr) : PyData := .tuple [.int p.1, .str p.2]
def pairK (p : Pr) : List Key := [.inl p.1, .inr p.2]
theorem keyD_pair (p : Pr) : keyD (pairK p) = pairD p := rfl
theorem pairK_inj {p q : Pr} (h : pairK p = pairK q) : p = q := by
  obtain ⟨i, x⟩ := p
  obtain ⟨j, y⟩ := q
  unfold pairK at h
  injection h with h1 h2
  injection h1 with h1
  injection h2 with h2 _
  injection h2 with h2
  exact Prod.ext h1 h2
theorem pairD_inj {p q : Pr} (h : pairD p = pairD q) : p = q := by
  obtain ⟨i, x⟩ := p
  obtain ⟨j, y⟩ := q
  unfold pairD at h
  injection h with h
  injection h with h1 h2
  injection h1 with h1
  injection h2 with h2 _
  injection h2 with h2
  exact Prod.ext h1 h2
theorem alike_pair (p q : Pr) : alike (pairD p) (pairD q) = true := by simp [pairD, alike, alikeAll]
theorem pair_depth (p : Pr) : (pairD p).depth ≤ 1 := keyD_depth (pairK p)
def ltP (p q : Pr) : Bool := decide (p.1 < q.1) || (decide (p.1 = q.1) && decide (p.2.cps.toList < q.2.cps.toList))
theorem dataLt_pair (p q : Pr) : dataLt (pairD p) (pairD q) = ltP p q := by
  unfold pairD ltP
  rw [dataLt_tuple]
  by_cases h : p.1 = q.1
  · rw [dataLt_all_yes (by simp [alike]) (by simp [PyData.eqv, h])]
    have n : ¬ p.1 < q.1 := by omega
    rw [decide_eq_true h, decide_eq_false n, Bool.false_or, Bool.true_and]
    by_cases k : p.2 = q.2
    · rw [dataLt_all_yes (by simp [alike]) (by simp [PyData.eqv, k]), k]
      have : ¬ q.2.cps.toList < q.2.cps.toList := List.lt_irrefl _
      rw [decide_eq_false this]
      rfl
    · rw [dataLt_all_no (by simp [alike]) (by simp only [PyData.eqv]; exact beq_eq_false_iff_ne.mpr k), dataLt_str]
  · rw [dataLt_all_no (by simp [alike]) (by simp [PyData.eqv, h]), dataLt_int, decide_eq_false h, Bool.false_and, Bool.or_false]
def leP (p q : Pr) : Bool := !ltP q p
theorem ltP_iff {p q : Pr} : ltP p q = true ↔ p.1 < q.1 ∨ (p.1 = q.1 ∧ p.2.cps.toList < q.2.cps.toList) := by
  unfold ltP
  rw [Bool.or_eq_true, Bool.and_eq_true, decide_eq_true_eq, decide_eq_true_eq, decide_eq_true_eq]
theorem leP_iff {p q : Pr} : leP p q = true ↔ p.1 < q.1 ∨ (p.1 = q.1 ∧ p.2.cps.toList ≤ q.2.cps.toList) := by
  have e : leP p q = true ↔ ¬ ltP q p = true := by unfold leP; rw [Bool.not_eq_true', Bool.not_eq_true]
  rw [e, ltP_iff, not_or, not_and, List.not_lt]
  constructor
  · rintro ⟨h1, h2⟩
    by_cases h : p.1 = q.1
    · exact .inr ⟨h, h2 h.symm⟩
    · exact .inl (by omega)
  · rintro (h | ⟨h1, h2⟩)
    · exact ⟨by omega, fun h' => absurd h' (by omega)⟩
    · exact ⟨by omega, fun _ => h2⟩
theorem ltP_trans {p q r : Pr} (h1 : ltP p q = true) (h2 : ltP q r = true) : ltP p r = true := by
  rw [ltP_iff] at *
  rcases h1 with h1 | ⟨h1, k1⟩ <;> rcases h2 with h2 | ⟨h2, k2⟩
  · exact .inl (by omega)
  · exact .inl (by omega)
  · exact .inl (by omega)
  · exact .inr ⟨by omega, List.lt_trans k1 k2⟩
theorem ltP_irrefl (p : Pr) : ltP p p = false := by
  rw [← Bool.not_eq_true, ltP_iff]
  rintro (h | ⟨_, h⟩)
  · omega
  · exact List.lt_irrefl _ h
theorem leP_trans (p q r : Pr) (h1 : leP p q = true) (h2 : leP q r = true) : leP p r = true := by
  rw [leP_iff] at *
  rcases h1 with h1 | ⟨h1, k1⟩ <;> rcases h2 with h2 | ⟨h2, k2⟩
  · exact .inl (by omega)
  · exact .inl (by omega)
  · exact .inl (by omega)
  · exact .inr ⟨by omega, List.le_trans k1 k2⟩
theorem leP_total (p q : Pr) : (leP p q || leP q p) = true := by
  rw [Bool.or_eq_true, leP_iff, leP_iff]
  by_cases h : p.1 = q.1
  · rcases List.le_total p.2.cps.toList q.2.cps.toList with k | k
    · exact .inl (.inr ⟨h, k⟩)
    · exact .inr (.inr ⟨h.symm, k⟩)
  · by_cases k : p.1 < q.1
    · exact .inl (.inl k)
    · exact .inr (.inl (by omega))
theorem leP_anti {p q : Pr} (h1 : leP p q = true) (h2 : leP q p = true) : p = q := by
  rw [leP_iff] at *
  obtain ⟨i, x⟩ := p
  obtain ⟨j, y⟩ := q
  rcases h1 with h1 | ⟨h1, k1⟩ <;> rcases h2 with h2 | ⟨h2, k2⟩
  · dsimp only at h1 h2; omega
  · dsimp only at h1 h2; omega
  · dsimp only at h1 h2; omega
  · have e : x = y := Str.ext' (Array.toList_inj.mp (List.le_antisymm k1 k2))
    have h1 : i = j := h1
    rw [h1, e]
theorem lt_le {p q : Pr} (h : ltP p q = true) : leP p q = true := by
  rw [ltP_iff] at h
  rw [leP_iff]
  exact h.imp id fun ⟨a, b⟩ => ⟨a, List.le_of_lt b⟩
/-- each is under the next -/
def upP (ps : List Pr) : Bool := (List.zipWith ltP ps (ps.drop 1)).all id
theorem upP_cons (p q : Pr) (r : List Pr) : upP (p :: q :: r) = (ltP p q && upP (q :: r)) := rfl
theorem upP_pw : ∀ {ps : List Pr}, upP ps = true ↔ ps.Pairwise fun p q => ltP p q = true
  | [] => ⟨fun _ => .nil, fun _ => rfl⟩
  | [p] => ⟨fun _ => List.pairwise_singleton _ _, fun _ => rfl⟩
  | p :: q :: r => by
    rw [upP_cons, Bool.and_eq_true, upP_pw (ps := q :: r), List.pairwise_cons (a := p)]
    constructor
    · rintro ⟨h1, h2⟩
      refine ⟨fun z hz => ?_, h2⟩
      rcases List.mem_cons.mp hz with rfl | hz
      · exact h1
      · exact ltP_trans h1 ((List.pairwise_cons.mp h2).1 z hz)
    · rintro ⟨h1, h2⟩
      exact ⟨h1 q List.mem_cons_self, h2⟩
/-- pairs that are those of qs: just where each is under the next they stand as sorted -/
theorem up_sorted {ps qs : List Pr} (nd : qs.Nodup) (m : ∀ z, z ∈ qs ↔ z ∈ ps) : decide (ps = qs.mergeSort leP) = upP ps := by
  have pm : (qs.mergeSort leP).Perm qs := List.mergeSort_perm _ _
  have sr : (qs.mergeSort leP).Pairwise fun p q => leP p q = true := List.pairwise_mergeSort leP_trans leP_total qs
  have nd2 : (qs.mergeSort leP).Nodup := pm.nodup_iff.mpr nd
  rw [Bool.eq_iff_iff, decide_eq_true_eq, upP_pw]
  constructor
  · intro e
    rw [e]
    refine List.Pairwise.imp_of_mem ?_ (sr.and nd2)
    rintro p q _ _ ⟨h1, h2⟩
    rw [ltP_iff]
    rw [leP_iff] at h1
    refine h1.imp id fun ⟨a, b⟩ => ⟨a, ?_⟩
    refine List.not_le.mp fun c => h2 ?_
    exact leP_anti (leP_iff.mpr (.inr ⟨a, b⟩)) (leP_iff.mpr (.inr ⟨a.symm, c⟩))
  · intro h
    have ndp : ps.Nodup := List.nodup_iff_pairwise_ne.mpr (h.imp fun {p q} k e => by rw [e, ltP_irrefl] at k; cases k)
    exact List.Perm.eq_of_pairwise (le := fun p q => leP p q = true) (fun p q _ _ => leP_anti) (h.imp lt_le) sr ((List.perm_ext_iff_of_nodup ndp nd2).mpr fun z => by rw [pm.mem_iff, m z])
theorem sort_pairs (qs : List Pr) : (qs.map pairD).mergeSort leD = (qs.mergeSort leP).map pairD :=
  (PySem.W.sort_maps (s := leD) pairD fun p _ q _ => by show (!ltP q p) = !dataLt (pairD q) (pairD p); rw [dataLt_pair]).symm
theorem eqv_pair (p q : Pr) : PyData.eqv (pairD p) (pairD q) = decide (p = q) := by
  obtain ⟨i, x⟩ := p
  obtain ⟨j, y⟩ := q
  simp only [pairD, PyData.eqv, PyData.eqvAll, Bool.and_true]
  by_cases h : i = j
  · by_cases k : x = y
    · subst h; subst k; simp
    · rw [decide_eq_false (fun e => k (congrArg Prod.snd e)), beq_eq_false_iff_ne.mpr k, Bool.and_false]
  · rw [decide_eq_false (fun e => h (congrArg Prod.fst e))]
    simp [h]
/-- data that are pairs: where they stand -/
theorem pairs_at {K : PySem.W.Frag} {H : Hp} : ∀ {vs : List V} {ps : List Pr}, DpAll K H vs (ps.map pairD) → ∃ ks : List (Addr × List Key), vs = ks.map (fun z => V.ref z.1) ∧ ks.map Prod.snd = ps.map pairK ∧ ∀ z ∈ ks, SqT K H z.1 (z.2.map kV)
  | [], [], _ => ⟨[], rfl, rfl, fun z hz => (nomatch hz)⟩
  | v :: vs, p :: ps, h => by
    cases h with
    | cons a t =>
      obtain ⟨ks, e1, e2, e3⟩ := pairs_at t
      cases a with
      | tup hs r =>
        rename_i b xs
        cases r with
        | cons r1 r =>
          cases r with
          | cons r2 r =>
            cases r; cases r1; cases r2
            exact ⟨(b, pairK p) :: ks, by rw [List.map_cons, e1], by rw [List.map_cons, List.map_cons, e2], fun z hz => by
              rcases List.mem_cons.mp hz with rfl | hz
              · exact hs
              · exact e3 z hz⟩
/-- .. and sorted(set(..)) of them -/
theorem sorted_keys {ks L zs : List (Addr × List Key)} {ps : List Pr} (e : ks.map Prod.snd = ps.map pairK) (g : Has ks ks.length L) (nd : (L.map Prod.snd).Nodup) (pz : zs.Perm L) (ez : (zs.map fun z => keyD z.2) = (L.map fun z => keyD z.2).mergeSort leD) :
    ∃ qs : List Pr, qs.Nodup ∧ (∀ z, z ∈ qs ↔ z ∈ ps) ∧ (zs.map fun z => keyD z.2) = (qs.mergeSort leP).map pairD ∧ ∀ z ∈ zs, z ∈ ks := by
  have sub : ∀ z ∈ L, z ∈ ks := fun z hz => List.mem_of_mem_take (g.of z hz)
  have all : ∀ N : List (Addr × List Key), (∀ z ∈ N, z ∈ ks) → ∃ qs : List Pr, N.map Prod.snd = qs.map pairK := by
    intro N
    induction N with
    | nil => exact fun _ => ⟨[], rfl⟩
    | cons z N ih =>
      intro hN
      obtain ⟨qs, e2⟩ := ih fun y hy => hN y (List.mem_cons_of_mem _ hy)
      have hz : z.2 ∈ ks.map Prod.snd := List.mem_map.mpr ⟨z, hN z List.mem_cons_self, rfl⟩
      rw [e] at hz
      obtain ⟨q, _, e3⟩ := List.mem_map.mp hz
      exact ⟨q :: qs, by rw [List.map_cons, List.map_cons, e2, e3]⟩
  obtain ⟨qs, eq⟩ := all L sub
  have ed : (L.map fun z => keyD z.2) = qs.map pairD := by
    have : (L.map Prod.snd).map keyD = (qs.map pairK).map keyD := by rw [eq]
    rw [List.map_map, List.map_map] at this
    exact this
  refine ⟨qs, ?_, fun z => ?_, by rw [ez, ed, sort_pairs], fun z hz => sub z (pz.mem_iff.mp hz)⟩
  · rw [eq] at nd
    exact (List.pairwise_map.mp nd).imp fun h e => h (congrArg pairK e)
  · have mL : pairK z ∈ L.map Prod.snd ↔ pairK z ∈ ks.map Prod.snd := by
      constructor
      · intro h
        obtain ⟨y, hy, ey⟩ := List.mem_map.mp h
        exact List.mem_map.mpr ⟨y, sub y hy, ey⟩
      · intro h
        obtain ⟨y, hy, ey⟩ := List.mem_map.mp h
        rw [← ey]
        exact g.all y (by rw [List.take_length]; exact hy)
    rw [eq, e] at mL
    constructor
    · intro h
      obtain ⟨y, hy, ey⟩ := List.mem_map.mp (mL.mp (List.mem_map.mpr ⟨z, h, rfl⟩))
      rw [← pairK_inj ey]; exact hy
    · intro h
      obtain ⟨y, hy, ey⟩ := List.mem_map.mp (mL.mpr (List.mem_map.mpr ⟨z, h, rfl⟩))
      rw [← pairK_inj ey]; exact hy
end Ag

set_option Elab.async false
set_option linter.all false
set_option maxRecDepth 100000
set_option maxHeartbeats 4000000
set_option pp.maxSteps 200
/-! {key: value for ..}, the keys tuples of numbers and texts. -/
namespace Ag
open PySem PySem.Spec PyProof.Rows L2
section
variable {X : Cx}
/-- a key that is a tuple is put -/
theorem put_tup {pn : List (Addr × Obj)} {σ : L2.St} {H : Hp} {s : Shared} {F : Value → Shared → Prop} {d b : Addr} {kv : List (List Key × V)} {k : List Key} {z : V} {r : Value} {Q : Unit → Shared → Prop} (hu : X.A.units < cLine) (I : L2.Inv X pn σ H s) (hd : H d = some (.dT kv)) (hb : H b = some (.tup (k.map kV)))
    (room : kv.length < sizeLine) (rz : RelV z r) (q : ∀ s', L2.Inv X pn σ (upd H d (.dT (putK kv k z))) s' → Q () s') : wpAny (model X.prog X.w) X.A (dictSet d (.ref b) r) Q F s := by
  obtain ⟨z1, z2, xs, rel, dd⟩ := dt_of I.hok hd
  have small : (putK kv k z).length ≤ sizeLine := Nat.le_trans (length_putK kv k z) room
  refine wpAny_dictSet_heap (hsz := by rw [← Paired.length rel]; exact z1) hu (key_of I.hok hb) dd fun h' dd' sb => q _ ?_
  obtain ⟨o, es, ep, e1, e2, e3, e4, _, e5⟩ := dd'
  refine d_write I (by rw [hd]; exact True.intro) sb ⟨o, e1⟩ ⟨small, z2, _, (rel.put k hb rz).keeps fun c ys ec => ?_, o, es, ep, e1, e2, e3, e4, e5⟩
  rw [upd_ne (ne_of ec hd (fun y => nomatch y))]; exact ec
/-- .. over wi: D is the new dict -/
def tDcT (wi : TI) (g : TG) (tt : TT) (tk tv : TE) (vs : List Nat) : TE := fun σ H Q => wi σ H fun J H1 => ∀ D, H1 D = none → ∃ W : Nat → Nat → Hp → Prop, (∃ m, W 0 m (upd H1 D (.dT []))) ∧ ∀ i m H2, W i m H2 →
  (J.stop i H2 ∧ Q (.ref D) H2) ∨ (J.go i H2 ∧ ∃ N : Hp → Prop, (∀ H3, N H3 → ∃ m', m' < m ∧ W (i + 1) m' H3) ∧ ∀ x H3, J.yld i H2 x H3 → g x (wipe σ vs) H3 fun σ2 H4 => wipe σ2 vs = wipe σ vs ∧ tt σ2 H4 fun b H5 =>
    if b = true then tk σ2 H5 fun y H6 => tv σ2 H6 fun z H7 => ∃ kv k c, y = .ref c ∧ H7 D = some (.dT kv) ∧ H7 c = some (.tup (k.map kV)) ∧ kv.length < sizeLine ∧ N (upd H7 D (.dT (putK kv k z))) else N H5)
theorem pe_dcT {kx vx tg it0 : Expr} {ifs : List Expr} {sc : Scope} {own : List (Str × Nat)} {pos : Pos} {wi : TI} {g : TG} {tt : TT} {tk tv : TE} (calm : X.calm = true) (nd : X.N.Nodup) (hu : X.A.units < cLine) (pi : PI X tg it0 wi) (bk : BlkOk X.N X.env.scope sc own)
    (pg : ∀ (s : Shared) (H : Hp) (C : Addr) (cl : List (Str × Addr)) (ws : List Addr), PG (X.blk s H sc (compEnvC sc cl C X.env) ws) tg g) (pt : ∀ (s : Shared) (H : Hp) (C : Addr) (cl : List (Str × Addr)) (ws : List Addr), PTs (X.blk s H sc (compEnvC sc cl C X.env) ws) ifs tt)
    (pk : ∀ (s : Shared) (H : Hp) (C : Addr) (cl : List (Str × Addr)) (ws : List Addr), PE (X.blk s H sc (compEnvC sc cl C X.env) ws) kx tk) (pv : ∀ (s : Shared) (H : Hp) (C : Addr) (cl : List (Str × Addr)) (ws : List Addr), PE (X.blk s H sc (compEnvC sc cl C X.env) ws) vx tv)
    (fold : ∀ x, foldedSetIterable it0 X.env x = pure x := by intro _; rfl) : PE X (.DictComp kx vx [⟨tg, it0, ifs, 0⟩] sc pos) (tDcT wi g tt tk tv (own.map (·.2))) := by
  refine ⟨fun pn s σ H Q I h => ?_⟩
  rw [arm_eval_DictComp]
  have caught : ∀ y ∈ sc.names, y.2 = .free → ∃ c, X.env.cells.lookup y.1 = some c := fun y hy e => (bk.free y hy e).elim (fun k => I.ok.has _ (.inl k)) fun k => I.ok.has _ (.inr k)
  refine wpAny_comprehension_free (use := none) rfl fold (closure_ok caught) bk.kind (fun y hy e => by rw [bk.uniq y hy, e]) (thn (pi.run pn s σ H _ I h) fun v1 s1 z1 => thn z1 fun v2 s2 z2 => ?_)
  obtain ⟨it, ws, tn, J, H2, rfl, I2, T, st2, f2, q⟩ := z2
  refine wpAny_newObj_type (newEnv_comp ?_)
  -- the dict, empty
  generalize hD : s2.heap.objs.size = D
  have freeD : H2 D = none := I2.hok.fresh (Nat.le_of_eq hD)
  obtain ⟨W, ⟨m0, w0⟩, turn⟩ := q D freeD
  generalize hA : ({ s2 with heap := s2.heap.push { cls := .type "dict", data := .dict #[] } } : Shared) = sA
  have hpA : sA.heap = s2.heap.push { cls := .type "dict", data := .dict #[] } := by rw [← hA]
  have IA : L2.Inv X pn σ (upd H2 D (.dT [])) sA := by
    rw [← hA]
    exact I2.laid (t' := s2.toks) (fun b o e => Heap.get?_push_of_some _ e) (Nat.le_of_eq hD) (by rw [← hD]; exact dt_empty s2.heap I2.big)
  have under : ∀ b ∈ ws, b < s2.heap.objs.size := fun b hb => let ⟨o, e, _⟩ := T.obj _ _ st2 b hb; Heap.lt_size e
  have fA : ∀ b ∈ ws, FpOk X pn (upd H2 D (.dT [])) b ∧ b < sA.heap.objs.size := fun b hb => by
    have lt := under b hb
    exact ⟨⟨by rw [upd_ne (by rw [← hD]; exact Nat.ne_of_lt lt)]; exact (f2 b hb).1, (f2 b hb).2⟩, by rw [hpA, Heap.size_push]; exact Nat.lt_succ_of_lt lt⟩
  have stA : tn 0 sA.heap := T.keep _ _ _ st2 fun b _ o e => by rw [hpA]; exact Heap.get?_push_of_some _ e
  have IB := block_start IA bk nd fA
  have nws : ∀ b ∈ ws, (upd H2 D (.dT [])) b = none := fun b hb => (fA b hb).1.1
  generalize upd H2 D (.dT []) = HA at IA IB w0 nws fA
  have hg := pg sA HA sA.heap.objs.size (cellsFrom (sA.heap.objs.size + 1) sc.names (cloFrom X.env.cells sc.names [])) ws
  have ht := pt sA HA sA.heap.objs.size (cellsFrom (sA.heap.objs.size + 1) sc.names (cloFrom X.env.cells sc.names [])) ws
  have hk := pk sA HA sA.heap.objs.size (cellsFrom (sA.heap.objs.size + 1) sc.names (cloFrom X.env.cells sc.names [])) ws
  have hv := pv sA HA sA.heap.objs.size (cellsFrom (sA.heap.objs.size + 1) sc.names (cloFrom X.env.cells sc.names [])) ws
  show codeAny _ _ (.compStart _ 0 _ _ (compEnvC sc (cellsFrom (sA.heap.objs.size + 1) sc.names (cloFrom X.env.cells sc.names [])) sA.heap.objs.size X.env)) (compPost _ X.A X.xe none _ (.ref D) sA.heap.objs.size) { sA with heap := pushCells (sA.heap.push { cls := .type "dict", data := .dict #[] }) sc.names }
  generalize hce : compEnvC sc (cellsFrom (sA.heap.objs.size + 1) sc.names (cloFrom X.env.cells sc.names [])) sA.heap.objs.size X.env = ce at IB hg ht hk hv ⊢
  have eL : ce.locals = sA.heap.objs.size := by subst hce; rfl
  generalize hB : ({ sA with heap := pushCells (sA.heap.push { cls := .type "dict", data := .dict #[] }) sc.names } : Shared) = sB at IB ⊢
  have stB : tn 0 sB.heap := T.keep _ _ _ stA fun b _ o e => by rw [← hB]; exact pushCells_keeps _ _ _ _ (Heap.get?_push_of_some _ e)
  have held : ∀ {τ : L2.St} {G : Hp} {u : Shared}, L2.Inv (X.blk sA HA sc ce ws) [] τ G u → (∀ b ∈ ws, G b = none) → ∀ b ∈ ws, FpOk (X.blk sA HA sc ce ws) [] G b := fun {τ G u} J nn b hb =>
    ⟨nn b hb, (J.ok.exf b hb).1, J.ok.exfs b hb, .inl hb, fun x c e => (J.ok.exf b hb).2 x c e, fun y hy => absurd (show y ∈ ([] : List (Addr × Obj)) ++ [] from hy) (by simp)⟩
  have loop : codeAny (model X.prog X.w) X.A (.compLoop (.DictComp kx vx [⟨tg, it0, ifs, 0⟩] sc pos) 0 (.ref it) (.ref D) ce) (compPost (model X.prog X.w) X.A X.xe none (fun v u => ∃ y G, L2.Inv X pn σ G u ∧ RelV y v ∧ Q y G) (.ref D) sA.heap.objs.size) sB := by
    refine compLoop_anyD (fun m u => ∃ i G, L2.Inv (X.blk sA HA sc ce ws) [] (wipe σ (own.map (·.2))) G u ∧ tn i u.heap ∧ (∀ b ∈ ws, G b = none) ∧ W i m G) ?_ m0 ⟨0, HA, IB, stB, nws, w0⟩
    rintro m u5 ⟨i, G5, J5, t5, n5, w5⟩
    rcases turn i m G5 w5 with ⟨stop, end_⟩ | ⟨go, N, hN, step⟩
    · refine thnF (T.done (X.blk sA HA sc ce ws) rfl rfl rfl calm i [] u5 _ G5 (fun _ _ => False) J5 (held J5 n5) t5 stop) fun r u6 ⟨er, J6⟩ => ?_
      subst er
      have J7 : L2.Inv X pn σ G5 u6 := IA.call' (ch := ws) J6.os J6.base J6.hok J6.bare fun b hb => let y := (fA b hb).1.2; ⟨y.2.2.1, y.1, y.2.2.2.1, y.2.2.2.2⟩
      have nC : G5 sA.heap.objs.size = none := eL ▸ (show G5 ce.locals = none from J6.free)
      obtain ⟨k, hk0, _⟩ := J6.loc
      have hk1 : u6.heap.Ns sA.heap.objs.size k := eL ▸ (show u6.heap.Ns ce.locals k from hk0)
      obtain ⟨y0, y1, _, y3, y4, y5⟩ := IA.fpOk (Nat.le_refl _) nC
      exact ⟨k, hk1, fun hh sb => ⟨.ref D, G5, J7.turned (t' := u6.toks) (fun b o hb e => (sb.2 b hb).trans e) y0 y1 y3 y4 y5, rfl, end_⟩⟩
    · refine thnF (T.item (X.blk sA HA sc ce ws) rfl rfl rfl calm i [] u5 _ G5 (fun _ _ => False) J5 (held J5 n5) t5 go) fun r u6 ⟨v, er, z6⟩ => ?_
      subst er
      refine thnF z6 fun _ u7 ⟨x, G7, J7, r7, y7, t7, n7⟩ => ?_
      refine thnF (hg.run _ u7 _ G7 x v _ (J7.pinned (held J7 n7) (T.obj _ _ t7)) r7 (step x G7 y7)) fun _ u8 ⟨τ8, G8, J8, wp8, q8⟩ => ?_
      refine thnF (ht.run _ u8 τ8 G8 _ J8 q8) fun b u9 ⟨G9, J9, q9⟩ => ?_
      have on : ∀ {u : Shared} {G : Hp}, L2.Inv (X.blk sA HA sc ce ws) ([] ++ pinsAt ws u7.heap) τ8 G u → N G → ∃ m', m' < m ∧ ∃ i G, L2.Inv (X.blk sA HA sc ce ws) [] (wipe σ (own.map (·.2))) G u ∧ tn i u.heap ∧ (∀ b ∈ ws, G b = none) ∧ W i m' G := fun {u G} J nx => by
        obtain ⟨m', lt, w'⟩ := hN G nx
        have pin : ∀ b ∈ ws, ∀ o, u7.heap.get? b = some o → u.heap.get? b = some o ∧ G b = none := fun b hb o e => by
          have y := J.pin (b, o) (List.mem_append_right _ (List.mem_append_right _ (mem_pinsAt hb e)))
          exact ⟨y.1, y.2.1⟩
        refine ⟨m', lt, i + 1, G, (J.unpinned (pins := [])).weak (by rw [← wp8, wipe_length]) (fun j c e => by rw [← wp8] at e; exact (wipe_some e).1), T.keep _ _ _ t7 fun b hb o e => (pin b hb o e).1, fun b hb => ?_, w'⟩
        obtain ⟨o, e, _⟩ := T.obj _ _ t7 b hb
        exact (pin b hb o e).2
      cases b with
      | false =>
        simp only [Bool.false_eq_true, if_false] at q9 ⊢
        exact on J9 q9
      | true =>
        simp only [if_true] at q9 ⊢
        refine thnF (hk.run _ u9 τ8 G9 _ J9 q9) fun v1 u10 ⟨y1, G10, J10, r10, q10⟩ => ?_
        refine thnF (hv.run _ u10 τ8 G10 _ J10 q10) fun v2 u11 ⟨y2, G11, J11, r11, kv, k, c, ec, e1, e2, room, nx⟩ => ?_
        subst ec
        cases (show v1 = Value.ref c from r10)
        exact put_tup (X := X.blk sA HA sc ce ws) hu J11 e1 e2 room r11 fun u12 J12 => on J12 nx
  exact codeAny_compStart_dict loop (T.self X.A 0 _ _ _ stB loop)
/-- over a tuple that stays -/
theorem dcT_tup {K : PySem.W.Frag} {a : Addr} {xs : List V} {g : TG} {tt : TT} {tk tv : TE} {vs : List Nat} {σ : L2.St} {H1 : Hp} {D : Addr} {Qd : Hp → Prop} (Pv : Nat → Hp → Prop) (h0 : Pv 0 (upd H1 D (.dT []))) (st : ∀ i H, i ≤ xs.length → Pv i H → SqT K H a xs)
    (turn : ∀ i x H, xs[i]? = some x → Pv i H → g x (wipe σ vs) H fun σ2 H4 => wipe σ2 vs = wipe σ vs ∧ tt σ2 H4 fun b H5 =>
      if b = true then tk σ2 H5 fun y H6 => tv σ2 H6 fun z H7 => ∃ kv k c, y = .ref c ∧ H7 D = some (.dT kv) ∧ H7 c = some (.tup (k.map kV)) ∧ kv.length < sizeLine ∧ Pv (i + 1) (upd H7 D (.dT (putK kv k z))) else Pv (i + 1) H5) (fin : ∀ H, Pv xs.length H → Qd H) :
    ∃ W : Nat → Nat → Hp → Prop, (∃ m, W 0 m (upd H1 D (.dT []))) ∧ ∀ i m H2, W i m H2 →
      ((Itt K a).stop i H2 ∧ Qd H2) ∨ ((Itt K a).go i H2 ∧ ∃ N : Hp → Prop, (∀ H3, N H3 → ∃ m', m' < m ∧ W (i + 1) m' H3) ∧ ∀ x H3, (Itt K a).yld i H2 x H3 → g x (wipe σ vs) H3 fun σ2 H4 => wipe σ2 vs = wipe σ vs ∧ tt σ2 H4 fun b H5 =>
        if b = true then tk σ2 H5 fun y H6 => tv σ2 H6 fun z H7 => ∃ kv k c, y = .ref c ∧ H7 D = some (.dT kv) ∧ H7 c = some (.tup (k.map kV)) ∧ kv.length < sizeLine ∧ N (upd H7 D (.dT (putK kv k z))) else N H5) := by
  refine ⟨fun i m H => m + i = xs.length ∧ Pv i H, ⟨xs.length, rfl, h0⟩, fun i m H ⟨e, p⟩ => ?_⟩
  have here := st i H (by omega) p
  cases m with
  | zero =>
    have e : i = xs.length := by omega
    subst e
    exact .inl ⟨⟨xs, here, Nat.le_refl _⟩, fin H p⟩
  | succ m =>
    have lt : i < xs.length := by omega
    refine .inr ⟨⟨xs, xs[i], here, List.getElem?_eq_getElem lt⟩, Pv (i + 1), fun H' p' => ⟨m, Nat.lt_succ_self _, by omega, p'⟩, fun x H' ⟨e1, e2⟩ => ?_⟩
    subst e1
    exact turn i x _ (e2 xs here) p
end
end Ag

set_option Elab.async false
set_option linter.all false
set_option maxRecDepth 100000
set_option maxHeartbeats 2000000
/-! t[::-1] of any tuple, the empty one too. -/
namespace Ag
open PySem PySem.Spec PyProof.Rows L2
section
variable {prog : Program} {w : World} {A : Around} {E : Value → Shared → Prop} {s : Shared}
theorem rev_any0 {t sl : Addr} {its : Array Value} {vl vu vs : Value} {Q : Value → Shared → Prop} (ht : IsTup s.heap t its) (hz : its.size ≤ sizeLine) (hs : s.heap.IsSliceOf sl vl vu vs) (pl : IsPart vl none) (pu : IsPart vu none) (ps : IsPart vs (some (-1)))
    (h : Q (.ref s.heap.objs.size) { s with heap := s.heap.push { cls := .type "tuple", data := .seq its.toList.reverse.toArray } }) : wpAny (model prog w) A (getItem (.ref t) (.ref sl)) Q E s := by
  obtain ⟨o, ho, hc, hd⟩ := id hs
  have ty : s.TypeIs (.ref sl) "slice" := ⟨o, ho, hc⟩
  have ad : Builtin.Slice.sliceAdjust none none (-1) ((its.size : Nat) : Int) = (((its.size : Nat) : Int) - 1, -1) := rfl
  have pc : Builtin.Slice.slicePlaces (((its.size : Nat) : Int) - 1) (-1) (-1) = its.size := by
    unfold Builtin.Slice.slicePlaces
    by_cases h0 : its.size = 0
    · rw [if_neg (by decide), if_neg (by omega), h0]; rfl
    rw [if_neg (by decide), if_pos (by omega), show ((((its.size : Nat) : Int) - 1 - -1 - 1) / (- -1) + 1).toNat = its.size by rw [show (- -1 : Int) = 1 by decide, Int.ediv_one]; omega]
  unfold getItem
  try with_reducible refine wpAny_holding ?_
  first | refine wpAny_bind (wpAny_pure ?_) | skip
  refine wpAny_bind (wpAny_sequenceKey ht.typeIs (by decide) (wpAny_bind (wpAny_callSpecial?_slot (name := Str.ofString "__getitem__") ht.typeIs PyProof.Rows.slot_tuple_getitem (wpAny_call_entry PyProof.Rows.slot_tuple_getitem ht.typeIs entry_tuple_getitem ?_ (args_tuple_getitem _ _)))))
  show wpAny _ _ (Builtin.Tuple.tupleItemsOf (.ref t) >>= _) _ _ s
  refine wpAny_bind (tupleItemsOf_ ht (wpAny_bind (wpAny_typeOf ty ?_))); rw [if_pos (by decide)]
  have ap : ∀ {Q' : Int × Int × Nat → Shared → Prop}, Q' (((its.size : Nat) : Int) - 1, -1, its.size) s → wpAny (model prog w) A.in1 (Builtin.Slice.sliceApplied (.ref sl) (pure ((its.size : Nat) : Int))) Q' E s := fun {Q'} q => by
    unfold Builtin.Slice.sliceApplied Builtin.Slice.sliceFields
    refine wpAny_bind (wpAny_bind (wpAny_field ho hd (x := vl) rfl (wpAny_bind (wpAny_field ho hd (x := vu) rfl (wpAny_bind (wpAny_field ho hd (x := vs) rfl (wpAny_pure ?_)))))))
    refine wpAny_bind (HT.slicePart_ ps ?_)
    show wpAny _ _ (if ((-1 : Int) == 0) = true then _ else _) _ _ s
    rw [if_neg (by decide)]
    refine wpAny_bind (HT.slicePart_ pl (wpAny_bind (HT.slicePart_ pu (wpAny_bind (wpAny_pure ?_)))))
    show wpAny _ _ (match Builtin.Slice.sliceAdjust none none (-1) ((its.size : Nat) : Int) with | (u, v) => pure (u, (-1 : Int), Builtin.Slice.slicePlaces u v (-1))) _ _ s
    rw [ad]
    show wpAny _ _ (pure (((its.size : Nat) : Int) - 1, (-1 : Int), Builtin.Slice.slicePlaces (((its.size : Nat) : Int) - 1) (-1) (-1))) _ _ s
    rw [pc]
    exact wpAny_pure q
  refine wpAny_bind (wpAny_mono (ap (Q' := fun z s' => z = (((its.size : Nat) : Int) - 1, -1, its.size) ∧ s' = s) ⟨rfl, rfl⟩) (fun z s' hz => ?_) fun _ _ e => e)
  obtain ⟨rfl, rfl⟩ := hz
  show wpAny _ _ (if (((its.size : Nat) : Int) - 1 == 0 && (-1 : Int) == 1 && its.size == its.size) = true then _ else _) _ _ s'
  rw [if_neg (by rw [show ((-1 : Int) == 1) = false from rfl, Bool.and_false, Bool.false_and]; exact Bool.false_ne_true)]
  have e : ((List.range its.size).filterMap fun (m : Nat) => its[((((its.size : Nat) : Int) - 1) + (m : Int) * (-1)).toNat]?).toArray = its.toList.reverse.toArray := by rw [pick_back]
  rw [e]
  have fit : its.toList.reverse.toArray.size ≤ sizeLine := by rw [List.size_toArray, List.length_reverse, Array.length_toList]; exact hz
  first
    | exact wpAny_bind (m := Builtin.Tuple.tupleExact _) (wpAny_newObj_type (wpAny_pure ⟨_, rfl, wpAny_pure h⟩) fit)
    | exact wpAny_bind (m := Builtin.Tuple.tupleExact _) (wpAny_newObj_type (wpAny_bind (wpAny_pure (wpAny_pure ⟨_, rfl, wpAny_pure h⟩))) fit)
    | exact wpAny_bind (wpAny_bind (m := Builtin.Tuple.tupleExact _) (wpAny_newObj_type (wpAny_pure (wpAny_pure ⟨_, rfl, wpAny_pure h⟩)) fit))
    | exact wpAny_bind (wpAny_bind (m := Builtin.Tuple.tupleExact _) (wpAny_newObj_type (wpAny_pure ⟨_, rfl, wpAny_pure h⟩) fit))
end
/-- t[::-1] -/
def tRevE (K : PySem.W.Frag) (te : TE) : TE := fun σ H Q => te σ H fun x H1 => ∃ a xs, x = .ref a ∧ SqT K H1 a xs ∧ ∀ p, H1 p = none → Q (.ref p) (upd H1 p (.tup xs.reverse))
theorem pe_revE {X : Cx} {e : Expr} {te : TE} {k : Nat} {p1 p2 p3 pos : Pos} (he : PE X e te) : PE X (.Subscript e (.Slice none none (some (.UnaryOp .USub (.Constant (.int 1) k p1) p2)) p3) pos) (tRevE X.K te) := by
  refine ⟨fun pins s σ H Q I h => Subscript_ (thn (he.run pins s σ H _ I h) fun v s1 ⟨x, H1, I1, r1, a, xs, ex, hx, q⟩ => ?_)⟩
  subst ex
  obtain rfl : v = Value.ref a := r1
  refine wpAny_Slice (thn (po_none.run pins s1 σ H1 (fun o G => o = none ∧ G = H1) I1 ⟨rfl, rfl⟩) fun vl s2 ⟨l, H2, I2, pl, el, e2⟩ => ?_)
  subst el e2
  refine thn (po_none.run pins s2 σ H2 (fun o G => o = none ∧ G = H2) I2 ⟨rfl, rfl⟩) fun vu s3 ⟨u, H3, I3, pu, eu, e3⟩ => ?_
  subst eu e3
  refine thn ((po_some (pe_un un_neg pe_int) : PO X (some (.UnaryOp .USub (.Constant (.int 1) k p1) p2)) (tPart (tUn (rU fun i => .int (-i)) (tC (.int 1))))).run pins s3 σ H3 (fun o G => o = some (-1) ∧ G = H3) I3 ⟨1, rfl, -1, rfl, rfl, rfl⟩) fun vs s4 ⟨o, H4, I4, ps, eo, e4⟩ => ?_
  subst eo e4
  have I5 : Inv X pins σ H4 { s4 with heap := s4.heap.push { cls := .type "slice", data := .fields #[vl, vu, vs] } } := I4.kept (t' := s4.toks) fun b ob z => Heap.get?_push_of_some _ z
  obtain ⟨its, r, ht, hz⟩ := I5.tuple hx
  have ln := r.length
  refine tail_any (ops := [.ref a, .ref s4.heap.objs.size]) ht.typeIs PyProof.Rows.slot_tuple_getitem.lookup (rev_any0 ht (by rw [List.size_toArray, ← ln]; exact hz) (Heap.IsSliceOf.new _ vl vu vs) pl pu ps ?_) (by with_unfolding_all rfl)
  exact ⟨.ref _, _, I5.laid (t' := s4.toks) (o := .tup xs.reverse) (fun b ob z => Heap.get?_push_of_some _ z) (Nat.le_refl _) ⟨by rw [List.length_reverse]; exact hz, its.reverse, vals_rev r, IsTup.new _ _⟩, rfl, q _ (I5.hok.fresh (Nat.le_refl _))⟩
theorem ed_revE {K : PySem.W.Frag} {σ : L2.St} {F : Addr → Prop} {H : Hp} {te : TE} {xs : List PyData} (h : ED K te σ F H (.tuple xs)) : ED K (tRevE K te) σ F H (.tuple xs.reverse) := fun H1 s Q q =>
  h H1 s _ fun v H2 s2 hv => by
    cases hv with
    | tup ht r => exact ⟨_, _, rfl, ht, fun p hp => q _ _ (s2.trans (Same.newA hp)) (.tup (.of upd_same) (dfs_mono (Same.newA hp) (fun _ z => z) (dfs_rev r)))⟩
end Ag

set_option Elab.async false
set_option linter.all false
set_option maxRecDepth 100000
set_option maxHeartbeats 1000000
namespace Ag
open PySem PySem.Spec PyProof.Rows L2
/-! ### the text by places -/
def top (i : Nat) : Stmt := PySem.Challenge.pw_againnotes_k07_machines_made.main.body.getD i (.Pass ⟨0, 0, 0, 0⟩)
abbrev s_BadText___init__ : Stmt := inClass (top 2) 0
abbrev s_BadNumber___init__ : Stmt := inClass (top 3) 0
abbrev s_BadRow___init__ : Stmt := inClass (top 4) 0
abbrev s_NoName___init__ : Stmt := inClass (top 5) 0
abbrev s_Unlike___init__ : Stmt := inClass (top 6) 0
abbrev s_TooMany___init__ : Stmt := inClass (top 7) 0
abbrev s_is_whole : Stmt := top 9
abbrev s_is_listed : Stmt := top 10
abbrev s_as_tuples : Stmt := top 11
abbrev s_is_name : Stmt := top 15
abbrev s_are_calls : Stmt := top 18
abbrev s_are_rows : Stmt := top 19
abbrev s_is_step : Stmt := top 20
abbrev s_are_marks : Stmt := top 21
abbrev s_Machine___init__ : Stmt := inClass (top 22) 0
abbrev s_Machine___eq__ : Stmt := inClass (top 22) 1
abbrev s_Machine_need_state : Stmt := inClass (top 22) 2
abbrev s_Machine_go : Stmt := inClass (top 22) 3
abbrev s_Machine_is_marked : Stmt := inClass (top 22) 4
abbrev s_Machine_behind : Stmt := inClass (top 22) 5
abbrev s_Machine_marks_along : Stmt := inClass (top 22) 6
abbrev s_law_pen : Stmt := top 24
abbrev s_law_draw : Stmt := top 25
abbrev s_law_pick : Stmt := top 26
abbrev s_law_shuffled : Stmt := top 27
abbrev s_law_name : Stmt := top 28
abbrev s_law_names : Stmt := top 29
abbrev s_law_same : Stmt := top 30
abbrev s_law_is_whole : Stmt := top 31
abbrev s_law_go : Stmt := top 32
abbrev s_law_is_marked : Stmt := top 33
abbrev s_law_is_name : Stmt := top 34
abbrev s_law_calls : Stmt := top 35
abbrev s_law_some_word : Stmt := top 36
abbrev s_law_why : Stmt := top 37
abbrev s_law_marks_made : Stmt := top 38
abbrev s_law_wide_machine : Stmt := top 39
abbrev s_law_due : Stmt := top 40
abbrev s_law_bent : Stmt := top 41
abbrev s_law : Stmt := top 42
structure DefAt (K : PySem.W.Frag) (mg : Str → Option Value) (x : Str) (st : Stmt) (ps : List Str) (a : Addr) (fd : FuncData) : Prop where
  fn : Fun K x x st a fd
  mg : mg x = some (.ref a)
  bd : Binds K fd ps []
structure MethAt (K : PySem.W.Frag) (x qual : Str) (st : Stmt) (ps : List Str) (a : Addr) (fd : FuncData) : Prop where
  fn : Fun K x qual st a fd
  bd : Binds K fd ps []
structure DefAtD (K : PySem.W.Frag) (mg : Str → Option Value) (x : Str) (st : Stmt) (ps : List Str) (dvs : List V) (a : Addr) (fd : FuncData) : Prop where
  fn : FunD K x x (defArgs st) (defBody st) (defScope st) dvs [] a fd
  mg : mg x = some (.ref a)
  bd : Binds K fd ps []
structure MethAtD (K : PySem.W.Frag) (x qual : Str) (st : Stmt) (ps : List Str) (dvs : List V) (a : Addr) (fd : FuncData) : Prop where
  fn : FunD K x qual (defArgs st) (defBody st) (defScope st) dvs [] a fd
  bd : Binds K fd ps []
theorem bt_isinstance : bootBuiltins ("isinstance" : Str) = some (.builtin "isinstance") := by decide +kernel
theorem bt_all : bootBuiltins ("all" : Str) = some (.builtin "all") := by decide +kernel
theorem bt_range : bootBuiltins ("range" : Str) = some (.type "range") := by decide +kernel
theorem bt_tuple : bootBuiltins ("tuple" : Str) = some (.type "tuple") := by decide +kernel
theorem bt_int : bootBuiltins ("int" : Str) = some (.type "int") := by decide +kernel
theorem bt_bool : bootBuiltins ("bool" : Str) = some (.type "bool") := by decide +kernel
theorem bt_list : bootBuiltins ("list" : Str) = some (.type "list") := by decide +kernel
theorem bt_str : bootBuiltins ("str" : Str) = some (.type "str") := by decide +kernel
theorem bt_len : bootBuiltins ("len" : Str) = some (.builtin "len") := by decide +kernel
theorem bt_sorted : bootBuiltins ("sorted" : Str) = some (.builtin "sorted") := by decide +kernel
theorem bt_repr : bootBuiltins ("repr" : Str) = some (.builtin "repr") := by decide +kernel
theorem bt_zip : bootBuiltins ("zip" : Str) = some (.type "zip") := by decide +kernel
theorem bt_enumerate : bootBuiltins ("enumerate" : Str) = some (.type "enumerate") := by decide +kernel
theorem bt_set : bootBuiltins ("set" : Str) = some (.type "set") := by decide +kernel
structure Txt (w : World) (K : PySem.W.Frag) (mg : Str → Option Value) where
  C_AgainError : Addr
  g_AgainError : mg "AgainError" = some (.ref C_AgainError)
  ox_AgainError : OexC K C_AgainError
  xf_AgainError : XfC K C_AgainError
  sb_AgainError : PySem.W.subIn K (.ref C_AgainError) (.ref C_AgainError) = some true
  C_BadText : Addr
  g_BadText : mg "BadText" = some (.ref C_BadText)
  a_BadText___init__ : Addr
  d_BadText___init__ : FuncData
  D_BadText___init__ : MethAt K "__init__" "BadText.__init__" s_BadText___init__ ["self", "line", "word"] a_BadText___init__ d_BadText___init__
  na_BadText_line : NoAttr K C_BadText "line"
  na_BadText_word : NoAttr K C_BadText "word"
  ox_BadText : OexC K C_BadText
  xf_BadText : XfC K C_BadText
  sb_BadText : PySem.W.subIn K (.ref C_BadText) (.ref C_BadText) = some true
  ic_BadText : PySem.W.findIn K (.ref C_BadText) "__init__" = some (some (.ref a_BadText___init__))
  ti_BadText : PySem.W.typeIn K (.ref a_BadText___init__) = some (.type "function")
  C_BadNumber : Addr
  g_BadNumber : mg "BadNumber" = some (.ref C_BadNumber)
  a_BadNumber___init__ : Addr
  d_BadNumber___init__ : FuncData
  D_BadNumber___init__ : MethAt K "__init__" "BadNumber.__init__" s_BadNumber___init__ ["self", "what", "number"] a_BadNumber___init__ d_BadNumber___init__
  na_BadNumber_what : NoAttr K C_BadNumber "what"
  na_BadNumber_number : NoAttr K C_BadNumber "number"
  ox_BadNumber : OexC K C_BadNumber
  xf_BadNumber : XfC K C_BadNumber
  sb_BadNumber : PySem.W.subIn K (.ref C_BadNumber) (.ref C_BadNumber) = some true
  ic_BadNumber : PySem.W.findIn K (.ref C_BadNumber) "__init__" = some (some (.ref a_BadNumber___init__))
  ti_BadNumber : PySem.W.typeIn K (.ref a_BadNumber___init__) = some (.type "function")
  C_BadRow : Addr
  g_BadRow : mg "BadRow" = some (.ref C_BadRow)
  a_BadRow___init__ : Addr
  d_BadRow___init__ : FuncData
  D_BadRow___init__ : MethAt K "__init__" "BadRow.__init__" s_BadRow___init__ ["self", "what", "row"] a_BadRow___init__ d_BadRow___init__
  na_BadRow_what : NoAttr K C_BadRow "what"
  na_BadRow_row : NoAttr K C_BadRow "row"
  ox_BadRow : OexC K C_BadRow
  xf_BadRow : XfC K C_BadRow
  sb_BadRow : PySem.W.subIn K (.ref C_BadRow) (.ref C_BadRow) = some true
  ic_BadRow : PySem.W.findIn K (.ref C_BadRow) "__init__" = some (some (.ref a_BadRow___init__))
  ti_BadRow : PySem.W.typeIn K (.ref a_BadRow___init__) = some (.type "function")
  C_NoName : Addr
  g_NoName : mg "NoName" = some (.ref C_NoName)
  a_NoName___init__ : Addr
  d_NoName___init__ : FuncData
  D_NoName___init__ : MethAt K "__init__" "NoName.__init__" s_NoName___init__ ["self", "name"] a_NoName___init__ d_NoName___init__
  na_NoName_name : NoAttr K C_NoName "name"
  ox_NoName : OexC K C_NoName
  xf_NoName : XfC K C_NoName
  sb_NoName : PySem.W.subIn K (.ref C_NoName) (.ref C_NoName) = some true
  ic_NoName : PySem.W.findIn K (.ref C_NoName) "__init__" = some (some (.ref a_NoName___init__))
  ti_NoName : PySem.W.typeIn K (.ref a_NoName___init__) = some (.type "function")
  C_Unlike : Addr
  g_Unlike : mg "Unlike" = some (.ref C_Unlike)
  a_Unlike___init__ : Addr
  d_Unlike___init__ : FuncData
  D_Unlike___init__ : MethAt K "__init__" "Unlike.__init__" s_Unlike___init__ ["self", "what"] a_Unlike___init__ d_Unlike___init__
  na_Unlike_what : NoAttr K C_Unlike "what"
  ox_Unlike : OexC K C_Unlike
  xf_Unlike : XfC K C_Unlike
  sb_Unlike : PySem.W.subIn K (.ref C_Unlike) (.ref C_Unlike) = some true
  ic_Unlike : PySem.W.findIn K (.ref C_Unlike) "__init__" = some (some (.ref a_Unlike___init__))
  ti_Unlike : PySem.W.typeIn K (.ref a_Unlike___init__) = some (.type "function")
  C_TooMany : Addr
  g_TooMany : mg "TooMany" = some (.ref C_TooMany)
  a_TooMany___init__ : Addr
  d_TooMany___init__ : FuncData
  D_TooMany___init__ : MethAt K "__init__" "TooMany.__init__" s_TooMany___init__ ["self", "what", "many", "limit"] a_TooMany___init__ d_TooMany___init__
  na_TooMany_what : NoAttr K C_TooMany "what"
  na_TooMany_many : NoAttr K C_TooMany "many"
  na_TooMany_limit : NoAttr K C_TooMany "limit"
  ox_TooMany : OexC K C_TooMany
  xf_TooMany : XfC K C_TooMany
  sb_TooMany : PySem.W.subIn K (.ref C_TooMany) (.ref C_TooMany) = some true
  ic_TooMany : PySem.W.findIn K (.ref C_TooMany) "__init__" = some (some (.ref a_TooMany___init__))
  ti_TooMany : PySem.W.typeIn K (.ref a_TooMany___init__) = some (.type "function")
  C_Machine : Addr
  g_Machine : mg "Machine" = some (.ref C_Machine)
  a_Machine___init__ : Addr
  d_Machine___init__ : FuncData
  D_Machine___init__ : MethAt K "__init__" "Machine.__init__" s_Machine___init__ ["self", "calls", "rows", "marks"] a_Machine___init__ d_Machine___init__
  a_Machine___eq__ : Addr
  d_Machine___eq__ : FuncData
  D_Machine___eq__ : MethAt K "__eq__" "Machine.__eq__" s_Machine___eq__ ["self", "other"] a_Machine___eq__ d_Machine___eq__
  a_Machine_need_state : Addr
  d_Machine_need_state : FuncData
  D_Machine_need_state : MethAt K "need_state" "Machine.need_state" s_Machine_need_state ["self", "state"] a_Machine_need_state d_Machine_need_state
  a_Machine_go : Addr
  d_Machine_go : FuncData
  D_Machine_go : MethAt K "go" "Machine.go" s_Machine_go ["self", "state", "call"] a_Machine_go d_Machine_go
  a_Machine_is_marked : Addr
  d_Machine_is_marked : FuncData
  D_Machine_is_marked : MethAt K "is_marked" "Machine.is_marked" s_Machine_is_marked ["self", "state", "call"] a_Machine_is_marked d_Machine_is_marked
  a_Machine_behind : Addr
  d_Machine_behind : FuncData
  D_Machine_behind : MethAt K "behind" "Machine.behind" s_Machine_behind ["self", "word"] a_Machine_behind d_Machine_behind
  a_Machine_marks_along : Addr
  d_Machine_marks_along : FuncData
  D_Machine_marks_along : MethAt K "marks_along" "Machine.marks_along" s_Machine_marks_along ["self", "state", "word"] a_Machine_marks_along d_Machine_marks_along
  na_Machine_calls : NoAttr K C_Machine "calls"
  na_Machine_rows : NoAttr K C_Machine "rows"
  na_Machine_marks : NoAttr K C_Machine "marks"
  na_Machine__place : NoAttr K C_Machine "_place"
  na_Machine__marked : NoAttr K C_Machine "_marked"
  cl_Machine : Cls K C_Machine
  mk_Machine : Mk K C_Machine a_Machine___init__
  mt_Machine___eq__ : Meth K C_Machine "__eq__" a_Machine___eq__
  mt_Machine_need_state : Meth K C_Machine "need_state" a_Machine_need_state
  mt_Machine_go : Meth K C_Machine "go" a_Machine_go
  mt_Machine_is_marked : Meth K C_Machine "is_marked" a_Machine_is_marked
  mt_Machine_behind : Meth K C_Machine "behind" a_Machine_behind
  mt_Machine_marks_along : Meth K C_Machine "marks_along" a_Machine_marks_along
  ki_Machine_Machine : PySem.W.kitOne K (.ref C_Machine) (.ref C_Machine) = some true
  ty_Machine : ∀ (H : Hp) (a dx : Addr) (fs : List (Str × V)), H a = some (.ins C_Machine dx fs) → TyOf K H (.ref a) (.ref C_Machine)
  kt_Machine : PySem.W.kitOne K (.type "tuple") (.ref C_Machine) = some false
  st_Machine : PySem.W.subIn K (.type "tuple") (.ref C_Machine) = some false
  sb_BadNumber_BadText : PySem.W.subIn K (.ref C_BadNumber) (.ref C_BadText) = some false
  sb_BadRow_BadText : PySem.W.subIn K (.ref C_BadRow) (.ref C_BadText) = some false
  sb_BadRow_BadNumber : PySem.W.subIn K (.ref C_BadRow) (.ref C_BadNumber) = some false
  a_is_whole : Addr
  d_is_whole : FuncData
  D_is_whole : DefAtD K mg "is_whole" s_is_whole ["value", "least", "most"] [.non] a_is_whole d_is_whole
  a_is_listed : Addr
  d_is_listed : FuncData
  D_is_listed : DefAt K mg "is_listed" s_is_listed ["value"] a_is_listed d_is_listed
  a_as_tuples : Addr
  d_as_tuples : FuncData
  D_as_tuples : DefAt K mg "as_tuples" s_as_tuples ["value"] a_as_tuples d_as_tuples
  a_is_name : Addr
  d_is_name : FuncData
  D_is_name : DefAt K mg "is_name" s_is_name ["value"] a_is_name d_is_name
  a_are_calls : Addr
  d_are_calls : FuncData
  D_are_calls : DefAt K mg "are_calls" s_are_calls ["value"] a_are_calls d_are_calls
  a_are_rows : Addr
  d_are_rows : FuncData
  D_are_rows : DefAt K mg "are_rows" s_are_rows ["value", "width"] a_are_rows d_are_rows
  a_is_step : Addr
  d_is_step : FuncData
  D_is_step : DefAt K mg "is_step" s_is_step ["value", "calls", "many"] a_is_step d_is_step
  a_are_marks : Addr
  d_are_marks : FuncData
  D_are_marks : DefAt K mg "are_marks" s_are_marks ["value", "calls", "many"] a_are_marks d_are_marks
  a_law_pen : Addr
  d_law_pen : FuncData
  D_law_pen : DefAt K mg "_law_pen" s_law_pen ["script"] a_law_pen d_law_pen
  a_law_draw : Addr
  d_law_draw : FuncData
  D_law_draw : DefAt K mg "_law_draw" s_law_draw ["pen", "many"] a_law_draw d_law_draw
  a_law_pick : Addr
  d_law_pick : FuncData
  D_law_pick : DefAt K mg "_law_pick" s_law_pick ["pen", "some"] a_law_pick d_law_pick
  a_law_shuffled : Addr
  d_law_shuffled : FuncData
  D_law_shuffled : DefAt K mg "_law_shuffled" s_law_shuffled ["pen", "some"] a_law_shuffled d_law_shuffled
  a_law_name : Addr
  d_law_name : FuncData
  D_law_name : DefAt K mg "_law_name" s_law_name ["pen", "index"] a_law_name d_law_name
  a_law_names : Addr
  d_law_names : FuncData
  D_law_names : DefAt K mg "_law_names" s_law_names ["pen", "many"] a_law_names d_law_names
  a_law_same : Addr
  d_law_same : FuncData
  D_law_same : DefAt K mg "_law_same" s_law_same ["told", "due"] a_law_same d_law_same
  a_law_is_whole : Addr
  d_law_is_whole : FuncData
  D_law_is_whole : DefAt K mg "_law_is_whole" s_law_is_whole ["value", "least", "most"] a_law_is_whole d_law_is_whole
  a_law_go : Addr
  d_law_go : FuncData
  D_law_go : DefAt K mg "_law_go" s_law_go ["machine", "state", "call"] a_law_go d_law_go
  a_law_is_marked : Addr
  d_law_is_marked : FuncData
  D_law_is_marked : DefAt K mg "_law_is_marked" s_law_is_marked ["machine", "state", "call"] a_law_is_marked d_law_is_marked
  a_law_is_name : Addr
  d_law_is_name : FuncData
  D_law_is_name : DefAt K mg "_law_is_name" s_law_is_name ["value"] a_law_is_name d_law_is_name
  a_law_calls : Addr
  d_law_calls : FuncData
  D_law_calls : DefAt K mg "_law_calls" s_law_calls ["pen", "many"] a_law_calls d_law_calls
  a_law_some_word : Addr
  d_law_some_word : FuncData
  D_law_some_word : DefAt K mg "_law_some_word" s_law_some_word ["pen", "calls", "most"] a_law_some_word d_law_some_word
  a_law_why : Addr
  d_law_why : FuncData
  D_law_why : DefAt K mg "_law_why" s_law_why ["call"] a_law_why d_law_why
  a_law_marks_made : Addr
  d_law_marks_made : FuncData
  D_law_marks_made : DefAt K mg "_law_marks_made" s_law_marks_made ["machine", "state", "word"] a_law_marks_made d_law_marks_made
  a_law_wide_machine : Addr
  d_law_wide_machine : FuncData
  D_law_wide_machine : DefAt K mg "_law_wide_machine" s_law_wide_machine ["pen", "calls", "many"] a_law_wide_machine d_law_wide_machine
  a_law_due : Addr
  d_law_due : FuncData
  D_law_due : DefAt K mg "_law_due" s_law_due ["calls", "rows", "marks"] a_law_due d_law_due
  a_law_bent : Addr
  d_law_bent : FuncData
  D_law_bent : DefAt K mg "_law_bent" s_law_bent ["pen", "value", "some"] a_law_bent d_law_bent
  a_law : Addr
  d_law : FuncData
  D_law : DefAt K mg "law" s_law ["script"] a_law d_law
  t_FIGURES : Tok
  g_FIGURES : mg "FIGURES" = some (.str "0123456789" t_FIGURES)
  t_LETTERS : Tok
  g_LETTERS : mg "LETTERS" = some (.str "abcdefghijklmnopqrstuvwxyz" t_LETTERS)
  t_MOST_CALLS : Tok
  g_MOST_CALLS : mg "MOST_CALLS" = some (.int 6 t_MOST_CALLS)
  b_isinstance : mg "isinstance" = none
  b_all : mg "all" = none
  b_range : mg "range" = none
  b_tuple : mg "tuple" = none
  b_int : mg "int" = none
  b_bool : mg "bool" = none
  b_list : mg "list" = none
  b_str : mg "str" = none
  b_len : mg "len" = none
  b_sorted : mg "sorted" = none
  b_repr : mg "repr" = none
  b_zip : mg "zip" = none
  b_enumerate : mg "enumerate" = none
  b_set : mg "set" = none
theorem sc_BadText___init__ : FnScope ["self", "line", "word"] ["self", "line", "word"] (defScope s_BadText___init__) := ⟨rfl, rfl, rfl, by decide +kernel, rfl, by decide +kernel, by decide +kernel⟩
theorem sc_BadNumber___init__ : FnScope ["self", "what", "number"] ["self", "what", "number"] (defScope s_BadNumber___init__) := ⟨rfl, rfl, rfl, by decide +kernel, rfl, by decide +kernel, by decide +kernel⟩
theorem sc_BadRow___init__ : FnScope ["self", "what", "row"] ["self", "what", "row"] (defScope s_BadRow___init__) := ⟨rfl, rfl, rfl, by decide +kernel, rfl, by decide +kernel, by decide +kernel⟩
theorem sc_NoName___init__ : FnScope ["self", "name"] ["self", "name"] (defScope s_NoName___init__) := ⟨rfl, rfl, rfl, by decide +kernel, rfl, by decide +kernel, by decide +kernel⟩
theorem sc_Unlike___init__ : FnScope ["self", "what"] ["self", "what"] (defScope s_Unlike___init__) := ⟨rfl, rfl, rfl, by decide +kernel, rfl, by decide +kernel, by decide +kernel⟩
theorem sc_TooMany___init__ : FnScope ["self", "what", "many", "limit"] ["self", "what", "many", "limit"] (defScope s_TooMany___init__) := ⟨rfl, rfl, rfl, by decide +kernel, rfl, by decide +kernel, by decide +kernel⟩
theorem sc_is_whole : FnScope ["value", "least", "most"] ["value", "least", "most"] (defScope s_is_whole) := ⟨rfl, rfl, rfl, by decide +kernel, rfl, by decide +kernel, by decide +kernel⟩
theorem sc_is_listed : FnScope ["value"] ["value"] (defScope s_is_listed) := ⟨rfl, rfl, rfl, by decide +kernel, rfl, by decide +kernel, by decide +kernel⟩
theorem sc_as_tuples : FnScope ["value", "part"] ["value"] (defScope s_as_tuples) := ⟨rfl, rfl, rfl, by decide +kernel, rfl, by decide +kernel, by decide +kernel⟩
theorem sc_is_name : FnScope ["value", "sign"] ["value"] (defScope s_is_name) := ⟨rfl, rfl, rfl, by decide +kernel, rfl, by decide +kernel, by decide +kernel⟩
theorem sc_are_calls : FnScope ["value", "call", "one", "two"] ["value"] (defScope s_are_calls) := ⟨rfl, rfl, rfl, by decide +kernel, rfl, by decide +kernel, by decide +kernel⟩
theorem sc_are_rows : FnScope ["value", "width", "row", "state"] ["value", "width"] (defScope s_are_rows) := ⟨rfl, rfl, rfl, by decide +kernel, rfl, by decide +kernel, by decide +kernel⟩
theorem sc_is_step : FnScope ["value", "calls", "many"] ["value", "calls", "many"] (defScope s_is_step) := ⟨rfl, rfl, rfl, by decide +kernel, rfl, by decide +kernel, by decide +kernel⟩
theorem sc_are_marks : FnScope ["value", "calls", "many", "step", "one", "two"] ["value", "calls", "many"] (defScope s_are_marks) := ⟨rfl, rfl, rfl, by decide +kernel, rfl, by decide +kernel, by decide +kernel⟩
theorem sc_Machine___init__ : FnScope ["self", "calls", "rows", "marks", "index", "call", "step"] ["self", "calls", "rows", "marks"] (defScope s_Machine___init__) := ⟨rfl, rfl, rfl, by decide +kernel, rfl, by decide +kernel, by decide +kernel⟩
theorem sc_Machine___eq__ : FnScope ["self", "other"] ["self", "other"] (defScope s_Machine___eq__) := ⟨rfl, rfl, rfl, by decide +kernel, rfl, by decide +kernel, by decide +kernel⟩
theorem sc_Machine_need_state : FnScope ["self", "state"] ["self", "state"] (defScope s_Machine_need_state) := ⟨rfl, rfl, rfl, by decide +kernel, rfl, by decide +kernel, by decide +kernel⟩
theorem sc_Machine_go : FnScope ["self", "state", "call"] ["self", "state", "call"] (defScope s_Machine_go) := ⟨rfl, rfl, rfl, by decide +kernel, rfl, by decide +kernel, by decide +kernel⟩
theorem sc_Machine_is_marked : FnScope ["self", "state", "call"] ["self", "state", "call"] (defScope s_Machine_is_marked) := ⟨rfl, rfl, rfl, by decide +kernel, rfl, by decide +kernel, by decide +kernel⟩
theorem sc_Machine_behind : FnScope ["self", "word", "state", "call"] ["self", "word"] (defScope s_Machine_behind) := ⟨rfl, rfl, rfl, by decide +kernel, rfl, by decide +kernel, by decide +kernel⟩
theorem sc_Machine_marks_along : FnScope ["self", "state", "word", "many", "call"] ["self", "state", "word"] (defScope s_Machine_marks_along) := ⟨rfl, rfl, rfl, by decide +kernel, rfl, by decide +kernel, by decide +kernel⟩
theorem sc_law_pen : FnScope ["script", "fold", "cell"] ["script"] (defScope s_law_pen) := ⟨rfl, rfl, rfl, by decide +kernel, rfl, by decide +kernel, by decide +kernel⟩
theorem sc_law_draw : FnScope ["pen", "many", "cell", "digit", "blend"] ["pen", "many"] (defScope s_law_draw) := ⟨rfl, rfl, rfl, by decide +kernel, rfl, by decide +kernel, by decide +kernel⟩
theorem sc_law_pick : FnScope ["pen", "some"] ["pen", "some"] (defScope s_law_pick) := ⟨rfl, rfl, rfl, by decide +kernel, rfl, by decide +kernel, by decide +kernel⟩
theorem sc_law_shuffled : FnScope ["pen", "some", "left", "found", "lap"] ["pen", "some"] (defScope s_law_shuffled) := ⟨rfl, rfl, rfl, by decide +kernel, rfl, by decide +kernel, by decide +kernel⟩
theorem sc_law_name : FnScope ["pen", "index", "word", "spot", "place"] ["pen", "index"] (defScope s_law_name) := ⟨rfl, rfl, rfl, by decide +kernel, rfl, by decide +kernel, by decide +kernel⟩
theorem sc_law_names : FnScope ["pen", "many", "index"] ["pen", "many"] (defScope s_law_names) := ⟨rfl, rfl, rfl, by decide +kernel, rfl, by decide +kernel, by decide +kernel⟩
theorem sc_law_same : FnScope ["told", "due", "one", "two"] ["told", "due"] (defScope s_law_same) := ⟨rfl, rfl, rfl, by decide +kernel, rfl, by decide +kernel, by decide +kernel⟩
theorem sc_law_is_whole : FnScope ["value", "least", "most"] ["value", "least", "most"] (defScope s_law_is_whole) := ⟨rfl, rfl, rfl, by decide +kernel, rfl, by decide +kernel, by decide +kernel⟩
theorem sc_law_go : FnScope ["machine", "state", "call"] ["machine", "state", "call"] (defScope s_law_go) := ⟨rfl, rfl, rfl, by decide +kernel, rfl, by decide +kernel, by decide +kernel⟩
theorem sc_law_is_marked : FnScope ["machine", "state", "call"] ["machine", "state", "call"] (defScope s_law_is_marked) := ⟨rfl, rfl, rfl, by decide +kernel, rfl, by decide +kernel, by decide +kernel⟩
theorem sc_law_is_name : FnScope ["value", "sign"] ["value"] (defScope s_law_is_name) := ⟨rfl, rfl, rfl, by decide +kernel, rfl, by decide +kernel, by decide +kernel⟩
theorem sc_law_calls : FnScope ["pen", "many"] ["pen", "many"] (defScope s_law_calls) := ⟨rfl, rfl, rfl, by decide +kernel, rfl, by decide +kernel, by decide +kernel⟩
theorem sc_law_some_word : FnScope ["pen", "calls", "most", "spot"] ["pen", "calls", "most"] (defScope s_law_some_word) := ⟨rfl, rfl, rfl, by decide +kernel, rfl, by decide +kernel, by decide +kernel⟩
theorem sc_law_why : FnScope ["call", "found", "error"] ["call"] (defScope s_law_why) := ⟨rfl, rfl, rfl, by decide +kernel, rfl, by decide +kernel, by decide +kernel⟩
theorem sc_law_marks_made : FnScope ["machine", "state", "word", "many", "call"] ["machine", "state", "word"] (defScope s_law_marks_made) := ⟨rfl, rfl, rfl, by decide +kernel, rfl, by decide +kernel, by decide +kernel⟩
theorem sc_law_wide_machine : FnScope ["pen", "calls", "many", "marks", "state", "call"] ["pen", "calls", "many"] (defScope s_law_wide_machine) := ⟨rfl, rfl, rfl, by decide +kernel, rfl, by decide +kernel, by decide +kernel⟩
theorem sc_law_due : FnScope ["calls", "rows", "marks", "call", "row", "one", "step"] ["calls", "rows", "marks"] (defScope s_law_due) := ⟨rfl, rfl, rfl, by decide +kernel, rfl, by decide +kernel, by decide +kernel⟩
theorem sc_law_bent : FnScope ["pen", "value", "some", "at", "one", "found"] ["pen", "value", "some"] (defScope s_law_bent) := ⟨rfl, rfl, rfl, by decide +kernel, rfl, by decide +kernel, by decide +kernel⟩
theorem sc_law : FnScope ["script", "pen", "lap", "calls", "machine", "rows", "marks", "many", "row", "handed", "made", "other", "turn", "word", "state", "at", "call", "odd", "bent", "due", "way", "some"] ["script"] (defScope s_law) := ⟨rfl, rfl, rfl, by decide +kernel, rfl, by decide +kernel, by decide +kernel⟩
end Ag

set_option Elab.async false
set_option linter.all false
set_option maxRecDepth 100000
set_option maxHeartbeats 1000000
namespace Ag
open PySem PySem.Spec PyProof.Rows L2
theorem rd_but {H : Hp} {p : Addr} {o : HO} : But p H (upd H p o) := fun a u n h => by rw [upd_ne n]; exact h
theorem rd_upd {H : Hp} {p c : Addr} {o : HO} {xs : List V} {kvs : List (Key × V)} (hp : H p = some (.dK kvs)) (h : Rd H c (.lst xs)) : Rd (upd H p o) c (.lst xs) := by
  rcases h with h | ⟨u, h⟩
  · exact .inl (by rw [upd_ne (ne_of h hp (fun z => nomatch z))]; exact h)
  · exact .inr ⟨u, by rw [upd_ne (ne_of h hp (fun z => nomatch z))]; exact h⟩
section
variable {P : Program} {w : World} {K : PySem.W.Frag} {mg : Str → Option Value} {base : Heap} (T : Txt w K mg)
theorem ok_draw : FnOk P w K mg base CX0 1 T.a_law_draw T.d_law_draw ["pen", "many"] spDraw := by
  refine T.D_law_draw.fn.ok sc_law_draw (fun vs H Q E h => ?_) (fun cdv A outer s H vs Q E hr h => ?_)
  · obtain ⟨p, c, many, n, rfl, _⟩ := h; rfl
  · obtain ⟨p, c, many, n, rfl, hP, m0, m1, n1, k⟩ := h
    refine ⟨_, (pss_cons (ps_dput (hu_of hr) (pv 0) pe_str (pe_op op_add (pe_dget (hu_of hr) (pv 0) pe_str (fun _ _ => rfl)) pe_int) rfl)
      (C8.pss_cut (ps_if (PW.pt (pw_and (pt_cmpR op_eq (pe_dget (hu_of hr) (pv 0) pe_str (fun _ _ => rfl)) pe_int (nomark _)) (pw_and1 (pt_cmpR op_lt (pe_dget (hu_of hr) (pv 0) pe_str (fun _ _ => rfl)) (pe_callB call_len (by rfl) T.b_len bt_len (pa_cons (pe_dget (hu_of hr) (pv 0) pe_str (fun _ _ => rfl)) pa_nil)) (nomark _))))) (pss_cons (ps_set (i := 2) sc_law_draw.nd rfl (by first | exact Or.inl rfl | exact Or.inr rfl) (pe_ix ix_seq (pe_dget (hu_of hr) (pv 0) pe_str (fun _ _ => rfl)) (pe_dget (hu_of hr) (pv 0) pe_str (fun _ _ => rfl)) (fun _ _ => rfl)))
      (pss_cons (ps_dput (hu_of hr) (pv 0) pe_str (pe_op op_add (pe_dget (hu_of hr) (pv 0) pe_str (fun _ _ => rfl)) pe_int) rfl)
      (pss_one (ps_if (pt_cmpR op_ge (pv 2) (pe_op op_pow pe_int pe_int) (nomark _)) (pss_one (ps_dput (hu_of hr) (pv 0) pe_str (pe_op op_sub (pv 2) (pe_op op_pow pe_int pe_int)) rfl)) (pss_one (ps_dput (hu_of hr) (pv 0) pe_str (pe_op op_mod (pe_callTy call_int1 (by rfl) T.b_int bt_int (pa_cons (pe_op op_add (pe_op op_mul (pe_dget (hu_of hr) (pv 0) pe_str (fun _ _ => rfl)) pe_int) (pv 2)) pa_nil)) pe_int) rfl)))))) pss_nil)
      (pss_cons (ps_if (pt_cmpR op_gt (pe_dget (hu_of hr) (pv 0) pe_str (fun _ _ => rfl)) pe_int (nomark _)) (pss_cons (ps_set (i := 3) sc_law_draw.nd rfl (by first | exact Or.inl rfl | exact Or.inr rfl) (pe_op op_mod (pe_callTy call_int1 (by rfl) T.b_int bt_int (pa_cons (pe_dget (hu_of hr) (pv 0) pe_str (fun _ _ => rfl)) pa_nil)) (pv 1)))
      (pss_cons (ps_dput (hu_of hr) (pv 0) pe_str (pe_op op_fdiv (pe_dget (hu_of hr) (pv 0) pe_str (fun _ _ => rfl)) (pv 1)) rfl)
      (pss_one (ps_ret (pv 3))))) pss_nil)
      (pss_cons (ps_set (i := 4) sc_law_draw.nd rfl (by first | exact Or.inl rfl | exact Or.inr rfl) (pe_op op_add (pe_op op_add (pe_dget (hu_of hr) (pv 0) pe_str (fun _ _ => rfl)) (pe_op op_mul (pe_dget (hu_of hr) (pv 0) pe_str (fun _ _ => rfl)) pe_int)) pe_int))
      (pss_one (ps_ret (pe_op op_mod (pe_op op_fdiv (pe_callTy call_int1 (by rfl) T.b_int bt_int (pa_cons (pe_op op_mod (pe_op op_pow (pv 4) pe_int) pe_int) pa_nil)) pe_int) (pv 1)))))))), ?_⟩
    obtain ⟨cells, a, d, cn, f, hp, hc, a0, d0, c0, cnn, f0, f1⟩ := hP
    -- pen["count"] = pen["count"] + 1
    refine ⟨_, rfl, p, _, rfl, pg_cnt hp, _, _, rfl, rfl, _, rfl, p, _, rfl, pp_cnt hp, ?_⟩
    have b1 : But p H (upd H p (.dK (penKV c a d (cn + 1) f))) := rd_but
    have c1 := rd_upd (o := .dK (penKV c a d (cn + 1) f)) hp hc
    have p1 : (upd H p (.dK (penKV c a d (cn + 1) f))) p = some (.dK (penKV c a d (cn + 1) f)) := upd_same
    generalize upd H p (.dK (penKV c a d (cn + 1) f)) = H1 at b1 c1 p1
    refine ⟨fun σ' H' => ∃ (a' d' f' : Int) (o : Option V), σ' = [some (.ref p), some (.int many), o, none, none] ∧ 0 ≤ a' ∧ 0 ≤ d' ∧ 0 ≤ f' ∧ f' < 2147483648 ∧ H' p = some (.dK (penKV c a' d' (cn + 1) f')) ∧ Rd H' c (.lst (cells.map V.int)) ∧ But p H H', ?_, ?_⟩
    · -- if pen["digits"] == 0 and pen["at"] < len(pen["cells"]):
      refine ⟨_, rfl, p, _, rfl, pg_dig p1, rfl, _, rfl, ?_⟩
      refine ite2 (fun hz => ?_) (fun hz => ?_)
      · refine ⟨_, rfl, p, _, rfl, pg_at p1, _, rfl, p, _, rfl, pg_cells p1, _, _, rfl, .inl ⟨_, .inl c1, rfl⟩, _, _, rfl, rfl, _, rfl, ?_⟩
        refine ite2 (fun hl => ?_) (fun hl => ?_)
        · -- the next cell
          have hl := of_decide_eq_true hl
          obtain ⟨x, hx⟩ : ∃ x, cells[a.toNat]? = some x := ⟨_, List.getElem?_eq_getElem (by rw [List.length_map] at hl; omega)⟩
          have hx' : (cells.map V.int)[a.toNat]? = some (V.int x) := by rw [List.getElem?_map, hx]; rfl
          have ea : ((a.toNat : Nat) : Int) = a := by omega
          refine ⟨_, rfl, p, _, rfl, pg_cells p1, _, rfl, p, _, rfl, pg_at p1, .inl ⟨_, _, _, _, rfl, rfl, .inl c1, by rw [← ea]; exact atI_nat hx', ?_⟩⟩
          refine ⟨_, rfl, p, _, rfl, pg_at p1, _, _, rfl, rfl, _, rfl, p, _, rfl, pp_at p1, ?_⟩
          have b2 : But p H (upd H1 p (.dK (penKV c (a + 1) d (cn + 1) f))) := b1.trans rd_but
          have c2 := rd_upd (o := .dK (penKV c (a + 1) d (cn + 1) f)) p1 c1
          have p2 : (upd H1 p (.dK (penKV c (a + 1) d (cn + 1) f))) p = some (.dK (penKV c (a + 1) d (cn + 1) f)) := upd_same
          generalize upd H1 p (.dK (penKV c (a + 1) d (cn + 1) f)) = H2 at b2 c2 p2
          refine ⟨_, rfl, _, _, rfl, rfl, ⟨by decide, by decide, by decide⟩, _, _, rfl, rfl, _, rfl, ?_⟩
          refine ite2 (fun hg => ?_) (fun hg => ?_)
          · refine ⟨_, rfl, _, _, rfl, rfl, ⟨by decide, by decide, by decide⟩, _, _, rfl, rfl, _, rfl, p, _, rfl, pp_dig p2, ?_⟩
            exact ⟨a + 1, _, f, _, rfl, by omega, by have := of_decide_eq_true hg; omega, f0, f1, upd_same, rd_upd p2 c2, b2.trans rd_but⟩
          · refine ⟨_, rfl, p, _, rfl, pg_fold p2, _, _, rfl, rfl, .inl ⟨by omega, by omega⟩, _, rfl, _, _, rfl, rfl, .inl ⟨_, rfl, _, _, rfl, rfl, (by show (0 : Int) < 2147483269; decide), _, rfl, p, _, rfl, pp_fold p2, ?_⟩⟩
            exact ⟨a + 1, d, _, _, rfl, by omega, d0, Int.emod_nonneg _ (by decide), Int.lt_trans (Int.emod_lt_of_pos _ (by decide)) (by decide), upd_same, rd_upd p2 c2, b2.trans rd_but⟩
        · exact ⟨a, d, f, _, rfl, a0, d0, f0, f1, p1, c1, b1⟩
      · exact ⟨a, d, f, _, rfl, a0, d0, f0, f1, p1, c1, b1⟩
    · rintro σ' H' ⟨a', d', f', o, rfl, a0, d0, f0, f1, p1, c1, b1⟩
      refine ⟨_, rfl, p, _, rfl, pg_dig p1, _, _, rfl, rfl, _, rfl, ?_⟩
      refine ite2 (fun hg => ?_) (fun hg => ?_)
      · -- a digit
        refine ⟨_, rfl, p, _, rfl, pg_dig p1, .inl ⟨_, rfl, _, rfl, _, _, rfl, rfl, m0, ?_⟩⟩
        refine ⟨_, rfl, p, _, rfl, pg_dig p1, _, rfl, _, _, rfl, rfl, ⟨m0, by omega⟩, _, rfl, p, _, rfl, pp_dig p1, ?_⟩
        refine ⟨_, rfl, ?_⟩
        exact k _ _ (Int.emod_nonneg _ (by omega)) (Int.emod_lt_of_pos _ m0) (b1.trans rd_but) ⟨cells, a', _, cn + 1, f', upd_same, rd_upd p1 c1, a0, Int.ediv_nonneg d0 (by omega), by omega, by omega, f0, f1⟩
      · -- the mix
        refine ⟨_, rfl, p, _, rfl, pg_fold p1, _, rfl, p, _, rfl, pg_cnt p1, _, _, rfl, rfl, .inr ⟨by decide, by decide⟩, _, _, rfl, rfl, _, _, rfl, rfl, ?_⟩
        refine ⟨_, rfl, _, _, rfl, rfl, ⟨by decide, by decide, by omega⟩, _, _, rfl, rfl, (by show (0 : Int) < 2305843009213693951; decide), .inl ⟨_, rfl, _, _, rfl, rfl, ⟨by decide, by decide⟩, _, rfl, _, _, rfl, rfl, m0, ?_⟩⟩
        exact k _ _ (Int.emod_nonneg _ (by omega)) (Int.emod_lt_of_pos _ m0) b1 ⟨cells, a', d', cn + 1, f', p1, c1, a0, d0, by omega, by omega, f0, f1⟩
end
end Ag

set_option Elab.async false
set_option linter.all false
set_option maxRecDepth 100000
set_option maxHeartbeats 1000000
set_option exponentiation.threshold 2000
namespace Ag
open PySem PySem.Spec PyProof.Rows L2
theorem atI_int {α : Type} {xs : List α} {i : Int} {v : α} (h0 : 0 ≤ i) (h : xs[i.toNat]? = some v) : atI xs i = some v := by
  obtain ⟨k, rfl⟩ : ∃ k : Nat, i = k := ⟨i.toNat, by omega⟩
  exact atI_nat h

/-! ### names, as texts -/
abbrev S (l : List Nat) : Str := SX.S l
def Digs (i : Nat) : List Nat := (Str.ofString (toString (i : Int))).cps.toList
theorem digs_ok : ∀ i, i < 32 → 1 ≤ (Digs i).length ∧ (Digs i).length ≤ 2 ∧ ∀ c ∈ Digs i, 48 ≤ c ∧ c ≤ 57 := by decide +kernel
theorem digs_inj : ∀ i, i < 32 → ∀ j, j < 32 → Digs i = Digs j → i = j := by decide +kernel
def Nm (i : Nat) (s : Str) : Prop := ∃ a b : List Nat, s = S (a ++ Digs i ++ b) ∧ 1 ≤ a.length ∧ a.length + b.length ≤ 8 ∧ ∀ c ∈ a ++ b, 97 ≤ c ∧ c ≤ 122
theorem nm_filter {i : Nat} {a b : List Nat} (hi : i < 32) (h : ∀ c ∈ a ++ b, 97 ≤ c ∧ c ≤ 122) : (a ++ Digs i ++ b).filter (fun c => decide (c ≤ 57)) = Digs i := by
  have ha : a.filter (fun c => decide (c ≤ 57)) = [] := List.filter_eq_nil_iff.mpr fun c hc => by have := h c (List.mem_append_left _ hc); simp; omega
  have hb : b.filter (fun c => decide (c ≤ 57)) = [] := List.filter_eq_nil_iff.mpr fun c hc => by have := h c (List.mem_append_right _ hc); simp; omega
  have hd : (Digs i).filter (fun c => decide (c ≤ 57)) = Digs i := List.filter_eq_self.mpr fun c hc => by have := (digs_ok i hi).2.2 c hc; simp; omega
  rw [List.filter_append, List.filter_append, ha, hb, hd]; simp
theorem nm_inj {i j : Nat} {s : Str} (hi : i < 32) (hj : j < 32) (h1 : Nm i s) (h2 : Nm j s) : i = j := by
  obtain ⟨a, b, e1, _, _, h⟩ := h1
  obtain ⟨a', b', e2, _, _, h'⟩ := h2
  have e : a ++ Digs i ++ b = a' ++ Digs j ++ b' := SX.S_inj (e1.symm.trans e2)
  have q := congrArg (List.filter (fun c => decide (c ≤ 57))) e
  rw [nm_filter hi h, nm_filter hj h'] at q
  exact digs_inj i hi j hj q
/-- the names of the indices below m, in some order -/
def Nms (m : Nat) (ns : List Str) : Prop := ∃ ms : List Str, ms.length = m ∧ (∀ j s, ms[j]? = some s → Nm j s) ∧ ns.Perm ms
theorem nms_nodup {m : Nat} {ns : List Str} (hm : m ≤ 32) (h : Nms m ns) : ns.Nodup := by
  obtain ⟨ms, hl, hn, hp⟩ := h
  refine hp.nodup_iff.mpr (List.nodup_iff_pairwise_ne.mpr (List.pairwise_iff_getElem.mpr fun i j hi hj hij e => ?_))
  have h1 := hn i _ (List.getElem?_eq_getElem hi)
  have h2 := hn j _ (List.getElem?_eq_getElem hj)
  rw [e] at h1
  have := nm_inj (by omega) (by omega) h1 h2
  omega
theorem nms_mem {m : Nat} {ns : List Str} (h : Nms m ns) {s : Str} (hs : s ∈ ns) : ∃ j, j < m ∧ Nm j s := by
  obtain ⟨ms, hl, hn, hp⟩ := h
  obtain ⟨j, hj, e⟩ := List.getElem_of_mem (hp.mem_iff.mp hs)
  exact ⟨j, by omega, hn j s (by rw [List.getElem?_eq_getElem hj, e])⟩
theorem nms_len {m : Nat} {ns : List Str} (h : Nms m ns) : ns.length = m := by
  obtain ⟨ms, hl, hn, hp⟩ := h; rw [hp.length_eq, hl]
theorem cut_take (l : List Nat) (k : Nat) (h : k ≤ l.length) : cutS (S l) none (some (k : Int)) = S (l.take k) := by
  unfold cutS
  rw [HT.sIx_none, HT.sIx_nat, SX.S_len, Nat.min_eq_left h]
  simp [SX.S]
theorem cut_drop (l : List Nat) (k : Nat) (h : k ≤ l.length) : cutS (S l) (some (k : Int)) none = S (l.drop k) := by
  unfold cutS
  rw [HT.sIx_none, HT.sIx_nat, SX.S_len, Nat.min_eq_left h]
  have e : (l.drop k).take (l.length - k) = l.drop k := List.take_of_length_le (by rw [List.length_drop]; exact Nat.le_refl _)
  simp [SX.S, e]
theorem cut_takeI (l : List Nat) (k : Int) (h0 : 0 ≤ k) (h : k ≤ l.length) : cutS (S l) none (some k) = S (l.take k.toNat) := by
  obtain ⟨j, rfl⟩ : ∃ j : Nat, k = j := ⟨k.toNat, by omega⟩
  exact cut_take l j (by omega)
theorem cut_dropI (l : List Nat) (k : Int) (h0 : 0 ≤ k) (h : k ≤ l.length) : cutS (S l) (some k) none = S (l.drop k.toNat) := by
  obtain ⟨j, rfl⟩ : ∃ j : Nat, k = j := ⟨k.toNat, by omega⟩
  exact cut_drop l j (by omega)
theorem letters_at : ∀ d, d < 26 → ("abcdefghijklmnopqrstuvwxyz" : Str).cps.toList[d]? = some (97 + d) := by decide +kernel
theorem S_one (c : Nat) : (⟨#[c]⟩ : Str) = S [c] := rfl
theorem letters_short : ("abcdefghijklmnopqrstuvwxyz" : Str).length ≤ sizeLine := by decide +kernel

/-! ### promises -/
def spPick (K : PySem.W.Frag) : Sp := fun vs H Q _ => ∃ (p c a : Addr) (xs : List V) (n : Nat), vs = [.ref p, .ref a] ∧ Pen p c n H ∧ (SqL K H a xs ∨ SqT K H a xs) ∧ 0 < xs.length ∧ xs.length < 100000 ∧ n < 1000000000000 ∧
  ∀ (i : Nat) v H', xs[i]? = some v → But p H H' → Pen p c (n + 1) H' → Q v H'
def spShuf (K : PySem.W.Frag) : Sp := fun vs H Q _ => ∃ (p c a : Addr) (xs : List V) (n : Nat), vs = [.ref p, .ref a] ∧ Pen p c n H ∧ (SqL K H a xs ∨ SqT K H a xs) ∧ xs.length < 100000 ∧ n + 100000 < 1000000000000 ∧
  ∀ (l : Addr) (ys : List V) H', ys.Perm xs → H l = none → H' l = some (.lst ys) → But p H H' → Pen p c (n + xs.length) H' → Q (.ref l) H'
def spName : Sp := fun vs H Q _ => ∃ (p c : Addr) (i n : Nat), vs = [.ref p, .int (i : Int)] ∧ Pen p c n H ∧ i < 32 ∧ n + 100000 < 1000000000000 ∧
  ∀ (s : Str) H', Nm i s → But p H H' → Pen p c (n + 10) H' → Q (.str s) H'
def spNames (K : PySem.W.Frag) : Sp := fun vs H Q _ => ∃ (p c : Addr) (m n : Nat), vs = [.ref p, .int (m : Int)] ∧ Pen p c n H ∧ m ≤ 31 ∧ n + 200000 < 1000000000000 ∧
  ∀ (l : Addr) (ns : List Str) H', Nms m ns → H l = none → H' l = some (.lst (ns.map V.str)) → But p H H' → Pen p c (n + 400) H' → Q (.ref l) H'
/-- tuple(sorted(names)) -/
def spCalls (K : PySem.W.Frag) : Sp := fun vs H Q _ => ∃ (p c : Addr) (m n : Nat), vs = [.ref p, .int (m : Int)] ∧ Pen p c n H ∧ m ≤ 31 ∧ n + 200000 < 1000000000000 ∧
  ∀ (l : Addr) (ns : List Str) H', Nms m ns → sortedS ns = true → FzT H' l (ns.map V.str) → But p H H' → Pen p c (n + 400) H' → Q (.ref l) H'

theorem seq_at {n : Nat} {i : Int} (h0 : 0 ≤ i) (h1 : i < n) : seqIndex? i n = some i.toNat := (ixN_seq (by unfold ixN; rw [if_pos h0, if_pos h1])).1

section
variable {P : Program} {w : World} {K : PySem.W.Frag} {mg : Str → Option Value} {base : Heap} (T : Txt w K mg)
theorem ok_pick : FnOk P w K mg base CX0 2 T.a_law_pick T.d_law_pick ["pen", "some"] (spPick K) := by
  have G_law_draw := ok_draw (P := P) (base := base) T
  refine T.D_law_pick.fn.ok sc_law_pick (fun vs H Q E h => ?_) (fun cdv A outer s H vs Q E hr h => ?_)
  · obtain ⟨p, c, a, xs, n, rfl, _⟩ := h; rfl
  · obtain ⟨p, c, a, xs, n, rfl, hP, hs, x0, x1, n1, k⟩ := h
    refine ⟨_, (pss_one (ps_ret (pe_ix ix_seq (pv 1) (pe_call (G_law_draw) (hr.mono (by omega)) (by rfl) T.D_law_draw.mg T.D_law_draw.fn.kp T.D_law_draw.bd .nil pass0 (pa_cons (pv 0) (pa_cons (pe_callB call_len (by rfl) T.b_len bt_len (pa_cons (pv 1) pa_nil)) pa_nil))) (fun _ _ => rfl)))), ?_⟩
    have hl : LenV K (.ref a) H xs.length := hs.elim (fun z => .inl ⟨_, z, rfl⟩) fun z => .inr ⟨_, z, rfl⟩
    refine ⟨_, rfl, _, rfl, _, rfl, _, _, rfl, hl, p, c, _, n, rfl, hP, by omega, by omega, n1, fun d H1 d0 d1 b1 P1 => ?_⟩
    have hd : d.toNat < xs.length := by omega
    have ed : ((d.toNat : Nat) : Int) = d := by omega
    have hx : xs[d.toNat]? = some xs[d.toNat] := List.getElem?_eq_getElem hd
    rcases hs with hs | hs
    · exact .inl ⟨_, _, _, _, rfl, rfl, hP.sl b1 hs, atI_int d0 hx, k _ _ _ hx b1 P1⟩
    · exact .inr (.inl ⟨_, _, _, _, rfl, rfl, hP.st b1 hs, atI_int d0 hx, k _ _ _ hx b1 P1⟩)

theorem ok_shuf : FnOk P w K mg base CX0 2 T.a_law_shuffled T.d_law_shuffled ["pen", "some"] (spShuf K) := by
  have G_law_draw := ok_draw (P := P) (base := base) T
  refine T.D_law_shuffled.fn.ok sc_law_shuffled (fun vs H Q E h => ?_) (fun cdv A outer s H vs Q E hr h => ?_)
  · obtain ⟨p, c, a, xs, n, rfl, _⟩ := h; rfl
  · obtain ⟨p, c, a, xs, n, rfl, hP, hs, x1, n1, k⟩ := h
    refine ⟨_, (pss_cons (ps_par (i := 2) (j := 3) (by rfl) sc_law_shuffled.nd rfl rfl (by decide) rfl rfl (pa_cons (pe_callTy call_list_of (by rfl) T.b_list bt_list (pa_cons (pv 1) pa_nil)) (pa_cons (pe_lst pa_nil) pa_nil)) (by rfl))
      (pss_cons (ps_for PassesOwn.never rfl (pi_range1 (by rfl) T.b_range (pa_cons (pe_callB call_len (by rfl) T.b_len bt_len (pa_cons (pv 1) pa_nil)) pa_nil)) (pg_name (i := 4) sc_law_shuffled.nd rfl (by first | exact Or.inl rfl | exact Or.inr rfl)) (pss_one (ps_expr (pe_bm PySem.F.plainAttrs_list PySem.F.slot_list_append PySem.F.type_list_append mt_append (pv 3) (pa_cons (pe_bm PySem.F.plainAttrs_list PySem.F.slot_list_pop PySem.F.type_list_pop mt_popAt (pv 2) (pa_cons (pe_call (G_law_draw) (hr.mono (by omega)) (by rfl) T.D_law_draw.mg T.D_law_draw.fn.kp T.D_law_draw.bd .nil pass0 (pa_cons (pv 0) (pa_cons (pe_callB call_len (by rfl) T.b_len bt_len (pa_cons (pv 2) pa_nil)) pa_nil))) pa_nil)) pa_nil)))))
      (pss_one (ps_ret (pv 3))))), ?_⟩
    refine ⟨_, rfl, _, _, rfl, hs, fun l1 hl1 => ⟨Nat.zero_le _, fun l2 hl2 => ⟨_, _, rfl, ?_⟩⟩⟩
    have n12 : l1 ≠ l2 := fun z => by rw [z, upd_same] at hl2; cases hl2
    have hl2' : H l2 = none := by rw [upd_ne (Ne.symm n12)] at hl2; exact hl2
    have s1 : Same H (upd (upd H l1 (.lst xs)) l2 (.lst [])) := (Same.newA hl1).trans (Same.newA hl2)
    have e1 : (upd (upd H l1 (.lst xs)) l2 (.lst [])) l1 = some (.lst xs) := by rw [upd_ne n12]; exact upd_same
    have e2 : (upd (upd H l1 (.lst xs)) l2 (.lst [])) l2 = some (.lst []) := upd_same
    generalize upd (upd H l1 (.lst xs)) l2 (.lst []) = H1 at s1 e1 e2
    have hs1 : SqL K H1 a xs ∨ SqT K H1 a xs := hs.imp s1.slA s1.stA
    have hl : LenV K (.ref a) H1 xs.length := hs1.elim (fun z => .inl ⟨_, z, rfl⟩) fun z => .inr ⟨_, z, rfl⟩
    refine ⟨_, rfl, _, _, rfl, hl, _, rfl, by omega, by omega, for_range (n := xs.length) (fun i σ' H' => ∃ (ls fs : List V) (o : Option V), σ' = [some (.ref p), some (.ref a), some (.ref l1), some (.ref l2), o] ∧
      H' l1 = some (.lst ls) ∧ H' l2 = some (.lst fs) ∧ fs.length = i ∧ (fs ++ ls).Perm xs ∧ But p H H' ∧ Pen p c (n + i) H') ⟨xs, [], none, rfl, e1, e2, rfl, .refl _, .of s1, hP.same s1⟩ ?_ ?_⟩
    · rintro i σ' H' hi ⟨ls, fs, o, rfl, f1, f2, fl, pm, b1, P1⟩
      have tot := pm.length_eq
      rw [List.length_append] at tot
      refine ⟨_, rfl, .inl ⟨rfl, _, SqL.of f2⟩, _, rfl, .inl ⟨rfl, _, SqL.of f1⟩, _, rfl, _, rfl, _, _, rfl, .inl ⟨_, SqL.of f1, rfl⟩, p, c, _, n + i, rfl, P1, by omega, by omega, by omega, fun d H2 d0 d1 b2 P2 => ?_⟩
      have g1 : H2 l1 = some (.lst ls) := b2 _ _ (P1.ne f1 (fun _ z => nomatch z)) f1
      have g2 : H2 l2 = some (.lst fs) := b2 _ _ (P1.ne f2 (fun _ z => nomatch z)) f2
      have hd : d.toNat < ls.length := by omega
      refine ⟨_, _, _, _, _, rfl, rfl, g1, by omega, by omega, seq_at d0 (by omega), List.getElem?_eq_getElem hd, ?_⟩
      refine ⟨_, _, _, rfl, rfl, by rw [upd_ne (Ne.symm n12)]; exact g2, by rw [fl]; exact lt5 (by omega), ?_⟩
      refine ⟨ls.eraseIdx d.toNat, fs ++ [ls[d.toNat]], some (.int (0 + (i : Int))), rfl, ?_, upd_same, by rw [List.length_append, fl]; rfl, ?_, ?_, ?_⟩
      · rw [upd_ne n12]; exact upd_same
      · refine List.Perm.trans ?_ pm
        rw [List.append_assoc]
        exact List.Perm.append_left fs (erase_perm _ _ _ (List.getElem?_eq_getElem hd))
      · intro b u nb e
        rw [upd_ne (ne_of_none e hl2'), upd_ne (ne_of_none e hl1)]
        exact b2 _ _ nb (b1 _ _ nb e)
      · exact (P2.upd (hP.ne_p hl1) (hP.ne_c hl1)).upd (hP.ne_p hl2') (hP.ne_c hl2')
    · rintro σ' H' ⟨ls, fs, o, rfl, f1, f2, fl, pm, b1, P1⟩
      have tot := pm.length_eq
      rw [List.length_append] at tot
      have : ls = [] := List.length_eq_zero_iff.mp (by omega)
      subst this
      rw [List.append_nil] at pm
      exact ⟨_, rfl, k _ _ _ pm hl2' f2 b1 P1⟩

theorem ok_name : FnOk P w K mg base CX0 2 T.a_law_name T.d_law_name ["pen", "index"] spName := by
  have G_law_draw := ok_draw (P := P) (base := base) T
  refine T.D_law_name.fn.ok sc_law_name (fun vs H Q E h => ?_) (fun cdv A outer s H vs Q E hr h => ?_)
  · obtain ⟨p, c, i, n, rfl, _⟩ := h; rfl
  · obtain ⟨p, c, ix, n, rfl, hP, hi, n1, k⟩ := h
    refine ⟨_, (pss_cons (ps_set (i := 2) sc_law_name.nd rfl (by first | exact Or.inl rfl | exact Or.inr rfl) pe_str)
      (pss_cons (ps_for PassesOwn.never rfl (pi_range1 (by rfl) T.b_range (pa_cons (pe_op op_add pe_int (pe_call (G_law_draw) (hr.mono (by omega)) (by rfl) T.D_law_draw.mg T.D_law_draw.fn.kp T.D_law_draw.bd .nil pass0 (pa_cons (pv 0) (pa_cons pe_int pa_nil)))) pa_nil)) (pg_name (i := 3) sc_law_name.nd rfl (by first | exact Or.inl rfl | exact Or.inr rfl)) (pss_one (ps_set (i := 2) sc_law_name.nd rfl (by first | exact Or.inl rfl | exact Or.inr rfl) (pe_op op_add_str (pv 2) (pe_ix ix_seq pe_str (pe_call (G_law_draw) (hr.mono (by omega)) (by rfl) T.D_law_draw.mg T.D_law_draw.fn.kp T.D_law_draw.bd .nil pass0 (pa_cons (pv 0) (pa_cons pe_int pa_nil))) (fun _ _ => rfl))))))
      (pss_cons (ps_set (i := 4) sc_law_name.nd rfl (by first | exact Or.inl rfl | exact Or.inr rfl) (pe_op op_add pe_int (pe_call (G_law_draw) (hr.mono (by omega)) (by rfl) T.D_law_draw.mg T.D_law_draw.fn.kp T.D_law_draw.bd .nil pass0 (pa_cons (pv 0) (pa_cons (pe_callB call_len (by rfl) T.b_len bt_len (pa_cons (pv 2) pa_nil)) pa_nil)))))
      (pss_one (ps_ret (pe_op op_add_str (pe_op op_add_str (pe_slice sl_str (pv 2) po_none (po_some (pv 4))) (pe_callTy call_str_int (by rfl) T.b_str bt_str (pa_cons (pv 1) pa_nil))) (pe_slice sl_str (pv 2) (po_some (pv 4)) po_none))))))), ?_⟩
    refine ⟨_, rfl, p, c, 8, n, rfl, hP, by decide, by decide, by omega, fun d H1 d0 d1 b1 P1 => ?_⟩
    refine ⟨_, _, rfl, rfl, _, rfl, by omega, by omega, for_range (n := (1 + d).toNat) (fun i σ' H' => ∃ (cs : List Nat) (o : Option V), σ' = [some (.ref p), some (.int (ix : Int)), some (.str (S cs)), o, none] ∧
      cs.length = i ∧ (∀ x ∈ cs, 97 ≤ x ∧ x ≤ 122) ∧ But p H H' ∧ Pen p c (n + 1 + i) H') ⟨[], none, rfl, rfl, (fun x hx => by cases hx), b1, P1⟩ ?_ ?_⟩
    · rintro i σ' H' hi ⟨cs, o, rfl, hc, hx, b2, P2⟩
      refine ⟨_, rfl, _, rfl, p, c, 26, _, rfl, P2, by decide, by decide, by omega, fun d2 H2 e0 e1 b3 P3 => ?_⟩
      have ed : ((d2.toNat : Nat) : Int) = d2 := by omega
      refine .inr (.inr ⟨_, _, _, rfl, rfl, letters_short, atI_int e0 (letters_at d2.toNat (by omega)), ?_⟩)
      refine ⟨_, _, rfl, rfl, ?_, ?_⟩
      · rw [SX.S_len]; refine small5 ?_
        show cs.length + 1 ≤ _
        omega
      · refine ⟨cs ++ [97 + d2.toNat], some (.int (0 + (i : Int))), ?_, by rw [List.length_append, hc]; rfl, fun x hx' => ?_, b2.trans b3, P3⟩
        · rw [S_one, SX.S_cat]; rfl
        · rcases List.mem_append.mp hx' with h | h
          · exact hx x h
          · rw [List.mem_singleton.mp h]; omega
    · rintro σ' H' ⟨cs, o, rfl, hc, hx, b2, P2⟩
      refine ⟨_, rfl, _, rfl, _, _, rfl, ⟨by rw [SX.S_len]; exact small5 (by omega), rfl⟩, p, c, _, _, rfl, P2, by rw [SX.S_len]; omega, by rw [SX.S_len]; omega, by omega, fun d2 H2 e0 e1 b3 P3 => ?_⟩
      rw [SX.S_len] at e1
      have lc : cs.length = (1 + d).toNat := hc
      have ct := cut_takeI cs (1 + d2) (by omega) (by omega)
      have cd := cut_dropI cs (1 + d2) (by omega) (by omega)
      have lg : (ix : Int).natAbs.log2 < 1920 := by
        have : (ix : Int).natAbs < 2 ^ 1920 := Nat.lt_of_lt_of_le (by omega : (ix : Int).natAbs < 32) (by decide)
        by_cases z : (ix : Int).natAbs = 0
        · rw [z]; decide
        · exact (Nat.log2_lt z).mpr this
      have eS : cutS (S cs) none (some (1 + d2)) ++ Str.ofString (toString (ix : Int)) ++ cutS (S cs) (some (1 + d2)) none = S (cs.take (1 + d2).toNat ++ Digs ix ++ cs.drop (1 + d2).toNat) := by
        rw [ct, cd, ← SX.S_tl (Str.ofString (toString (ix : Int))), SX.S_cat, SX.S_cat]; rfl
      have l1 : (cutS (S cs) none (some (1 + d2))).length + (Str.ofString (toString (ix : Int))).length ≤ 100000 := by
        rw [ct, SX.S_len, List.length_take, ← SX.S_tl (Str.ofString (toString (ix : Int))), SX.S_len]
        have := (digs_ok ix hi).2.1
        show _ + (Digs ix).length ≤ _
        omega
      have l2 : (cutS (S cs) none (some (1 + d2)) ++ Str.ofString (toString (ix : Int))).length + (cutS (S cs) (some (1 + d2)) none).length ≤ 100000 := by
        rw [ct, cd, ← SX.S_tl (Str.ofString (toString (ix : Int))), SX.S_cat, SX.S_len, SX.S_len, List.length_append, List.length_take, List.length_drop]
        have := (digs_ok ix hi).2.1
        show _ + (Digs ix).length + _ ≤ _
        omega
      refine ⟨_, _, rfl, rfl, _, rfl, _, rfl, _, rfl, _, rfl, by rw [SX.S_len]; exact small5 (by omega), _, rfl, _, rfl, lg, _, _, rfl, rfl, small5 l1, ?_⟩
      refine ⟨_, rfl, _, rfl, _, rfl, _, rfl, by rw [SX.S_len]; exact small5 (by omega), _, _, rfl, rfl, small5 l2, ?_⟩
      refine k _ _ ⟨cs.take (1 + d2).toNat, cs.drop (1 + d2).toNat, eS, ?_, ?_, fun x h => hx x ?_⟩ (b2.trans b3) (P3.more (by omega))
      · rw [List.length_take]; omega
      · rw [List.length_take, List.length_drop]; omega
      · rw [List.take_append_drop] at h; exact h
end
end Ag

set_option Elab.async false
set_option linter.all false
set_option maxRecDepth 100000
set_option maxHeartbeats 1000000
namespace Ag
open PySem PySem.Spec PyProof.Rows L2
theorem vstr_perm {ys : List V} {ms : List Str} (h : ys.Perm (ms.map V.str)) : ∃ ns : List Str, ns.Perm ms ∧ ys = ns.map V.str := by
  have hm : ∀ y ∈ ys, ∃ s, y = V.str s := fun y hy => by
    obtain ⟨s, _, e⟩ := List.mem_map.mp (h.mem_iff.mp hy); exact ⟨s, e.symm⟩
  let f : V → Str := fun v => match v with | .str s => s | _ => Str.empty
  refine ⟨ys.map f, ?_, ?_⟩
  · have := h.map f
    rw [List.map_map] at this
    have e : ms.map (f ∘ V.str) = ms := by
      have q : ms.map (f ∘ V.str) = ms.map id := List.map_congr_left fun s _ => rfl
      rw [q, List.map_id]
    rw [e] at this; exact this
  · rw [List.map_map]
    have e : ys.map (V.str ∘ f) = ys.map id := List.map_congr_left fun y hy => by
      obtain ⟨s, rfl⟩ := hm y hy; rfl
    rw [e, List.map_id]
section
variable {P : Program} {w : World} {K : PySem.W.Frag} {mg : Str → Option Value} {base : Heap} (T : Txt w K mg)
theorem ok_names : FnOk P w K mg base CX0 3 T.a_law_names T.d_law_names ["pen", "many"] (spNames K) := by
  have G_law_name := ok_name (P := P) (base := base) T
  have G_law_shuffled := ok_shuf (P := P) (base := base) T
  refine T.D_law_names.fn.ok sc_law_names (fun vs H Q E h => ?_) (fun cdv A outer s H vs Q E hr h => ?_)
  · obtain ⟨p, c, m, n, rfl, _⟩ := h; rfl
  · obtain ⟨p, c, m, n, rfl, hP, m31, n1, k⟩ := h
    refine ⟨_, (pss_one (ps_ret (pe_call (G_law_shuffled) (hr.mono (by omega)) (by rfl) T.D_law_shuffled.mg T.D_law_shuffled.fn.kp T.D_law_shuffled.bd .nil pass0 (pa_cons (pv 0) (pa_cons (pe_lc (own := [("index", 2)]) rfl sc_law_names.nd (pi_range1 (by rfl) T.b_range (pa_cons (pv 1) pa_nil)) (blkOk_by (own := [("index", 2)]) (N := ["pen", "many", "index"]) (sc := defScope s_law_names) (by decide +kernel)) (fun _ _ _ _ _ => (pg_name (i := 2) sc_law_names.nd rfl (by first | exact Or.inl rfl | exact Or.inr rfl))) (fun _ _ _ _ _ => pts_nil) (fun _ _ _ _ _ => (pe_call (G_law_name) (hr.mono (by omega)) (by rfl) T.D_law_name.mg T.D_law_name.fn.kp T.D_law_name.bd .nil pass0 (pa_cons (pv 0) (pa_cons (pv 2) pa_nil))))) pa_nil))))), ?_⟩
    refine ⟨_, rfl, _, rfl, _, rfl, by omega, by omega, fun D hD => lc_range (lo := 0) (n := m) (fun i H' => ∃ ms : List Str, H' D = some (.lst (ms.map V.str)) ∧ ms.length = i ∧ (∀ j s, ms[j]? = some s → Nm j s) ∧ But p H H' ∧ Pen p c (n + 10 * i) H')
      ⟨[], upd_same, rfl, fun j s e => by simp at e, .of (Same.newA hD), hP.upd (hP.ne_p hD) (hP.ne_c hD)⟩ ?_ ?_⟩
    · rintro i H' hi ⟨ms, e1, ml, hm, b1, P1⟩
      refine ⟨rfl, ?_⟩
      refine ⟨_, rfl, _, rfl, p, c, i, n + 10 * i, ?_, P1, by omega, by omega, fun s H2 hs b2 P2 => ?_⟩
      · show [V.ref p, V.int (0 + (i : Int))] ++ [] = _
        rw [Int.zero_add]; rfl
      have e2 : H2 D = some (.lst (ms.map V.str)) := b2 _ _ (hP.ne_p hD) e1
      refine ⟨_, e2, lt5 (by rw [List.length_map]; omega), ms ++ [s], ?_, by rw [List.length_append, ml]; rfl, fun j t e => ?_, ?_, ?_⟩
      · rw [List.map_append]; exact upd_same
      · rw [List.getElem?_append] at e
        split at e
        · exact hm j t e
        · have : j - ms.length = 0 := by
            cases z : j - ms.length with
            | zero => rfl
            | succ q => rw [z] at e; simp at e
          rw [this] at e
          have ej : j = i := by omega
          simp at e
          rw [← e, ej]; exact hs
      · intro b u nb e
        rw [upd_ne (ne_of_none e hD)]
        exact b2 _ _ nb (b1 _ _ nb e)
      · exact (P2.more (by omega)).upd (hP.ne_p hD) (hP.ne_c hD)
    · rintro H' ⟨ms, e1, ml, hm, b1, P1⟩
      refine ⟨p, c, D, ms.map V.str, _, rfl, P1, .inl (SqL.of e1), by rw [List.length_map]; omega, by omega, fun l ys H2 pm hl e2 b2 P2 => ?_⟩
      obtain ⟨ns, pn, rfl⟩ := vstr_perm pm
      exact k l ns H2 ⟨ms, ml, hm, pn⟩ (b1.free hl (P1.ne_p hl)) e2 (b1.trans b2) (P2.more (by rw [List.length_map, ml]; omega))
theorem ok_calls : FnOk P w K mg base CX0 4 T.a_law_calls T.d_law_calls ["pen", "many"] (spCalls K) := by
  have G_law_names := ok_names (P := P) (base := base) T
  refine T.D_law_calls.fn.ok sc_law_calls (fun vs H Q E h => ?_) (fun cdv A outer s H vs Q E hr h => ?_)
  · obtain ⟨p, c, m, n, rfl, _⟩ := h; rfl
  · obtain ⟨p, c, m, n, rfl, hP, m31, n1, k⟩ := h
    refine ⟨_, (pss_one (ps_ret (pe_callTy call_tupleF (by rfl) T.b_tuple bt_tuple (pa_cons (pe_callB cr_sortedS (by rfl) T.b_sorted bt_sorted (pa_cons (pe_call (G_law_names) (hr.mono (by omega)) (by rfl) T.D_law_names.mg T.D_law_names.fn.kp T.D_law_names.bd .nil pass0 (pa_cons (pv 0) (pa_cons (pv 1) pa_nil))) pa_nil)) pa_nil)))), ?_⟩
    refine ⟨_, rfl, _, rfl, p, c, m, n, rfl, hP, m31, n1, fun l ns H1 hn hl e1 b1 P1 => ?_⟩
    have len := nms_len hn
    refine ⟨l, ns, rfl, SqL.of e1, by omega, fun ys q py sy hq => ?_⟩
    refine ⟨_, _, rfl, SqL.of upd_same, fun r o hr1 ho => ?_⟩
    obtain ⟨ms, ml, hm, pm⟩ := hn
    have nrq : r ≠ q := fun z => by rw [z, upd_same] at hr1; cases hr1
    have hr2 : H1 r = none := by rw [upd_ne nrq] at hr1; exact hr1
    exact k r ys _ ⟨ms, ml, hm, py.trans pm⟩ sy ⟨o, upd_same, ho⟩ (b1.trans (.of ((Same.newA hq).trans (Same.newA hr1)))) ((P1.upd (P1.ne_p hq) (P1.ne_c hq)).upd (P1.ne_p hr2) (P1.ne_c hr2))
end
end Ag

set_option Elab.async false
set_option linter.all false
set_option maxRecDepth 100000
set_option maxHeartbeats 1000000
namespace Ag
open PySem PySem.Spec PyProof.Rows L2

/-! ### good data -/
mutual
def gd : PyData → Bool
  | .none | .bool _ | .int _ => true
  | .str x => x.cps.all (· < 0x110000) && decide (x.length ≤ 1000)
  | .list xs => gds xs && decide (xs.length ≤ 1000)
  | .tuple xs => gds xs && decide (xs.length ≤ 1000)
  | .dict _ => false
def gds : List PyData → Bool
  | [] => true
  | x :: xs => gd x && gds xs
end
theorem gds_all : ∀ {xs : List PyData}, gds xs = true → ∀ x ∈ xs, gd x = true
  | [], _, _, h => by cases h
  | x :: xs, h, y, hy => by
    simp only [gds, Bool.and_eq_true] at h
    rcases List.mem_cons.mp hy with rfl | hy
    · exact h.1
    · exact gds_all h.2 y hy
theorem gds_of : ∀ {xs : List PyData}, (∀ x ∈ xs, gd x = true) → gds xs = true
  | [], _ => by simp [gds]
  | x :: xs, h => by
    simp only [gds, Bool.and_eq_true]
    exact ⟨h x List.mem_cons_self, gds_of fun y hy => h y (List.mem_cons_of_mem _ hy)⟩
mutual
theorem gd_lay : ∀ {d : PyData}, gd d = true → d.canLay0 = true
  | .none, _ => by simp [PyData.canLay0]
  | .bool _, _ => by simp [PyData.canLay0]
  | .int _, _ => by simp [PyData.canLay0]
  | .str x, h => by
    simp only [gd, Bool.and_eq_true] at h
    simp only [PyData.canLay0]; exact h.1
  | .list xs, h => by
    simp only [gd, Bool.and_eq_true] at h
    simp only [PyData.canLay0]; exact gds_lay h.1
  | .tuple xs, h => by
    simp only [gd, Bool.and_eq_true] at h
    simp only [PyData.canLay0]; exact gds_lay h.1
  | .dict _, h => by simp [gd] at h
theorem gds_lay : ∀ {ds : List PyData}, gds ds = true → PyData.canLayAll0 ds = true
  | [], _ => by simp [PyData.canLayAll0]
  | x :: xs, h => by
    simp only [gds, Bool.and_eq_true] at h
    simp only [PyData.canLayAll0, Bool.and_eq_true]
    exact ⟨gd_lay h.1, gds_lay h.2⟩
end

/-! ### names -/
def letter (c : Nat) : Bool := decide (97 ≤ c ∧ c ≤ 122)
def figure (c : Nat) : Bool := decide (48 ≤ c ∧ c ≤ 57)
theorem letters_list : ("abcdefghijklmnopqrstuvwxyz" : Str).cps.toList = List.range' 97 26 := by decide +kernel
theorem figures_list : ("0123456789" : Str).cps.toList = List.range' 48 10 := by decide +kernel
theorem both_list : ("abcdefghijklmnopqrstuvwxyz0123456789" : Str).cps.toList = List.range' 97 26 ++ List.range' 48 10 := by decide +kernel
theorem mem_letters (c : Nat) : decide (c ∈ ("abcdefghijklmnopqrstuvwxyz" : Str).cps.toList) = letter c := by
  rw [letters_list]; unfold letter; congr 1; rw [List.mem_range'_1]; apply propext; omega
theorem mem_figures (c : Nat) : decide (c ∈ ("0123456789" : Str).cps.toList) = figure c := by
  rw [figures_list]; unfold figure; congr 1; rw [List.mem_range'_1]; apply propext; omega
theorem mem_both (c : Nat) : decide (c ∈ ("abcdefghijklmnopqrstuvwxyz0123456789" : Str).cps.toList) = (letter c || figure c) := by
  rw [both_list, ← mem_letters, ← mem_figures, letters_list, figures_list]
  by_cases h1 : c ∈ List.range' 97 26 <;> by_cases h2 : c ∈ List.range' 48 10 <;> simp [h1, h2]
def nameB (s : Str) : Bool := decide (1 ≤ (s.length : Int)) && decide ((s.length : Int) ≤ 12) && (match s.cps.toList with | [] => false | c :: _ => letter c) && s.cps.toList.all fun c => letter c || figure c
def isName : PyData → Bool | .str s => nameB s | _ => false
theorem nm_name {i : Nat} {s : Str} (hi : i < 32) (h : Nm i s) : nameB s = true := by
  obtain ⟨a, b, rfl, h1, h2, h3⟩ := h
  obtain ⟨d1, d2, d3⟩ := digs_ok i hi
  have hl : (S (a ++ Digs i ++ b)).length = a.length + (Digs i).length + b.length := by rw [SX.S_len, List.length_append, List.length_append]
  have hc : (S (a ++ Digs i ++ b)).cps.toList = a ++ Digs i ++ b := rfl
  unfold nameB
  rw [hl, hc]
  simp only [Bool.and_eq_true, decide_eq_true_eq, List.all_eq_true, Bool.or_eq_true]
  refine ⟨⟨⟨by omega, by omega⟩, ?_⟩, fun c hc => ?_⟩
  · cases a with
    | nil => simp at h1
    | cons x r =>
      have := h3 x (by simp)
      show letter x = true
      unfold letter; simp; omega
  · rcases List.mem_append.mp hc with hc | hc
    · rcases List.mem_append.mp hc with hc | hc
      · have := h3 c (List.mem_append_left _ hc); left; unfold letter; simp; omega
      · have := d3 c hc; right; unfold figure; simp; omega
    · have := h3 c (List.mem_append_right _ hc); left; unfold letter; simp; omega

/-- a def that answers a Bool of one datum -/
def spB (K : PySem.W.Frag) (pre : PyData → Prop) (f : PyData → Bool) : Sp := fun vs H Q _ => ∃ v d, vs = [v] ∧ Dp K H v d ∧ pre d ∧ ∀ H', Same H H' → Q (.bl (f d)) H'
theorem rdc_spB {K : PySem.W.Frag} {E : XK} {pre : PyData → Prop} {f : PyData → Bool} {d : PyData} (hp : pre d) : RDC K (fun vs H Q => spB K pre f vs H Q E) [d] (.bool (f d)) := fun F vs H1 hv Q q => by
  cases hv with
  | cons a r => cases r; exact ⟨_, d, rfl, df_dp a, hp, fun H' s => q _ H' s (.bl _)⟩
theorem all_signs {p : Nat → Bool} (g : PyData → Bool) (hg : ∀ c, g (.str ⟨#[c]⟩) = p c) (x : Str) : ((signs x).map g).all id = x.cps.toList.all p := by
  unfold signs
  rw [List.map_map, List.all_map]
  congr 1; funext c; exact hg c
section
variable {P : Program} {w : World} {K : PySem.W.Frag} {mg : Str → Option Value} {base : Heap} (T : Txt w K mg)
def sgn : PyData → Nat | .str x => x.cps.toList.headD 0 | _ => 0
theorem ok_is_name : FnOk P w K mg base CX0 1 T.a_is_name T.d_is_name ["value"] (spB K (fun d => gd d = true) isName) := by
  refine T.D_is_name.fn.ok sc_is_name (fun vs H Q E h => ?_) (fun cdv A outer s H vs Q E hr h => ?_)
  · obtain ⟨v, d, rfl, _⟩ := h; rfl
  · obtain ⟨v, d, rfl, hv, hd, k⟩ := h
    refine ⟨_, (pss_cons (ps_if (PW.pt (pw_or (pt_not (pt_val (pe_callB call_isi (by rfl) T.b_isinstance bt_isinstance (pa_cons (pv 0) (pa_cons (pe_bltn (v := .ty "str") (by rfl) T.b_str bt_str rfl) pa_nil))))) (pw_or (pt_not (pt_chain op_le op_le pe_int (pe_callB call_len (by rfl) T.b_len bt_len (pa_cons (pv 0) pa_nil)) pe_int)) (pw_or1 (pt_cmpR op_notIn_sign (pe_ix ix_seq (pv 0) pe_int (fun _ _ => rfl)) (pe_glob (v := .str "abcdefghijklmnopqrstuvwxyz") (by rfl) T.g_LETTERS ⟨_, rfl⟩) rfl))))) (pss_one (ps_ret pe_bl)) pss_nil)
      (pss_one (ps_ret (pe_callB (cr_all rfl) (by rfl) T.b_all bt_all (pa_cons (pe_lc (own := [("sign", 1)]) rfl sc_is_name.nd (pi_str (pv 0)) (blkOk_by (own := [("sign", 1)]) (N := ["value", "sign"]) (sc := defScope s_is_name) (by decide +kernel)) (fun _ _ _ _ _ => (pg_name (i := 1) sc_is_name.nd rfl (by first | exact Or.inl rfl | exact Or.inr rfl))) (fun _ _ _ _ _ => pts_nil) (fun _ _ _ _ _ => (pe_or (pe_cmpR op_in_sign (pv 1) (pe_glob (v := .str "abcdefghijklmnopqrstuvwxyz") (by rfl) T.g_LETTERS ⟨_, rfl⟩) rfl) (pe_one (pe_cmpR op_in_sign (pv 1) (pe_glob (v := .str "0123456789") (by rfl) T.g_FIGURES ⟨_, rfl⟩) rfl))))) pa_nil))))), ?_⟩
    have hvar : ∀ H1, Same H H1 → ED K (tVar 0) (start ["value", "sign"] [v]) (nn H) H1 d := fun H1 s1 => ed_var rfl (df_mono s1 (fun _ z => z) (dp_df hv))
    have isi := et_B (ed_isi (T := "str") (hvar H (Same.refl _)) (.inl rfl))
    cases d with
    | str x =>
      have hx : x.length ≤ 1000 := by simp only [gd, Bool.and_eq_true, decide_eq_true_eq] at hd; exact hd.2
      have h12 : ET _ _ H _ := et_not (et_test (ed_chain (r := rI0 fun i j => .bl (decide (i ≤ j))) (r' := rI0 fun i j => .bl (decide (i ≤ j))) (ed_int (i := 1)) (ed_len (hvar H (Same.refl _)) (decide_eq_true (by omega))) (ed_int (i := 12)) rd_cmp fun _ => rd_cmp))
      by_cases hb : decide (1 ≤ (x.length : Int)) && decide ((x.length : Int) ≤ 12)
      · obtain ⟨c, cs, hc⟩ : ∃ c cs, x.cps.toList = c :: cs := by
          cases hc : x.cps.toList with
          | nil => 
            have : x.length = 0 := by show x.cps.size = 0; rw [← Array.length_toList, hc]; rfl
            simp [this] at hb
          | cons c cs => exact ⟨c, cs, rfl⟩
        have hch := et_B (ed_notInS (ed_ixS (j := 0) (hvar H (Same.refl _)) ed_int (by omega) (c := c) (by rw [hc]; rfl)) (ed_str (x := "abcdefghijklmnopqrstuvwxyz")))
        refine s_if (b := !letter c) (et_is (et_or (et_not isi) fun _ => et_or h12 fun _ => hch) ?_) (fun h H1 s1 => ?_) (fun h H1 s1 => ?_)
        · rw [mem_letters]; show (!true || (!(decide (1 ≤ (x.length : Int)) && decide ((x.length : Int) ≤ 12)) || !letter c)) = _; rw [hb]; rfl
        · have := k H1 s1
          have e : isName (.str x) = false := by
            show nameB x = false
            unfold nameB; rw [hc]; simp at h; simp [h]
          rw [e] at this; exact this
        · refine s_ret (F := nn H) (ed_all (bs := (signs x).map fun s => letter (sgn s) || figure (sgn s)) (ed_is (ed_lc (f := fun _ => true) (m := fun s => .bool (letter (sgn s) || figure (sgn s))) (ei_str (hvar H1 s1)) ?_ fun F2 H2 e2 v2 d2 hm hd2 => ?_) ?_)) fun v H2 s2 hv2 => ?_
          · unfold signs; rw [List.length_map, Array.length_toList]; show x.length ≤ _; omega
          · obtain ⟨c2, hc2, rfl⟩ := List.mem_map.mp hm
            refine ⟨_, fun Q q => q, rfl, et_yes, fun _ => ed_is (ed_orV (ed_inS (ed_var rfl hd2) (ed_str (x := "abcdefghijklmnopqrstuvwxyz"))) fun _ => ed_inS (ed_var rfl hd2) (ed_str (x := "0123456789"))) ?_⟩
            rw [mem_letters, mem_figures]; rfl
          · rw [filt_tt, List.map_map]; rfl
          · cases hv2
            have := k H2 (s1.trans s2)
            have e : isName (.str x) = ((signs x).map fun s => letter (sgn s) || figure (sgn s)).all id := by
              rw [all_signs (p := fun c => letter c || figure c) _ (fun c => rfl)]
              show nameB x = _
              unfold nameB; rw [hb, hc]; simp at h; simp [h]
            rw [e] at this; exact this
      · rw [Bool.not_eq_true] at hb
        refine s_if (b := true) (et_is (et_or (b := true) (et_not isi) fun _ => et_is (et_or (b := false) h12 fun h => ?_) ?_) ?_) (fun h H1 s1 => ?_) (fun h H1 s1 => nomatch h)
        · have h := (show (!(decide (1 ≤ (x.length : Int)) && decide ((x.length : Int) ≤ 12))) = false from h)
          rw [hb] at h; cases h
        · show (!(decide (1 ≤ (x.length : Int)) && decide ((x.length : Int) ≤ 12)) || false) = true
          rw [hb]; rfl
        · rfl
        · have := k H1 s1
          have e : isName (.str x) = false := by
            show nameB x = false
            unfold nameB; rw [hb]; rfl
          rw [e] at this; exact this
    | _ =>
      refine s_if (b := true) (et_or (b := true) (et_not isi) fun h => nomatch h) (fun h H1 s1 => ?_) (fun h H1 s1 => nomatch h)
      exact k H1 s1
end
end Ag

set_option Elab.async false
set_option linter.all false
set_option maxRecDepth 100000
set_option maxHeartbeats 1000000
namespace Ag
open PySem PySem.Spec PyProof.Rows L2
section
variable {P : Program} {w : World} {K : PySem.W.Frag} {mg : Str → Option Value} {base : Heap}
def spNo : Sp := fun _ _ _ _ => False
theorem no_ok (k : Nat) {x : Str} {N : List Str} {st : Stmt} {ps : List Str} {a : Addr} {fd : FuncData} (D : DefAt K mg x st ps a fd) (S : FnScope N ps (defScope st)) : FnOk P w K mg base CX0 (k + 1) a fd ps spNo :=
  D.fn.ok S (fun vs H Q E h => h.elim) (fun cdv A outer s H vs Q E hr h => h.elim)
end
theorem merge_pen {c : Addr} {a d n f : Int} : mergeK [] [(ck "cells", V.ref c), (ck "at", .int a), (ck "digits", .int d), (ck "count", .int n), (ck "fold", .int f)] = penKV c a d n f := by
  unfold mergeK
  simp [putK, penKV, ck, sn_cells_at, sn_cells_digits, sn_cells_count, sn_cells_fold, sn_at_digits, sn_at_count, sn_at_fold, sn_digits_count, sn_digits_fold, sn_count_fold]
def spLPen (K : PySem.W.Frag) : Sp := fun vs H Q _ => ∃ (a : Addr) (ns : List Int), vs = [.ref a] ∧ SqL K H a (ns.map V.int) ∧ ns.length ≤ 63 ∧ ∀ p c H', Same H H' → Pen p c 0 H' → Q (.ref p) H'
section
variable {P : Program} {w : World} {K : PySem.W.Frag} {mg : Str → Option Value} {base : Heap} (T : Txt w K mg)
theorem ok_law_pen : FnOk P w K mg base CX0 1 T.a_law_pen T.d_law_pen ["script"] (spLPen K) := by
  refine T.D_law_pen.fn.ok sc_law_pen (fun vs H Q E h => ?_) (fun cdv A outer s H vs Q E hr h => ?_)
  · obtain ⟨a, ns, rfl, _⟩ := h; rfl
  · obtain ⟨a, ns, rfl, hs, hl, k⟩ := h
    refine ⟨_, (pss_cons (ps_set (i := 1) sc_law_pen.nd rfl (by first | exact Or.inl rfl | exact Or.inr rfl) pe_int)
      (pss_cons (ps_for PassesOwn.never rfl (pi_list (pv 0)) (pg_name (i := 2) sc_law_pen.nd rfl (by first | exact Or.inl rfl | exact Or.inr rfl)) (pss_one (ps_set (i := 1) sc_law_pen.nd rfl (by first | exact Or.inl rfl | exact Or.inr rfl) (pe_op op_mod (pe_callTy call_int1 (by rfl) T.b_int bt_int (pa_cons (pe_op op_add (pe_op op_mul (pv 1) pe_int) (pv 2)) pa_nil)) pe_int))))
      (pss_one (ps_ret (pe_disp (pps_cons pe_str (pe_callTy call_list_of (by rfl) T.b_list bt_list (pa_cons (pv 0) pa_nil)) (pps_cons pe_str pe_int (pps_cons pe_str pe_int (pps_cons pe_str pe_int (pps_cons pe_str (pv 1) pps_nil))))) (by rfl) (by rfl) (fun z => by cases z) (by decide)))))), ?_⟩
    refine ⟨_, rfl, a, rfl, ⟨_, hs⟩, for_list (K := K) (a := a) (xs := ns.map V.int) (fun i σ' H' => H' = H ∧ ∃ (f : Int) (o : Option V), σ' = [some (.ref a), some (.int f), o] ∧ 0 ≤ f ∧ f < 1000000411) ⟨rfl, 29, none, rfl, by decide, by decide⟩ (fun i σ' H' _ h => by rw [h.1]; exact hs) ?_ ?_⟩
    · rintro i y σ' H' hi ⟨rfl, f, o, rfl, f0, f1⟩
      obtain ⟨u, rfl⟩ : ∃ u, y = V.int u := by
        rw [List.getElem?_map] at hi
        cases e : ns[i]? with
        | none => rw [e] at hi; cases hi
        | some u => rw [e] at hi; exact ⟨u, (Option.some.inj hi).symm⟩
      refine ⟨_, rfl, _, _, rfl, rfl, .inl ⟨by omega, by omega⟩, _, rfl, _, _, rfl, rfl, .inl ⟨_, rfl, _, _, rfl, rfl, (by show (0 : Int) < 1000000411; decide), ?_⟩⟩
      exact ⟨rfl, _, _, rfl, Int.emod_nonneg _ (by decide), Int.emod_lt_of_pos _ (by decide)⟩
    · rintro σ' H' ⟨rfl, f, o, rfl, f0, f1⟩
      intro p hp
      refine ⟨_, rfl, _, _, rfl, .inl ((Same.newA hp).slA hs), fun c hc => ⟨_, rfl, ?_⟩⟩
      have npc : p ≠ c := ne_of_none upd_same hc
      have s2 : Same H' (upd (upd H' p (.dK [])) c (.lst (ns.map V.int))) := (Same.newA hp).trans (Same.newA hc)
      refine ⟨by rw [upd_ne npc]; exact upd_same, [(ck "cells", V.ref c), (ck "at", .int 0), (ck "digits", .int 0), (ck "count", .int 0), (ck "fold", .int f)], rfl, (by decide : 5 ≤ 15), ?_⟩
      rw [merge_pen]
      refine k p c _ (fun b o e => ?_) ⟨ns, 0, 0, 0, f, upd_same, .inl (by rw [upd_ne (Ne.symm npc)]; exact upd_same), by decide, by decide, by decide, by decide, f0, by omega⟩
      rw [upd_ne (ne_of_none e hp)]; exact s2 _ _ e
end
end Ag

set_option Elab.async false
set_option linter.all false
set_option maxRecDepth 100000
set_option maxHeartbeats 1000000
set_option pp.maxSteps 300
namespace Ag
open PySem PySem.Spec PyProof.Rows L2
section
variable {K : PySem.W.Frag} {σ : L2.St} {F : Addr → Prop} {H : Hp} {te : TE} {D : Ends}
theorem s_retB {b c : Bool} (h : ED K te σ F H (.bool b)) (e : b = c) (k : ∀ H1, Same H H1 → D.rt (.bl c) H1) : tRet te D σ H := s_ret h fun v H1 s1 hv => by
  cases hv; subst e; exact k H1 s1
end
theorem kitAny_dict {K : PySem.W.Frag} : PySem.W.kitAny K (.type "dict") [.type "tuple", .type "list"] = some false := by
  unfold PySem.W.kitAny
  rw [kit_dict (T := "tuple") (.inr (.inl rfl))]
  unfold PySem.W.kitAny
  rw [kit_dict (T := "list") (.inr (.inr (.inl rfl)))]; rfl
def wholeB (d : PyData) (a b : Int) : Bool := match d with | .int i => decide (a ≤ i) && decide (i ≤ b) | _ => false
def spWhole (K : PySem.W.Frag) : Sp := fun vs H Q _ => ∃ v d a b, vs = [v, .int a, .int b] ∧ Dp K H v d ∧ ∀ H', Same H H' → Q (.bl (wholeB d a b)) H'
theorem rdc_whole {K : PySem.W.Frag} {E : XK} {d : PyData} {a b : Int} : RDC K (fun vs H Q => spWhole K vs H Q E) [d, .int a, .int b] (.bool (wholeB d a b)) := fun F vs H1 hv Q q => by
  cases hv with
  | cons x r =>
    cases r with
    | cons y r =>
      cases r with
      | cons z r => cases r; cases y; cases z; exact ⟨_, d, a, b, rfl, df_dp x, fun H' s => q _ H' s (.bl _)⟩
section
variable {P : Program} {w : World} {K : PySem.W.Frag} {mg : Str → Option Value} {base : Heap} (T : Txt w K mg)
theorem ok_is_whole : FnOk P w K mg base CX0 1 T.a_is_whole T.d_is_whole ["value", "least", "most"] (spWhole K) := by
  refine T.D_is_whole.fn.ok sc_is_whole (fun vs H Q E h => ?_) (fun cdv A outer s H vs Q E hr h => ?_)
  · obtain ⟨v, d, a, b, rfl, _⟩ := h; rfl
  · obtain ⟨v, d, a, b, rfl, hv, k⟩ := h
    refine ⟨_, PSs.nox (pss_cons (ps_if (PW.pt (pw_or (pt_not (pt_val (pe_callB call_isi (by rfl) T.b_isinstance bt_isinstance (pa_cons (pv 0) (pa_cons (pe_bltn (v := .ty "int") (by rfl) T.b_int bt_int rfl) pa_nil))))) (pw_or (pt_val (pe_callB call_isi (by rfl) T.b_isinstance bt_isinstance (pa_cons (pv 0) (pa_cons (pe_bltn (v := .ty "bool") (by rfl) T.b_bool bt_bool rfl) pa_nil)))) (pw_or1 (pt_cmpR op_lt (pv 0) (pv 1) (nomark _)))))) (pss_one (ps_ret pe_bl)) pss_nil)
      (pss_one (ps_ret (pe_or (pe_cmpR op_isN (pv 2) pe_non (nomark _)) (pe_one (pe_cmpR op_le (pv 0) (pv 2) (nomark _))))))), ?_⟩
    have hvar : ∀ H1, Same H H1 → ED K (tVar 0) (start ["value", "least", "most"] [v, .int a, .int b]) (nn H) H1 d := fun H1 s1 => ed_var rfl (df_mono s1 (fun _ z => z) (dp_df hv))
    have isi := et_B (ed_isi (T := "int") (hvar H (Same.refl _)) (.inr (.inr (.inr (.inl rfl)))))
    have isb := et_B (ed_isi (T := "bool") (hvar H (Same.refl _)) (.inr (.inr (.inr (.inr rfl)))))
    have out : wholeB d a b = false → ∀ H1, Same H H1 → Q (.bl false) H1 := fun e H1 s1 => by
      have := k H1 s1; rw [e] at this; exact this
    cases d with
    | int i =>
      refine s_if (b := decide (i < a)) (et_is (et_or (et_not isi) fun _ => et_or isb fun _ => et_test (ed_lt (hvar H (Same.refl _)) (ed_var (i := 1) rfl (.int a)))) rfl) (fun hb H1 s1 => ?_) (fun hb H1 s1 => ?_)
      · have hb := of_decide_eq_true hb
        refine out ?_ H1 s1
        show (decide (a ≤ i) && decide (i ≤ b)) = false
        rw [decide_eq_false (by omega)]; rfl
      · have hb := of_decide_eq_false hb
        refine s_retB (ed_orV (ed_isN (ed_var (F := nn H) (i := 2) rfl (.int b))) fun _ => ed_le (hvar H1 s1) (ed_var (i := 2) rfl (.int b))) ?_ fun H2 s2 => k H2 (s1.trans s2)
        show (false || decide (i ≤ b)) = (decide (a ≤ i) && decide (i ≤ b))
        rw [decide_eq_true (show a ≤ i by omega)]; rfl
    | bool c =>
      refine s_if (b := true) (et_is (et_or (et_not isi) fun _ => et_or (b := true) isb fun h => nomatch h) rfl) (fun hb H1 s1 => out rfl H1 s1) (fun h => nomatch h)
    | _ => exact s_if (b := true) (et_or (b := true) (et_not isi) fun h => nomatch h) (fun hb H1 s1 => out rfl H1 s1) (fun h => nomatch h)

theorem ok_law_is_whole : FnOk P w K mg base CX0 1 T.a_law_is_whole T.d_law_is_whole ["value", "least", "most"] (spWhole K) := by
  refine T.D_law_is_whole.fn.ok sc_law_is_whole (fun vs H Q E h => ?_) (fun cdv A outer s H vs Q E hr h => ?_)
  · obtain ⟨v, d, a, b, rfl, _⟩ := h; rfl
  · obtain ⟨v, d, a, b, rfl, hv, k⟩ := h
    refine ⟨_, (pss_one (ps_ret (pe_and (pe_callB call_isi (by rfl) T.b_isinstance bt_isinstance (pa_cons (pv 0) (pa_cons (pe_bltn (v := .ty "int") (by rfl) T.b_int bt_int rfl) pa_nil))) (pe_and (pe_not (pe_callB call_isi (by rfl) T.b_isinstance bt_isinstance (pa_cons (pv 0) (pa_cons (pe_bltn (v := .ty "bool") (by rfl) T.b_bool bt_bool rfl) pa_nil)))) (pe_one (pe_chain op_le op_le (pv 1) (pv 0) (pv 2))))))), ?_⟩
    have hvar : ED K (tVar 0) (start ["value", "least", "most"] [v, .int a, .int b]) (nn H) H d := ed_var rfl (dp_df hv)
    have isi := ed_isi (T := "int") hvar (.inr (.inr (.inr (.inl rfl))))
    have isb := ed_isi (T := "bool") hvar (.inr (.inr (.inr (.inr rfl))))
    cases d with
    | int i => exact s_retB (F := nn H) (ed_andV isi fun _ => ed_andV (ed_notV isb) fun _ => ed_chain (r := rI0 fun i j => .bl (decide (i ≤ j))) (r' := rI0 fun i j => .bl (decide (i ≤ j))) (ed_var (i := 1) rfl (.int a)) hvar (ed_var (i := 2) rfl (.int b)) rd_cmp fun _ => rd_cmp) rfl k
    | bool c => exact s_retB (F := nn H) (b := false) (ed_andV isi fun _ => ed_andV (a := false) (b := true) (ed_notV isb) fun h => nomatch h) rfl k
    | _ => exact s_retB (F := nn H) (b := false) (ed_andV (a := false) (b := true) isi fun h => nomatch h) rfl k
theorem ok_law_is_name : FnOk P w K mg base CX0 1 T.a_law_is_name T.d_law_is_name ["value"] (spB K (fun d => gd d = true) isName) := by
  refine T.D_law_is_name.fn.ok sc_law_is_name (fun vs H Q E h => ?_) (fun cdv A outer s H vs Q E hr h => ?_)
  · obtain ⟨v, d, rfl, _⟩ := h; rfl
  · obtain ⟨v, d, rfl, hv, hd, k⟩ := h
    refine ⟨_, (pss_cons (ps_if (PW.pt (pw_or (pt_not (pt_val (pe_callB call_isi (by rfl) T.b_isinstance bt_isinstance (pa_cons (pv 0) (pa_cons (pe_bltn (v := .ty "str") (by rfl) T.b_str bt_str rfl) pa_nil))))) (pw_or (pt_not (pt_chain op_le op_le pe_int (pe_callB call_len (by rfl) T.b_len bt_len (pa_cons (pv 0) pa_nil)) pe_int)) (pw_or1 (pt_cmpR op_notIn_sign (pe_ix ix_seq (pv 0) pe_int (fun _ _ => rfl)) pe_str rfl))))) (pss_one (ps_ret pe_bl)) pss_nil)
      (pss_one (ps_ret (pe_cmpR (op_eqE hr.units) (pe_lc (own := [("sign", 1)]) rfl sc_law_is_name.nd (pi_str (pv 0)) (blkOk_by (own := [("sign", 1)]) (N := ["value", "sign"]) (sc := defScope s_law_is_name) (by decide +kernel)) (fun _ _ _ _ _ => (pg_name (i := 1) sc_law_is_name.nd rfl (by first | exact Or.inl rfl | exact Or.inr rfl))) (fun _ _ _ _ _ => (pts_one (pt_cmpR op_notIn_sign (pv 1) pe_str rfl))) (fun _ _ _ _ _ => (pv 1))) (pe_lst pa_nil) (nomark _))))), ?_⟩
    have hvar : ∀ H1, Same H H1 → ED K (tVar 0) (start ["value", "sign"] [v]) (nn H) H1 d := fun H1 s1 => ed_var rfl (df_mono s1 (fun _ z => z) (dp_df hv))
    have isi := et_B (ed_isi (T := "str") (hvar H (Same.refl _)) (.inl rfl))
    cases d with
    | str x =>
      have hx : x.length ≤ 1000 := by simp only [gd, Bool.and_eq_true, decide_eq_true_eq] at hd; exact hd.2
      have h12 : ET _ _ H _ := et_not (et_test (ed_chain (r := rI0 fun i j => .bl (decide (i ≤ j))) (r' := rI0 fun i j => .bl (decide (i ≤ j))) (ed_int (i := 1)) (ed_len (hvar H (Same.refl _)) (decide_eq_true (by omega))) (ed_int (i := 12)) rd_cmp fun _ => rd_cmp))
      by_cases hb : decide (1 ≤ (x.length : Int)) && decide ((x.length : Int) ≤ 12)
      · obtain ⟨c, cs, hc⟩ : ∃ c cs, x.cps.toList = c :: cs := by
          cases hc : x.cps.toList with
          | nil => 
            have : x.length = 0 := by show x.cps.size = 0; rw [← Array.length_toList, hc]; rfl
            simp [this] at hb
          | cons c cs => exact ⟨c, cs, rfl⟩
        have hch := et_B (ed_notInS (ed_ixS (j := 0) (hvar H (Same.refl _)) ed_int (by omega) (c := c) (by rw [hc]; rfl)) (ed_str (x := "abcdefghijklmnopqrstuvwxyz")))
        refine s_if (b := !letter c) (et_is (et_or (et_not isi) fun _ => et_or h12 fun _ => hch) ?_) (fun h H1 s1 => ?_) (fun h H1 s1 => ?_)
        · rw [mem_letters]; show (!true || (!(decide (1 ≤ (x.length : Int)) && decide ((x.length : Int) ≤ 12)) || !letter c)) = _; rw [hb]; rfl
        · have := k H1 s1
          have e : isName (.str x) = false := by
            show nameB x = false
            unfold nameB; rw [hc]; simp at h; simp [h]
          rw [e] at this; exact this
        · refine s_retB (F := nn H) (ed_eqE (ed_lc (f := fun s => !(letter (sgn s) || figure (sgn s))) (m := fun s => s) (ei_str (hvar H1 s1)) ?_ fun F2 H2 e2 v2 d2 hm hd2 => ?_) ed_emp ?_) ?_ fun H2 s2 => k H2 (s1.trans s2)
          · unfold signs; rw [List.length_map, Array.length_toList]; show x.length ≤ _; omega
          · obtain ⟨c2, hc2, rfl⟩ := List.mem_map.mp hm
            refine ⟨_, fun Q q => q, rfl, et_is (et_test (ed_notInS (ed_var rfl hd2) (ed_str (x := "abcdefghijklmnopqrstuvwxyz0123456789")))) ?_, fun _ => ed_var rfl hd2⟩
            rw [mem_both]; rfl
          · rw [List.map_id']
            refine gds_lay (gds_of fun y hy => ?_)
            obtain ⟨c2, hc2, rfl⟩ := List.mem_map.mp (List.mem_filter.mp hy).1
            simp only [gd, Bool.and_eq_true, decide_eq_true_eq] at hd
            have : c2 < 0x110000 := by
              have := (Array.all_eq_true_iff_forall_mem.mp hd.1) c2 (by rw [← Array.mem_toList_iff]; exact hc2)
              simpa using this
            simp only [gd, Bool.and_eq_true, decide_eq_true_eq]
            exact ⟨by simp [this], by show (1 : Nat) ≤ 1000; decide⟩
          · show _ = nameB x
            have e := all_signs (p := fun c => letter c || figure c) (fun s => letter (sgn s) || figure (sgn s)) (fun c => rfl) x
            rw [List.map_id']
            have e2 : (List.filter (fun s => !(letter (sgn s) || figure (sgn s))) (signs x)).isEmpty = ((signs x).map fun s => letter (sgn s) || figure (sgn s)).all id := by
              rw [List.all_map, Bool.eq_iff_iff, List.isEmpty_iff, List.filter_eq_nil_iff, List.all_eq_true]
              refine forall_congr' fun a => forall_congr' fun _ => ?_
              show ¬ ((!(letter (sgn a) || figure (sgn a))) = true) ↔ (letter (sgn a) || figure (sgn a)) = true
              cases (letter (sgn a) || figure (sgn a)) <;> simp
            rw [e2, e]
            unfold nameB; rw [hb, hc]; simp at h; simp [h]
      · rw [Bool.not_eq_true] at hb
        refine s_if (b := true) (et_is (et_or (b := true) (et_not isi) fun _ => et_is (et_or (b := false) h12 fun h => ?_) ?_) ?_) (fun h H1 s1 => ?_) (fun h H1 s1 => nomatch h)
        · have h := (show (!(decide (1 ≤ (x.length : Int)) && decide ((x.length : Int) ≤ 12))) = false from h)
          rw [hb] at h; cases h
        · show (!(decide (1 ≤ (x.length : Int)) && decide ((x.length : Int) ≤ 12)) || false) = true
          rw [hb]; rfl
        · rfl
        · have := k H1 s1
          have e : isName (.str x) = false := by
            show nameB x = false
            unfold nameB; rw [hb]; rfl
          rw [e] at this; exact this
    | _ =>
      refine s_if (b := true) (et_or (b := true) (et_not isi) fun h => nomatch h) (fun h H1 s1 => ?_) (fun h H1 s1 => nomatch h)
      exact k H1 s1
/-- whether a value is a list or a tuple -/
def listB (d : PyData) : Bool := isiB "tuple" d || isiB "list" d
def spDictF : Sp := fun vs H Q _ => ∃ a, vs = [.ref a] ∧ H a = some (.dK []) ∧ ∀ H', Same H H' → Q (.bl false) H'
theorem ok_is_listed : FnOk P w K mg base CX0 1 T.a_is_listed T.d_is_listed ["value"] (spB K (fun _ => True) listB) := by
  refine T.D_is_listed.fn.ok sc_is_listed (fun vs H Q E h => ?_) (fun cdv A outer s H vs Q E hr h => ?_)
  · obtain ⟨v, d, rfl, _⟩ := h; rfl
  · obtain ⟨v, d, rfl, hv, _, k⟩ := h
    refine ⟨_, (pss_one (ps_ret (pe_callB call_isiT (by rfl) T.b_isinstance bt_isinstance (pa_cons (pv 0) (pa_cons (pe_tup (pa_cons (pe_bltn (v := .ty "tuple") (by rfl) T.b_tuple bt_tuple rfl) (pa_cons (pe_bltn (v := .ty "list") (by rfl) T.b_list bt_list rfl) pa_nil))) pa_nil))))), ?_⟩
    exact s_retB (K := K) (F := nn H) (ed_isiTL (ed_var rfl (dp_df hv))) rfl k
theorem ok_is_listed_d : FnOk P w K mg base CX0 1 T.a_is_listed T.d_is_listed ["value"] spDictF := by
  refine T.D_is_listed.fn.ok sc_is_listed (fun vs H Q E h => ?_) (fun cdv A outer s H vs Q E hr h => ?_)
  · obtain ⟨a, rfl, _⟩ := h; rfl
  · obtain ⟨a, rfl, ha, k⟩ := h
    refine ⟨_, (pss_one (ps_ret (pe_callB call_isiT (by rfl) T.b_isinstance bt_isinstance (pa_cons (pv 0) (pa_cons (pe_tup (pa_cons (pe_bltn (v := .ty "tuple") (by rfl) T.b_tuple bt_tuple rfl) (pa_cons (pe_bltn (v := .ty "list") (by rfl) T.b_list bt_list rfl) pa_nil))) pa_nil))))), ?_⟩
    refine ⟨_, rfl, (by show 2 ≤ sizeLine; decide), fun p hp => ?_⟩
    have s1 := Same.newA (o := .tup [.ty "tuple", .ty "list"]) hp
    refine ⟨.ref a, p, _, .type "dict", [.type "tuple", .type "list"], false, rfl, upd_same, .cons (.ty _) (.cons (.ty _) .nil), .base (.dK (s1 _ _ ha)), ?_, k _ s1⟩
    exact kitAny_dict
end
end Ag

set_option Elab.async false
set_option linter.all false
set_option maxRecDepth 100000
set_option maxHeartbeats 1000000
set_option pp.maxSteps 300
namespace Ag
open PySem PySem.Spec PyProof.Rows L2
section
variable {K : PySem.W.Frag} {σ : L2.St} {F : Addr → Prop} {H : Hp} {ta tb : TE}
theorem ed_ltS {x y : Str} (ha : ED K ta σ F H (.str x)) (hb : ED K tb σ F H (.str y)) : ED K (tOp (fun x y H Q => ∃ i j, x = .str i ∧ y = .str j ∧ Q (.bl (decide (i.cps.toList < j.cps.toList))) H) ta tb) σ F H (.bool (decide (x.cps.toList < y.cps.toList))) :=
  ed_op ha hb fun F a b H1 hx hy Q q => by
    cases hx; cases hy; exact ⟨x, y, rfl, rfl, q _ _ (Same.refl _) (.bl _)⟩
end
theorem ei_zipE {K : PySem.W.Frag} {σ : L2.St} {F : Addr → Prop} {H : Hp} {ta : TA} {d : PyData} {ds es : List PyData} (h : EA K ta σ F H [d, likeD d es]) (he : d = .list ds ∨ d = .tuple ds) : EI K (RZ.iZipA K ta) σ F H (zipD ds es) := by
  rcases he with rfl | rfl
  · exact ei_zipL h
  · exact ei_zip h
/-- the parts of a list or a tuple -/
def partsD : PyData → List PyData | .list ds => ds | .tuple ds => ds | _ => []
def underB : PyData → PyData → Bool | .str x, .str y => decide (x.cps.toList < y.cps.toList) | _, _ => false
/-- whether each is under the next -/
def upB (ds : List PyData) : Bool := (List.zipWith underB ds (ds.drop 1)).all id
def callsB (ds : List PyData) : Bool := ((decide (1 ≤ (ds.length : Int)) && decide ((ds.length : Int) ≤ 6)) && ds.all isName) && upB ds
def isCalls (d : PyData) : Bool := listB d && callsB (partsD d)
def pairB : PyData → PyData | .tuple [a, b] => .bool (underB a b) | _ => .bool false
theorem cut_one {ds : List PyData} (h : 1 ≤ ds.length) : cutD ds (some 1) none = ds.drop 1 := by
  have e : HT.sIx ds.length 0 (some 1) = 1 := by
    simp [HT.sIx]; omega
  have e2 : HT.sIx ds.length ds.length none = ds.length := rfl
  unfold cutD
  rw [e, e2, List.take_of_length_le]
  rw [List.length_drop]; omega
theorem pair_zip (ds es : List PyData) : (zipD ds es).map pairB = (List.zipWith underB ds es).map .bool := by
  induction ds generalizing es with
  | nil => rfl
  | cons d ds ih =>
    cases es with
    | nil => rfl
    | cons e es =>
      show PyData.bool (underB d e) :: (zipD ds es).map pairB = _
      rw [ih es]; rfl
theorem mem_zipD {ds es : List PyData} {z : PyData} (h : z ∈ zipD ds es) : ∃ a b, z = .tuple [a, b] ∧ a ∈ ds ∧ b ∈ es := by
  induction ds generalizing es with
  | nil => cases h
  | cons d ds ih =>
    cases es with
    | nil => cases h
    | cons e es =>
      have h : z ∈ PyData.tuple [d, e] :: zipD ds es := h
      rcases List.mem_cons.mp h with rfl | h
      · exact ⟨d, e, rfl, .head _, .head _⟩
      · obtain ⟨a, b, r, ha, hb⟩ := ih h
        exact ⟨a, b, r, .tail _ ha, .tail _ hb⟩
theorem name_str {d : PyData} (h : isName d = true) : ∃ x, d = .str x := by
  cases d with
  | str x => exact ⟨x, rfl⟩
  | _ => cases h
theorem listed_of {d : PyData} (h : listB d = true) : ∃ ds, (d = .list ds ∨ d = .tuple ds) ∧ partsD d = ds := by
  cases d with
  | list ds => exact ⟨ds, .inl rfl, rfl⟩
  | tuple ds => exact ⟨ds, .inr rfl, rfl⟩
  | _ => cases h
theorem len_parts {d : PyData} (ds : List PyData) (h : d = .list ds ∨ d = .tuple ds) : hasLen d = true ∧ lenP d = ds.length := by
  rcases h with rfl | rfl <;> exact ⟨rfl, rfl⟩
theorem gd_parts {d : PyData} {ds : List PyData} (h : d = .list ds ∨ d = .tuple ds) (g : gd d = true) : (∀ x ∈ ds, gd x = true) ∧ ds.length ≤ 1000 := by
  rcases h with rfl | rfl <;>
  · simp only [gd, Bool.and_eq_true, decide_eq_true_eq] at g
    exact ⟨gds_all g.1, g.2⟩
section
variable {P : Program} {w : World} {K : PySem.W.Frag} {mg : Str → Option Value} {base : Heap} (T : Txt w K mg)
theorem ok_are_calls : FnOk P w K mg base CX0 2 T.a_are_calls T.d_are_calls ["value"] (spB K (fun d => gd d = true) isCalls) := by
  have G_is_name := ok_is_name (P := P) (base := base) T
  have G_is_listed := ok_is_listed (P := P) (base := base) T
  refine T.D_are_calls.fn.ok sc_are_calls (fun vs H Q E h => ?_) (fun cdv A outer s H vs Q E hr h => ?_)
  · obtain ⟨v, d, rfl, _⟩ := h; rfl
  · obtain ⟨v, d, rfl, hv, hd, k⟩ := h
    refine ⟨_, (pss_cons (ps_if (PW.pt (pw_or (pt_not (pt_val (pe_call (G_is_listed) (hr.mono (by omega)) (by rfl) T.D_is_listed.mg T.D_is_listed.fn.kp T.D_is_listed.bd .nil pass0 (pa_cons (pv 0) pa_nil)))) (pw_or (pt_not (pt_chain op_le op_le pe_int (pe_callB call_len (by rfl) T.b_len bt_len (pa_cons (pv 0) pa_nil)) (pe_glob (v := .int 6) (by rfl) T.g_MOST_CALLS ⟨_, rfl⟩))) (pw_or1 (pt_not (pt_val (pe_callB (cr_all rfl) (by rfl) T.b_all bt_all (pa_cons (pe_lc (own := [("call", 1)]) rfl sc_are_calls.nd (pi_ve (pv 0)) (blkOk_by (own := [("call", 1)]) (N := ["value", "call", "one", "two"]) (sc := defScope s_are_calls) (by decide +kernel)) (fun _ _ _ _ _ => (pg_name (i := 1) sc_are_calls.nd rfl (by first | exact Or.inl rfl | exact Or.inr rfl))) (fun _ _ _ _ _ => pts_nil) (fun _ _ _ _ _ => (pe_call (G_is_name) (hr.mono (by omega)) (by rfl) T.D_is_name.mg T.D_is_name.fn.kp T.D_is_name.bd .nil pass0 (pa_cons (pv 1) pa_nil)))) pa_nil)))))))) (pss_one (ps_ret pe_bl)) pss_nil)
      (pss_one (ps_ret (pe_callB (cr_all rfl) (by rfl) T.b_all bt_all (pa_cons (pe_lc (own := [("one", 2), ("two", 3)]) (g := (gTup K 2 (gCons (gName 2) (gCons (gName 3) gNil)))) rfl sc_are_calls.nd (RZ.pi_zipA (by rfl) T.b_zip (pa_cons (pv 0) (pa_cons (pe_slice sl_either (pv 0) (po_some pe_int) po_none) pa_nil))) (blkOk_by (own := [("one", 2), ("two", 3)]) (N := ["value", "call", "one", "two"]) (sc := defScope s_are_calls) (by decide +kernel)) (fun _ _ _ _ _ => (pg_tup rfl (pgs_cons (pg_name (i := 2) sc_are_calls.nd rfl (by first | exact Or.inl rfl | exact Or.inr rfl)) (pgs_cons (pg_name (i := 3) sc_are_calls.nd rfl (by first | exact Or.inl rfl | exact Or.inr rfl)) pgs_nil)))) (fun _ _ _ _ _ => pts_nil) (fun _ _ _ _ _ => (pe_cmpR op_lt_str (pv 2) (pv 3) (nomark _)))) pa_nil))))), ?_⟩
    have hv0 : ∀ H1, Same H H1 → Df K (nn H) H1 v d := fun H1 s1 => df_mono s1 (fun _ z => z) (dp_df hv)
    have hvar : ∀ H1, Same H H1 → ED K (tVar 0) (start ["value", "call", "one", "two"] [v]) (nn H) H1 d := fun H1 s1 => ed_var rfl (hv0 H1 s1)
    cases hl : listB d with
    | false =>
      refine s_if (b := true) (et_is (et_or (b := true) (et_not (et_B (ed_call (ea_cons (hvar H (Same.refl _)) ea_nil) (rdc_spB (pre := fun _ => True) trivial)))) fun h => ?_) ?_) (fun _ H1 s1 => ?_) fun h => nomatch h
      · rw [hl] at h; cases h
      · rw [hl]; rfl
      · have := k H1 s1
        unfold isCalls at this; rw [hl] at this; exact this
    | true =>
      obtain ⟨ds, hds, hp⟩ := listed_of hl
      obtain ⟨g1, g2⟩ := gd_parts hds hd
      obtain ⟨l1, l2⟩ := len_parts ds hds
      have e0 : isCalls d = callsB ds := by unfold isCalls; rw [hl, hp]; rfl
      rw [e0] at k
      refine s_if (b := !((decide (1 ≤ (ds.length : Int)) && decide ((ds.length : Int) ≤ 6)) && ds.all isName)) (et_is (et_or (et_not (et_B (ed_call (ea_cons (hvar H (Same.refl _)) ea_nil) (rdc_spB (pre := fun _ => True) trivial)))) fun _ => et_or (et_not (et_test (ed_chain (r := rI0 fun i j => .bl (decide (i ≤ j))) (r' := rI0 fun i j => .bl (decide (i ≤ j))) (ed_int (i := 1)) (ed_len (hvar H (Same.refl _)) l1) (ed_int (i := 6)) rd_cmp fun _ => rd_cmp))) fun _ => (et_not (et_B (ed_all (bs := ds.map isName) (ed_is (ed_lc (f := fun _ => true) (m := fun s => .bool (isName s)) (ei_ve (i := 0) rfl (hv0 H (Same.refl _)) hds) (by omega) fun F2 H2 e2 v2 d2 hm hd2 => ⟨_, fun Q q => q, rfl, et_yes, fun _ => ed_call (ea_cons (ed_var rfl hd2) ea_nil) (rdc_spB (g1 _ hm))⟩) (by rw [filt_tt, List.map_map]; rfl)))))) ?_) (fun h H1 s1 => ?_) (fun h H1 s1 => ?_)
      · rw [hl, List.all_map, l2]
        show (!true || ((!(decide _ && decide _)) || !ds.all (id ∘ isName))) = _
        have : (id ∘ isName) = isName := rfl
        rw [this]
        cases decide (1 ≤ (ds.length : Int)) <;> cases decide ((ds.length : Int) ≤ 6) <;> cases ds.all isName <;> rfl
      · have := k H1 s1
        have e : callsB ds = false := by
          unfold callsB
          rw [Bool.not_eq_true'] at h
          rw [h]; rfl
        rw [e] at this; exact this
      · have h : ((decide (1 ≤ (ds.length : Int)) && decide ((ds.length : Int) ≤ 6)) && ds.all isName) = true := by
          rw [← Bool.not_eq_false']; simpa using h
        have hh := h
        simp only [Bool.and_eq_true, decide_eq_true_eq, List.all_eq_true] at hh
        have c1 := cut_one (ds := ds) (by omega)
        refine s_retB (F := nn H) (ed_all (bs := List.zipWith underB ds (ds.drop 1)) (ed_is (ed_lc (f := fun _ => true) (m := pairB) (ei_zipE (ea_cons (hvar H1 s1) (ea_cons (ed_is (ed_slE (hvar H1 s1) hds (eo_some (ed_int (K := K) (F := nn H) (i := 1))) eo_none) (by rw [c1])) ea_nil)) hds) ?_ fun F2 H2 e2 v2 d2 hm hd2 => ?_) ?_)) ?_ fun H2 s2 => k H2 (s1.trans s2)
        · unfold zipD; rw [List.length_zipWith]; omega
        · obtain ⟨a, b, rfl, ma, mb⟩ := mem_zipD hm
          obtain ⟨x, rfl⟩ := name_str (hh.2 a ma)
          obtain ⟨y, rfl⟩ := name_str (hh.2 b (List.mem_of_mem_drop mb))
          cases hd2 with
          | tup hts r =>
            cases r with
            | cons r1 r =>
              cases r with
              | cons r2 r =>
                cases r
                exact ⟨_, fun Q q => ⟨_, _, rfl, hts, rfl, _, _, rfl, _, _, rfl, rfl, q⟩, rfl, et_yes, fun _ => ed_ltS (ed_var rfl r1) (ed_var rfl r2)⟩
        · rw [filt_tt, pair_zip]
        · show upB ds = callsB ds
          unfold callsB; rw [h]; rfl
end
end Ag

set_option Elab.async false
set_option linter.all false
set_option maxRecDepth 100000
set_option maxHeartbeats 1000000
set_option pp.maxSteps 300
namespace Ag
open PySem PySem.Spec PyProof.Rows L2
section
variable {K : PySem.W.Frag} {σ : L2.St} {F : Addr → Prop} {H : Hp} {ds : List PyData} {D : Ends}
/-- a loop over data that changes nothing that stands, with an invariant and early ends -/
theorem s_for {wi : TI} {g : TG} {tb : TS} (I : Nat → L2.St → Hp → Prop) (hi : EI K wi σ F H ds) (h0 : ∀ H1, Same H H1 → I 0 σ H1)
    (step : ∀ i σ1 H1, Same H H1 → I i σ1 H1 → ∀ d v H2, ds[i]? = some d → Same H1 H2 → Df K (Fr F H) H2 v d → g v σ1 H2 fun σ2 H3 => tb { D with nx := fun σ3 H4 => Same H1 H4 ∧ I (i + 1) σ3 H4, ct := fun σ3 H4 => Same H1 H4 ∧ I (i + 1) σ3 H4, bk := D.nx } σ2 H3)
    (fin : ∀ σ1 H1, Same H H1 → I ds.length σ1 H1 → D.nx σ1 H1) : tFor wi g tb D σ H := hi H (Same.refl _) _ fun J H2 s2 W => by
  refine ⟨fun i m σ1 H1 => m = ds.length - i ∧ i ≤ ds.length ∧ Same H2 H1 ∧ I i σ1 H1, ⟨_, rfl, Nat.zero_le _, Same.refl _, h0 _ s2⟩, ?_⟩
  rintro i m σ1 H1 ⟨rfl, hl, s3, hI⟩
  by_cases lt : i < ds.length
  · refine .inr ⟨W.go i H1 s3.F lt, _, fun σ3 H4 (z : Same H1 H4 ∧ I (i + 1) σ3 H4) => ⟨ds.length - (i + 1), by omega, rfl, lt, s3.trans z.1, z.2⟩, fun x H3 y => ?_⟩
    obtain ⟨d, hd, s4, hx⟩ := W.yld i H1 x H3 lt s3.F y
    exact step i σ1 H1 (s2.trans s3) hI d x H3 hd s4 (df_mono (Same.refl _) (fun a z => z.1) hx)
  · have : i = ds.length := by omega
    subst this
    exact .inl ⟨W.stop H1 s3.F, fin _ _ (s2.trans s3) hI⟩
end
theorem call_lenK {X : Cx} {K : PySem.W.Frag} (h : X.K = K) : CallR X (.builtin "len") (fun xs H Q => ∃ x n, xs = [x] ∧ LenV K x H n ∧ Q (.int n) H) := by
  subst h; exact call_len
def rowB (n : Int) (many : Nat) : PyData → Bool
  | .tuple xs => decide ((xs.length : Int) = n) && xs.all fun x => wholeB x 0 ((many : Int) - 1)
  | _ => false
def rowsB (ds : List PyData) (n : Int) : Bool := !(decide ((ds.length : Int) = 0)) && ds.all (rowB n ds.length)
def isRows (d : PyData) (n : Int) : Bool := listB d && rowsB (partsD d) n
def spRows (K : PySem.W.Frag) : Sp := fun vs H Q _ => ∃ v d n, vs = [v, .int n] ∧ Dp K H v d ∧ gd d = true ∧ ∀ H', Same H H' → Q (.bl (isRows d n)) H'
theorem rdc_rows {K : PySem.W.Frag} {E : XK} {d : PyData} {n : Int} (hp : gd d = true) : RDC K (fun vs H Q => spRows K vs H Q E) [d, .int n] (.bool (isRows d n)) := fun F vs H1 hv Q q => by
  cases hv with
  | cons a r =>
    cases r with
    | cons b r => cases r; cases b; exact ⟨_, d, n, rfl, df_dp a, hp, fun H' s => q _ H' s (.bl _)⟩
section
variable {P : Program} {w : World} {K : PySem.W.Frag} {mg : Str → Option Value} {base : Heap} (T : Txt w K mg)
theorem ok_are_rows : FnOk P w K mg base CX0 2 T.a_are_rows T.d_are_rows ["value", "width"] (spRows K) := by
  have G_is_whole := ok_is_whole (P := P) (base := base) T
  have G_is_listed := ok_is_listed (P := P) (base := base) T
  refine T.D_are_rows.fn.ok sc_are_rows (fun vs H Q E h => ?_) (fun cdv A outer s H vs Q E hr h => ?_)
  · obtain ⟨v, d, n, rfl, _⟩ := h; rfl
  · obtain ⟨v, d, n, rfl, hv, hd, k⟩ := h
    refine ⟨_, (pss_cons (ps_if (PW.pt (pw_or (pt_not (pt_val (pe_call (G_is_listed) (hr.mono (by omega)) (by rfl) T.D_is_listed.mg T.D_is_listed.fn.kp T.D_is_listed.bd .nil pass0 (pa_cons (pv 0) pa_nil)))) (pw_or1 (pt_cmpR op_eq (pe_callB (call_lenK (K := K) rfl) (by rfl) T.b_len bt_len (pa_cons (pv 0) pa_nil)) pe_int (nomark _))))) (pss_one (ps_ret pe_bl)) pss_nil)
      (pss_cons (ps_for PassesOwn.never rfl (pi_ve (pv 0)) (pg_name (i := 2) sc_are_rows.nd rfl (by first | exact Or.inl rfl | exact Or.inr rfl)) (pss_cons (ps_if (PW.pt (pw_or (pt_not (pt_val (pe_callB call_isi (by rfl) T.b_isinstance bt_isinstance (pa_cons (pv 2) (pa_cons (pe_bltn (v := .ty "tuple") (by rfl) T.b_tuple bt_tuple rfl) pa_nil))))) (pw_or1 (pt_cmpR op_ne (pe_callB call_len (by rfl) T.b_len bt_len (pa_cons (pv 2) pa_nil)) (pv 1) (nomark _))))) (pss_one (ps_ret pe_bl)) pss_nil)
      (pss_one (ps_if (pt_not (pt_val (pe_callB (cr_all rfl) (by rfl) T.b_all bt_all (pa_cons (pe_lc (own := [("state", 3)]) rfl sc_are_rows.nd (pi_tup (pv 2)) (blkOk_by (own := [("state", 3)]) (N := ["value", "width", "row", "state"]) (sc := defScope s_are_rows) (by decide +kernel)) (fun _ _ _ _ _ => (pg_name (i := 3) sc_are_rows.nd rfl (by first | exact Or.inl rfl | exact Or.inr rfl))) (fun _ _ _ _ _ => pts_nil) (fun _ _ _ _ _ => (pe_call (G_is_whole) (hr.mono (by omega)) (by rfl) T.D_is_whole.mg T.D_is_whole.fn.kp T.D_is_whole.bd .nil pass0 (pa_cons (pv 3) (pa_cons pe_int (pa_cons (pe_op op_sub (pe_callB (call_lenK (K := K) rfl) (by rfl) T.b_len bt_len (pa_cons (pv 0) pa_nil)) pe_int) pa_nil)))))) pa_nil)))) (pss_one (ps_ret pe_bl)) pss_nil))))
      (pss_one (ps_ret pe_bl)))), ?_⟩
    have hv0 : ∀ H1, Same H H1 → Df K (nn H) H1 v d := fun H1 s1 => df_mono s1 (fun _ z => z) (dp_df hv)
    have hvar : ∀ H1, Same H H1 → ED K (tVar 0) (start ["value", "width", "row", "state"] [v, .int n]) (nn H) H1 d := fun H1 s1 => ed_var rfl (hv0 H1 s1)
    cases hl : listB d with
    | false =>
      refine s_if (b := true) (et_is (et_or (b := true) (et_not (et_B (ed_call (ea_cons (hvar H (Same.refl H)) ea_nil) (rdc_spB (pre := fun _ => True) trivial)))) fun h => ?_) ?_) (fun _ H1 s1 => ?_) fun h => nomatch h
      · rw [hl] at h; cases h
      · rw [hl]; rfl
      · have := k H1 s1
        unfold isRows at this; rw [hl] at this; exact this
    | true =>
      obtain ⟨ds, hds, hp⟩ := listed_of hl
      obtain ⟨g1, g2⟩ := gd_parts hds hd
      obtain ⟨l1, l2⟩ := len_parts ds hds
      have e0 : isRows d n = rowsB ds n := by unfold isRows; rw [hl, hp]; rfl
      rw [e0] at k
      refine s_if (b := decide ((ds.length : Int) = 0)) (et_is (et_or (et_not (et_B (ed_call (ea_cons (hvar H (Same.refl H)) ea_nil) (rdc_spB (pre := fun _ => True) trivial)))) fun _ => et_test (ed_eqI (ed_len (hvar H (Same.refl H)) l1) ed_int)) ?_) (fun h H1 s1 => ?_) (fun h H1 s1 => ?_)
      · rw [hl, l2]; rfl
      · have := k H1 s1
        have e : rowsB ds n = false := by unfold rowsB; rw [h]; rfl
        rw [e] at this; exact this
      · refine s_for (I := fun i σ1 H2 => (∃ x, σ1 = (start ["value", "width", "row", "state"] [v, .int n]).set 2 x) ∧ (ds.take i).all (rowB n ds.length) = true) (ei_ve (i := 0) rfl (hv0 H1 s1) hds) (fun H2 s2 => ⟨⟨none, rfl⟩, rfl⟩) ?_ ?_
        · rintro i σ1 H2 s2 ⟨⟨x, rfl⟩, hI⟩ row u H3 hrow s3 hu
          have hm : row ∈ ds := List.mem_of_getElem? hrow
          have s13 := s1.trans (s2.trans s3)
          have hno : ∀ H4, Same H3 H4 → rowB n ds.length row = false → Q (.bl false) H4 := fun H4 s4 e => by
            have := k H4 (s13.trans s4)
            have e : rowsB ds n = false := by
              unfold rowsB
              rw [Bool.and_eq_false_iff]; right
              rw [← Bool.not_eq_true, List.all_eq_true]
              intro z
              rw [z row hm] at e; cases e
            rw [e] at this; exact this
          have tk : ds.take (i + 1) = ds.take i ++ [row] := by rw [List.take_succ, hrow]; rfl
          have huv : ∀ H4, Same H3 H4 → ED K (tVar 2) (start ["value", "width", "row", "state"] [v, .int n] |>.set 2 (some u)) (Fr (nn H) H1) H4 row := fun H4 s4 => ed_var rfl (df_mono s4 (fun _ z => z) hu)
          have isi := ed_isi (T := "tuple") (huv H3 (Same.refl _)) (.inr (.inl rfl))
          cases row with
          | tuple xs =>
            refine s_if (b := !decide ((xs.length : Int) = n)) (et_is (et_or (et_not (et_B isi)) fun _ => et_test (ed_neI (ed_len (huv H3 (Same.refl _)) rfl) (ed_var (i := 1) rfl (.int n)))) ?_) (fun h H4 s4 => ?_) (fun h H4 s4 => ?_)
            · rfl
            · refine hno H4 s4 ?_
              rw [Bool.not_eq_true'] at h
              show (decide ((xs.length : Int) = n) && _) = false
              rw [h]; rfl
            · have hn : decide ((xs.length : Int) = n) = true := by rw [← Bool.not_eq_false']; simpa using h
              obtain ⟨gx1, gx2⟩ := gd_parts (.inr rfl) (g1 _ hm)
              have hv4 : Df K (Fr (nn H) H1) H4 v d := df_mono (Same.refl _) (fun a z => .inl z) (hv0 H4 (s13.trans s4))
              refine s_if (b := !(xs.all fun x => wholeB x 0 ((ds.length : Int) - 1))) (et_is (et_not (et_B (ed_all (bs := xs.map fun x => wholeB x 0 ((ds.length : Int) - 1)) (ed_is (ed_lc (f := fun _ => true) (m := fun x => .bool (wholeB x 0 ((ds.length : Int) - 1))) (ei_tup (huv H4 s4)) (by omega) fun F2 H5 e2 v2 d2 hm hd2 => ⟨((start ["value", "width", "row", "state"] [v, .int n]).set 2 (some u)).set 3 (some v2), fun Q q => q, rfl, et_yes, fun _ => ed_call (ea_cons (ed_var (i := 3) rfl hd2) (ea_cons ed_int (ea_cons (ed_is (ed_sub (ed_len (ed_var (i := 0) rfl (df_ext e2 hv4)) l1) ed_int) (by rw [l2])) ea_nil))) rdc_whole⟩) (by rw [filt_tt, List.map_map]; rfl))))) ?_) (fun h H5 s5 => ?_) (fun h H5 s5 => ?_)
              · rw [List.all_map]; rfl
              · refine hno H5 (s4.trans s5) ?_
                rw [Bool.not_eq_true'] at h
                show (decide ((xs.length : Int) = n) && _) = false
                rw [hn, h]; rfl
              · refine ⟨(s3.trans s4).trans s5, ⟨_, rfl⟩, ?_⟩
                rw [tk, List.all_append, hI]
                rw [Bool.not_eq_false'] at h
                show (true && ((decide ((xs.length : Int) = n) && _) && true)) = true
                rw [hn, h]; rfl
          | _ =>
            refine s_if (b := true) (et_is (et_or (b := true) (et_not (et_B isi)) fun h => nomatch h) rfl) (fun _ H4 s4 => hno H4 s4 rfl) fun h => nomatch h
        · rintro σ1 H2 s2 ⟨_, hI⟩
          have := k H2 (s1.trans s2)
          have e : rowsB ds n = true := by
            unfold rowsB; rw [h]; rw [List.take_length] at hI; rw [hI]; rfl
          rw [e] at this; exact this
end
end Ag

set_option Elab.async false
set_option linter.all false
set_option maxRecDepth 100000
set_option maxHeartbeats 1000000
set_option pp.maxSteps 300
namespace Ag
open PySem PySem.Spec PyProof.Rows L2
/-- a def of one piece of data that gives data -/
def spAs (K : PySem.W.Frag) (pre : PyData → Prop) (f : PyData → PyData) : Sp := fun vs H Q _ => ∃ (F : Addr → Prop) (v : V) (d : PyData), vs = [v] ∧ Df K F H v d ∧ pre d ∧ ∀ r H', Same H H' → Df K (Fr F H) H' r (f d) → Q r H'
theorem rdc_as {K : PySem.W.Frag} {E : XK} {pre : PyData → Prop} {f : PyData → PyData} {d : PyData} (hp : pre d) : RDC K (fun vs H Q => spAs K pre f vs H Q E) [d] (f d) := fun F vs H1 hv Q q => by
  cases hv with
  | cons a r => cases r; exact ⟨F, _, d, rfl, a, hp, fun r H' s h => q _ H' s h⟩
section
variable {P : Program} {w : World} {K : PySem.W.Frag} {mg : Str → Option Value} {base : Heap} (T : Txt w K mg)
def AsOk (P : Program) (w : World) (K : PySem.W.Frag) (mg : Str → Option Value) (base : Heap) (T : Txt w K mg) (n : Nat) (pre : PyData → Prop) (f : PyData → PyData) : Prop := FnOk P w K mg base CX0 n T.a_as_tuples T.d_as_tuples ["value"] (spAs K pre f)
theorem ok_as_step {n : Nat} {pre : PyData → Prop} {f : PyData → PyData} (G_as_tuples : FnOk P w K mg base CX0 n T.a_as_tuples T.d_as_tuples ["value"] (spAs K pre f)) :
    FnOk P w K mg base CX0 (n + 1) T.a_as_tuples T.d_as_tuples ["value"] (spAs K (fun d => listB d = true ∧ gd d = true ∧ ∀ x ∈ partsD d, pre x) fun d => .tuple ((partsD d).map f)) := by
  refine T.D_as_tuples.fn.ok sc_as_tuples (fun vs H Q E h => ?_) (fun cdv A outer s H vs Q E hr h => ?_)
  · obtain ⟨F, v, d, rfl, _⟩ := h; rfl
  · obtain ⟨F, v, d, rfl, hv, ⟨hl, hd, hp⟩, k⟩ := h
    refine ⟨_, (pss_cons (ps_if (pt_val (pe_callB call_isiT (by rfl) T.b_isinstance bt_isinstance (pa_cons (pv 0) (pa_cons (pe_tup (pa_cons (pe_bltn (v := .ty "tuple") (by rfl) T.b_tuple bt_tuple rfl) (pa_cons (pe_bltn (v := .ty "list") (by rfl) T.b_list bt_list rfl) pa_nil))) pa_nil)))) (pss_one (ps_ret (pe_callTy call_tuple_of (by rfl) T.b_tuple bt_tuple (pa_cons (pe_lc (own := [("part", 1)]) rfl sc_as_tuples.nd (pi_ve (pv 0)) (blkOk_by (own := [("part", 1)]) (N := ["value", "part"]) (sc := defScope s_as_tuples) (by decide +kernel)) (fun _ _ _ _ _ => (pg_name (i := 1) sc_as_tuples.nd rfl (by first | exact Or.inl rfl | exact Or.inr rfl))) (fun _ _ _ _ _ => pts_nil) (fun _ _ _ _ _ => (pe_call (G_as_tuples) (hr.mono (by omega)) (by rfl) T.D_as_tuples.mg T.D_as_tuples.fn.kp T.D_as_tuples.bd .nil pass0 (pa_cons (pv 1) pa_nil)))) pa_nil)))) pss_nil)
      (pss_one (ps_ret (pv 0)))), ?_⟩
    obtain ⟨ds, hds, e⟩ := listed_of hl
    obtain ⟨g1, g2⟩ := gd_parts hds hd
    rw [e] at hp; change ∀ r H', Same H H' → Df K (Fr F H) H' r (.tuple ((partsD d).map f)) → Q r H' at k; rw [e] at k
    have hv0 : ∀ H1, Same H H1 → Df K F H1 v d := fun H1 s1 => df_mono s1 (fun _ z => z) hv
    refine s_if (b := true) (et_is (et_B (ed_isiTL (ed_var (i := 0) rfl hv))) hl) (fun _ H1 s1 => ?_) fun h => nomatch h
    refine s_ret (F := F) (ed_is (ed_tupleOf (ed_lc (f := fun _ => true) (m := f) (ei_ve (i := 0) rfl (hv0 H1 s1) hds) (by omega) fun F2 H5 e2 v2 d2 hm hd2 => ⟨(start ["value", "part"] [v]).set 1 (some v2), fun Q q => q, rfl, et_yes, fun _ => ed_call (ea_cons (ed_var (i := 1) rfl hd2) ea_nil) (rdc_as (hp _ hm))⟩) rfl) (by rw [filt_tt]; rfl)) fun r H2 s2 hr2 => k r H2 (s1.trans s2) (df_mono (Same.refl _) (fun a z => z.imp id s1.free) hr2)
theorem step_as_int (m : Nat) {spR : Sp} (G_as_tuples : FnOk P w K mg base CX0 m T.a_as_tuples T.d_as_tuples ["value"] spR) : FnOk P w K mg base CX0 (m + 1) T.a_as_tuples T.d_as_tuples ["value"] (spAs K (fun d => ∃ i, d = .int i) fun d => d) := by
  refine T.D_as_tuples.fn.ok sc_as_tuples (fun vs H Q E h => ?_) (fun cdv A outer s H vs Q E hr h => ?_)
  · obtain ⟨F, v, d, rfl, _⟩ := h; rfl
  · obtain ⟨F, v, d, rfl, hv, ⟨i, rfl⟩, k⟩ := h
    refine ⟨_, (pss_cons (ps_if (pt_val (pe_callB call_isiT (by rfl) T.b_isinstance bt_isinstance (pa_cons (pv 0) (pa_cons (pe_tup (pa_cons (pe_bltn (v := .ty "tuple") (by rfl) T.b_tuple bt_tuple rfl) (pa_cons (pe_bltn (v := .ty "list") (by rfl) T.b_list bt_list rfl) pa_nil))) pa_nil)))) (pss_one (ps_ret (pe_callTy call_tuple_of (by rfl) T.b_tuple bt_tuple (pa_cons (pe_lc (own := [("part", 1)]) rfl sc_as_tuples.nd (pi_ve (pv 0)) (blkOk_by (own := [("part", 1)]) (N := ["value", "part"]) (sc := defScope s_as_tuples) (by decide +kernel)) (fun _ _ _ _ _ => (pg_name (i := 1) sc_as_tuples.nd rfl (by first | exact Or.inl rfl | exact Or.inr rfl))) (fun _ _ _ _ _ => pts_nil) (fun _ _ _ _ _ => (pe_call (G_as_tuples) (hr.mono (by omega)) (by rfl) T.D_as_tuples.mg T.D_as_tuples.fn.kp T.D_as_tuples.bd .nil pass0 (pa_cons (pv 1) pa_nil)))) pa_nil)))) pss_nil)
      (pss_one (ps_ret (pv 0)))), ?_⟩
    refine s_if (b := false) (et_is (et_B (ed_isiTL (ed_var (i := 0) rfl hv))) rfl) (fun h => nomatch h) fun _ H1 s1 => ?_
    exact s_ret (F := F) (ed_var (i := 0) rfl (df_mono s1 (fun _ z => z) hv)) fun r H2 s2 hr2 => k r H2 (s1.trans s2) (df_mono (Same.refl _) (fun a z => z.imp id s1.free) hr2)
/-- rows of whole numbers as tuples of tuples -/
def rowsT (d : PyData) : PyData := .tuple ((partsD d).map fun r => .tuple (partsD r))
def preRow (d : PyData) : Prop := listB d = true ∧ gd d = true ∧ ∀ x ∈ partsD d, ∃ i, x = .int i
def preRows (d : PyData) : Prop := listB d = true ∧ gd d = true ∧ ∀ x ∈ partsD d, preRow x
theorem ok_as_rows : FnOk P w K mg base CX0 4 T.a_as_tuples T.d_as_tuples ["value"] (spAs K preRows rowsT) := by
  have h := ok_as_step (P := P) (base := base) T (ok_as_step T (step_as_int (K := K) T 1 (no_ok 0 T.D_as_tuples sc_as_tuples)))
  have e : (fun d : PyData => PyData.tuple ((partsD d).map fun x => x)) = fun r => .tuple (partsD r) := by
    funext d; rw [List.map_id']
  rw [e] at h
  exact h
theorem whole_int {d : PyData} {a b : Int} (h : wholeB d a b = true) : ∃ i, d = .int i := by
  cases d with
  | int i => exact ⟨i, rfl⟩
  | _ => cases h
/-- what are rows may be taken as tuples -/
theorem rows_pre {d : PyData} {n : Int} (hd : gd d = true) (h : isRows d n = true) : preRows d := by
  unfold isRows at h
  rw [Bool.and_eq_true] at h
  obtain ⟨ds, hds, e⟩ := listed_of h.1
  obtain ⟨g1, g2⟩ := gd_parts hds hd
  have h2 := h.2
  rw [e] at h2
  unfold rowsB at h2
  rw [Bool.and_eq_true] at h2
  refine ⟨h.1, hd, fun x hx => ?_⟩
  rw [e] at hx
  have hr := List.all_eq_true.mp h2.2 x hx
  cases x with
  | tuple xs =>
    have hr : (decide ((xs.length : Int) = n) && xs.all fun x => wholeB x 0 ((ds.length : Int) - 1)) = true := hr
    rw [Bool.and_eq_true] at hr
    exact ⟨rfl, g1 _ hx, fun y hy => whole_int (List.all_eq_true.mp hr.2 y hy)⟩
  | _ => cases hr
end
end Ag

set_option Elab.async false
set_option linter.all false
set_option maxRecDepth 100000
set_option maxHeartbeats 1000000
namespace Ag
open PySem PySem.Spec PyProof.Rows L2
theorem pick_str {xs : List Str} {i : Nat} {v : V} (h : (xs.map V.str)[i]? = some v) : ∃ s ∈ xs, v = .str s := by
  obtain ⟨s, hs, e⟩ := List.mem_map.mp (List.mem_of_getElem? h)
  exact ⟨s, hs, e.symm⟩
/-- a word of some of the calls -/
def spWord (K : PySem.W.Frag) : Sp := fun vs H Q _ => ∃ (p c cs : Addr) (ns : List Str) (n u : Nat), vs = [.ref p, .ref cs, .int u] ∧ u ≤ 15 ∧ Pen p c n H ∧ SqT K H cs (ns.map V.str) ∧ 1 ≤ ns.length ∧ ns.length ≤ 10 ∧ n + 1000000 < 1000000000000 ∧
  ∀ (l : Addr) (ws : List Str) H', (∀ x ∈ ws, x ∈ ns) → ws.length ≤ u → H l = none → H' l = some (.tup (ws.map V.str)) → But p H H' → Pen p c (n + 20) H' → Q (.ref l) H'
section
variable {P : Program} {w : World} {K : PySem.W.Frag} {mg : Str → Option Value} {base : Heap} (T : Txt w K mg)
theorem ok_some_word : FnOk P w K mg base CX0 3 T.a_law_some_word T.d_law_some_word ["pen", "calls", "most"] (spWord K) := by
  have G_law_draw := ok_draw (P := P) (base := base) T
  have G_law_pick := ok_pick (P := P) (base := base) T
  refine T.D_law_some_word.fn.ok sc_law_some_word (fun vs H Q E h => ?_) (fun cdv A outer s H vs Q E hr h => ?_)
  · obtain ⟨p, c, cs, ns, n, u, rfl, _⟩ := h; rfl
  · obtain ⟨p, c, cs, ns, n, u, rfl, u4, hP, hs, n1, n4, nb, k⟩ := h
    refine ⟨_, (pss_one (ps_ret (pe_callTy call_tuple_of (by rfl) T.b_tuple bt_tuple (pa_cons (pe_lc (own := [("spot", 3)]) rfl sc_law_some_word.nd (pi_range1 (by rfl) T.b_range (pa_cons (pe_call (G_law_draw) (hr.mono (by omega)) (by rfl) T.D_law_draw.mg T.D_law_draw.fn.kp T.D_law_draw.bd .nil pass0 (pa_cons (pv 0) (pa_cons (pe_op op_add (pv 2) pe_int) pa_nil))) pa_nil)) (blkOk_by (own := [("spot", 3)]) (N := ["pen", "calls", "most", "spot"]) (sc := defScope s_law_some_word) (by decide +kernel)) (fun _ _ _ _ _ => (pg_name (i := 3) sc_law_some_word.nd rfl (by first | exact Or.inl rfl | exact Or.inr rfl))) (fun _ _ _ _ _ => pts_nil) (fun _ _ _ _ _ => (pe_call (G_law_pick) (hr.mono (by omega)) (by rfl) T.D_law_pick.mg T.D_law_pick.fn.kp T.D_law_pick.bd .nil pass0 (pa_cons (pv 0) (pa_cons (pv 1) pa_nil))))) pa_nil)))), ?_⟩
    refine ⟨_, rfl, _, rfl, _, _, rfl, rfl, p, c, (u : Int) + 1, n, rfl, hP, by omega, by omega, by omega, fun d H1 d0 d1 b1 P1 => ?_⟩
    obtain ⟨m, rfl⟩ : ∃ m : Nat, d = m := ⟨d.toNat, by omega⟩
    refine ⟨_, rfl, by omega, by omega, fun D hD => lc_range (lo := 0) (n := m) (fun i H' => ∃ ms : List Str, H' D = some (.lst (ms.map V.str)) ∧ ms.length = i ∧ (∀ x ∈ ms, x ∈ ns) ∧ But p H1 H' ∧ Pen p c (n + 1 + i) H')
      ⟨[], upd_same, rfl, (fun x hx => by cases hx), .of (Same.newA hD), P1.upd (P1.ne_p hD) (P1.ne_c hD)⟩ ?_ ?_⟩
    · rintro i H' hi ⟨ms, e1, ml, hm, b2, P2⟩
      refine ⟨rfl, ?_⟩
      refine ⟨_, rfl, _, rfl, p, c, cs, ns.map V.str, n + 1 + i, rfl, P2, .inr (hP.st (b1.trans b2) hs), by rw [List.length_map]; omega, by rw [List.length_map]; omega, by omega, fun j v H2 hv b3 P3 => ?_⟩
      obtain ⟨x, hx, rfl⟩ := pick_str hv
      have e2 : H2 D = some (.lst (ms.map V.str)) := b3 _ _ (P1.ne_p hD) e1
      refine ⟨_, e2, lt5 (by rw [List.length_map]; omega), ms ++ [x], ?_, by rw [List.length_append, ml]; rfl, fun y hy => ?_, ?_, ?_⟩
      · rw [List.map_append]; exact upd_same
      · rcases List.mem_append.mp hy with hy | hy
        · exact hm y hy
        · rw [List.mem_singleton.mp hy]; exact hx
      · intro b u nb e
        rw [upd_ne (ne_of_none e hD)]
        exact b3 _ _ nb (b2 _ _ nb e)
      · exact (P3.more (by omega)).upd (P1.ne_p hD) (P1.ne_c hD)
    · rintro H' ⟨ms, e1, ml, hm, b2, P2⟩
      refine ⟨D, _, rfl, .inl ⟨SqL.of e1, fun r hr1 => ?_⟩⟩
      exact k r ms _ hm (by omega) (b1.free (b2.free hr1 (P2.ne_p hr1)) (P2.ne_p hr1)) upd_same (b1.trans (b2.trans (.of (Same.newA hr1)))) ((P2.more (by omega)).upd (P2.ne_p hr1) (P2.ne_c hr1))
end
end Ag

set_option Elab.async false
set_option linter.all false
set_option maxRecDepth 100000
set_option maxHeartbeats 2000000
set_option pp.maxSteps 300
namespace Ag
open PySem PySem.Spec PyProof.Rows L2
open PySem.W (alike alikeAll dataLt)
/-! ### steps -/
def stepB (ns : List Str) (M : Int) : PyData → Bool
  | .tuple [a, .str x] => wholeB a 0 (M - 1) && decide (x ∈ ns)
  | _ => false
theorem step_pair {ns : List Str} {M : Int} {d : PyData} (h : stepB ns M d = true) : ∃ p : Pr, d = pairD p ∧ 0 ≤ p.1 ∧ p.1 < M ∧ p.2 ∈ ns := by
  unfold stepB at h
  split at h
  · rename_i a x
    rw [Bool.and_eq_true] at h
    obtain ⟨i, rfl⟩ := whole_int h.1
    have h1 : (decide (0 ≤ i) && decide (i ≤ M - 1)) = true := h.1
    rw [Bool.and_eq_true, decide_eq_true_eq, decide_eq_true_eq] at h1
    exact ⟨(i, x), rfl, h1.1, by omega, of_decide_eq_true h.2⟩
  · cases h
theorem pair_step {ns : List Str} {M : Int} {p : Pr} (h0 : 0 ≤ p.1) (h1 : p.1 < M) (h2 : p.2 ∈ ns) : stepB ns M (pairD p) = true := by
  show ((decide (0 ≤ p.1) && decide (p.1 ≤ M - 1)) && decide (p.2 ∈ ns)) = true
  rw [decide_eq_true h0, decide_eq_true (show p.1 ≤ M - 1 by omega), decide_eq_true h2]; rfl
theorem steps_pairs {ns : List Str} {M : Int} : ∀ {ds : List PyData}, ds.all (stepB ns M) = true → ∃ ps : List Pr, ds = ps.map pairD ∧ ∀ p ∈ ps, 0 ≤ p.1 ∧ p.1 < M ∧ p.2 ∈ ns
  | [], _ => ⟨[], rfl, fun p h => by cases h⟩
  | d :: ds, h => by
    rw [List.all_cons, Bool.and_eq_true] at h
    obtain ⟨p, rfl, b⟩ := step_pair h.1
    obtain ⟨ps, rfl, c⟩ := steps_pairs h.2
    exact ⟨p :: ps, rfl, fun q hq => by
      rcases List.mem_cons.mp hq with rfl | hq
      · exact b
      · exact c q hq⟩
def spStep (K : PySem.W.Frag) : Sp := fun vs H Q _ => ∃ (v c : V) (d dc : PyData) (ns : List Str) (M : Int), vs = [v, c, .int M] ∧ Dp K H v d ∧ Dp K H c dc ∧ (dc = .tuple (ns.map .str) ∨ dc = .list (ns.map .str)) ∧ ∀ H', Same H H' → Q (.bl (stepB ns M d)) H'
theorem rdc_step {K : PySem.W.Frag} {E : XK} {d dc : PyData} {ns : List Str} {M : Int} (h : dc = .tuple (ns.map .str) ∨ dc = .list (ns.map .str)) : RDC K (fun vs H Q => spStep K vs H Q E) [d, dc, .int M] (.bool (stepB ns M d)) := fun F vs H1 hv Q q => by
  cases hv with
  | cons a r =>
    cases r with
    | cons b r =>
      cases r with
      | cons c r => cases r; cases c; exact ⟨_, _, d, dc, ns, M, rfl, df_dp a, df_dp b, h, fun H' s => q _ H' s (.bl _)⟩
/-! ### marks -/
def upD (ds : List PyData) : Bool := (List.zipWith dataLt ds (ds.drop 1)).all id
def marksB (ns : List Str) (M : Int) (ds : List PyData) : Bool := ds.all (stepB ns M) && upD ds
def isMarks (ns : List Str) (M : Int) (d : PyData) : Bool := listB d && marksB ns M (partsD d)
def pairM : PyData → PyData | .tuple [a, b] => .bool (dataLt a b) | _ => .bool false
theorem pairM_zip (ds es : List PyData) : (zipD ds es).map pairM = (List.zipWith dataLt ds es).map .bool := by
  induction ds generalizing es with
  | nil => rfl
  | cons d ds ih =>
    cases es with
    | nil => rfl
    | cons e es =>
      show PyData.bool (dataLt d e) :: (zipD ds es).map pairM = _
      rw [ih es]; rfl
theorem upD_pairs (ps : List Pr) : upD (ps.map pairD) = upP ps := by
  unfold upD upP
  rw [← List.map_drop, List.zipWith_map]
  congr 1
  congr 1
  funext p q
  exact dataLt_pair p q
theorem cut_one0 (ds : List PyData) : cutD ds (some 1) none = ds.drop 1 := by
  by_cases h : 1 ≤ ds.length
  · exact cut_one h
  · have : ds = [] := List.eq_nil_of_length_eq_zero (by omega)
    subst this; rfl
def spMarks (K : PySem.W.Frag) : Sp := fun vs H Q _ => ∃ (v c : V) (d dc : PyData) (ns : List Str) (M : Int), vs = [v, c, .int M] ∧ Dp K H v d ∧ gd d = true ∧ Dp K H c dc ∧ (dc = .tuple (ns.map .str) ∨ dc = .list (ns.map .str)) ∧ ∀ H', Same H H' → Q (.bl (isMarks ns M d)) H'
theorem rdc_marks {K : PySem.W.Frag} {E : XK} {d dc : PyData} {ns : List Str} {M : Int} (g : gd d = true) (h : dc = .tuple (ns.map .str) ∨ dc = .list (ns.map .str)) : RDC K (fun vs H Q => spMarks K vs H Q E) [d, dc, .int M] (.bool (isMarks ns M d)) := fun F vs H1 hv Q q => by
  cases hv with
  | cons a r =>
    cases r with
    | cons b r =>
      cases r with
      | cons c r => cases r; cases c; exact ⟨_, _, d, dc, ns, M, rfl, df_dp a, g, df_dp b, h, fun H' s => q _ H' s (.bl _)⟩
section
variable {P : Program} {w : World} {K : PySem.W.Frag} {mg : Str → Option Value} {base : Heap} (T : Txt w K mg)
theorem ok_is_step : FnOk P w K mg base CX0 2 T.a_is_step T.d_is_step ["value", "calls", "many"] (spStep K) := by
  have G_is_whole := ok_is_whole (P := P) (base := base) T
  refine T.D_is_step.fn.ok sc_is_step (fun vs H Q E h => ?_) (fun cdv A outer s H vs Q E hr h => ?_)
  · obtain ⟨v, c, d, dc, ns, M, rfl, _⟩ := h; rfl
  · obtain ⟨v, c, d, dc, ns, M, rfl, hv, hc, hdc, k⟩ := h
    refine ⟨_, (pss_cons (ps_if (PW.pt (pw_or (pt_not (pt_val (pe_callB call_isi (by rfl) T.b_isinstance bt_isinstance (pa_cons (pv 0) (pa_cons (pe_bltn (v := .ty "tuple") (by rfl) T.b_tuple bt_tuple rfl) pa_nil))))) (pw_or (pt_cmpR op_ne (pe_callB call_len (by rfl) T.b_len bt_len (pa_cons (pv 0) pa_nil)) pe_int (nomark _)) (pw_or1 (pt_not (pt_val (pe_call (G_is_whole) (hr.mono (by omega)) (by rfl) T.D_is_whole.mg T.D_is_whole.fn.kp T.D_is_whole.bd .nil pass0 (pa_cons (pe_ix ix_seq (pv 0) pe_int (fun _ _ => rfl)) (pa_cons pe_int (pa_cons (pe_op op_sub (pv 2) pe_int) pa_nil)))))))))) (pss_one (ps_ret pe_bl)) pss_nil)
      (pss_one (ps_ret (pe_and (pe_callB call_isi (by rfl) T.b_isinstance bt_isinstance (pa_cons (pe_ix ix_seq (pv 0) pe_int (fun _ _ => rfl)) (pa_cons (pe_bltn (v := .ty "str") (by rfl) T.b_str bt_str rfl) pa_nil))) (pe_one (pe_cmpR op_in_seq (pe_ix ix_seq (pv 0) pe_int (fun _ _ => rfl)) (pv 1) (by rfl))))))), ?_⟩
    have hv0 : ∀ H1, Same H H1 → Df K (nn H) H1 v d := fun H1 s1 => df_mono s1 (fun _ z => z) (dp_df hv)
    have hc0 : ∀ H1, Same H H1 → Df K (nn H) H1 c dc := fun H1 s1 => df_mono s1 (fun _ z => z) (dp_df hc)
    have x0 : ∀ H1, Same H H1 → ED K (tVar 0) (start ["value", "calls", "many"] [v, c, .int M]) (nn H) H1 d := fun H1 s1 => ed_var rfl (hv0 H1 s1)
    have x1 : ∀ H1, Same H H1 → ED K (tVar 1) (start ["value", "calls", "many"] [v, c, .int M]) (nn H) H1 dc := fun H1 s1 => ed_var rfl (hc0 H1 s1)
    have isi := ed_isi (T := "tuple") (x0 H (Same.refl _)) (.inr (.inl rfl))
    cases d with
    | tuple xs =>
      by_cases h2 : xs.length = 2
      · obtain ⟨a, b, rfl⟩ : ∃ a b, xs = [a, b] := by
          match xs, h2 with
          | [a, b], _ => exact ⟨a, b, rfl⟩
        refine s_if (b := !wholeB a 0 (M - 1)) (et_is (et_or (et_not (et_B isi)) fun _ => et_or (et_test (ed_neI (ed_len (x0 H (Same.refl _)) rfl) ed_int)) fun _ => et_not (et_B (ed_call (ea_cons (ed_ixT (j := 0) (x0 H (Same.refl _)) ed_int rfl) (ea_cons ed_int (ea_cons (ed_sub (ed_var (i := 2) rfl (.int M)) ed_int) ea_nil))) rdc_whole))) ?_) (fun h H1 s1 => ?_) (fun h H1 s1 => ?_)
        · rfl
        · have e : stepB ns M (.tuple [a, b]) = false := by
            have h : wholeB a 0 (M - 1) = false := by simpa using h
            cases b with
            | str x =>
              show (wholeB a 0 (M - 1) && _) = false
              rw [h]; rfl
            | _ => rfl
          have := k H1 s1
          rw [e] at this; exact this
        · have h : wholeB a 0 (M - 1) = true := by simpa using h
          cases b with
          | str x =>
            refine s_retB (F := nn H) (ed_andV (ed_isi (T := "str") (ed_ixT (j := 1) (x0 H1 s1) ed_int rfl) (.inl rfl)) fun _ => ed_inSeq (xs := ns) (ed_ixT (j := 1) (x0 H1 s1) ed_int rfl) (x1 H1 s1) hdc) ?_ fun H2 s2 => k H2 (s1.trans s2)
            show (true && decide (x ∈ ns)) = (wholeB a 0 (M - 1) && decide (x ∈ ns))
            rw [h]
          | _ => exact s_retB (F := nn H) (ed_andV (b := true) (ed_isi (T := "str") (ed_ixT (j := 1) (x0 H1 s1) ed_int rfl) (.inl rfl)) fun h => absurd h (by simp [isiB])) (by rfl) fun H2 s2 => k H2 (s1.trans s2)
      · have e : stepB ns M (.tuple xs) = false := by
          cases z : stepB ns M (.tuple xs) with
          | false => rfl
          | true =>
            obtain ⟨p, e, _⟩ := step_pair z
            unfold pairD at e
            injection e with e
            exact absurd (by rw [e]; rfl) h2
        have ne : decide (((xs.length : Nat) : Int) = 2) = false := decide_eq_false (by omega)
        refine s_if (b := true) (et_is (et_or (et_not (et_B isi)) fun _ => et_or (a := true) (b := true) (et_is (et_test (ed_neI (ed_len (x0 H (Same.refl _)) rfl) ed_int)) (by show (!decide (((xs.length : Nat) : Int) = 2)) = true; rw [ne]; rfl)) fun h => nomatch h) rfl) (fun _ H1 s1 => ?_) fun h => nomatch h
        have := k H1 s1
        rw [e] at this; exact this
    | _ => exact s_if (b := true) (et_is (et_or (b := true) (et_not (et_B isi)) fun h => nomatch h) rfl) (fun _ H1 s1 => k H1 s1) fun h => nomatch h
theorem ok_are_marks : FnOk P w K mg base CX0 3 T.a_are_marks T.d_are_marks ["value", "calls", "many"] (spMarks K) := by
  have G_is_listed := ok_is_listed (P := P) (base := base) T
  have G_is_step := ok_is_step (P := P) (base := base) T
  refine T.D_are_marks.fn.ok sc_are_marks (fun vs H Q E h => ?_) (fun cdv A outer s H vs Q E hr h => ?_)
  · obtain ⟨v, c, d, dc, ns, M, rfl, _⟩ := h; rfl
  · obtain ⟨v, c, d, dc, ns, M, rfl, hv, hd, hc, hdc, k⟩ := h
    refine ⟨_, (pss_cons (ps_if (PW.pt (pw_or (pt_not (pt_val (pe_call (G_is_listed) (hr.mono (by omega)) (by rfl) T.D_is_listed.mg T.D_is_listed.fn.kp T.D_is_listed.bd .nil pass0 (pa_cons (pv 0) pa_nil)))) (pw_or1 (pt_not (pt_val (pe_callB (cr_all rfl) (by rfl) T.b_all bt_all (pa_cons (pe_lc (own := [("step", 3)]) rfl sc_are_marks.nd (pi_ve (pv 0)) (blkOk_by (own := [("step", 3)]) (N := ["value", "calls", "many", "step", "one", "two"]) (sc := defScope s_are_marks) (by decide +kernel)) (fun _ _ _ _ _ => (pg_name (i := 3) sc_are_marks.nd rfl (by first | exact Or.inl rfl | exact Or.inr rfl))) (fun _ _ _ _ _ => pts_nil) (fun _ _ _ _ _ => (pe_call (G_is_step) (hr.mono (by omega)) (by rfl) T.D_is_step.mg T.D_is_step.fn.kp T.D_is_step.bd .nil pass0 (pa_cons (pv 3) (pa_cons (pv 1) (pa_cons (pv 2) pa_nil)))))) pa_nil))))))) (pss_one (ps_ret pe_bl)) pss_nil)
      (pss_one (ps_ret (pe_callB (cr_all rfl) (by rfl) T.b_all bt_all (pa_cons (pe_lc (own := [("one", 4), ("two", 5)]) (g := (gTup K 2 (gCons (gName 4) (gCons (gName 5) gNil)))) rfl sc_are_marks.nd (RZ.pi_zipA (by rfl) T.b_zip (pa_cons (pv 0) (pa_cons (pe_slice sl_either (pv 0) (po_some pe_int) po_none) pa_nil))) (blkOk_by (own := [("one", 4), ("two", 5)]) (N := ["value", "calls", "many", "step", "one", "two"]) (sc := defScope s_are_marks) (by decide +kernel)) (fun _ _ _ _ _ => (pg_tup rfl (pgs_cons (pg_name (i := 4) sc_are_marks.nd rfl (by first | exact Or.inl rfl | exact Or.inr rfl)) (pgs_cons (pg_name (i := 5) sc_are_marks.nd rfl (by first | exact Or.inl rfl | exact Or.inr rfl)) pgs_nil)))) (fun _ _ _ _ _ => pts_nil) (fun _ _ _ _ _ => (pe_cmpR (r := rLtD K) (op_ltD hr.units) (pv 4) (pv 5) (nomark _)))) pa_nil))))), ?_⟩
    have hv0 : ∀ H1, Same H H1 → Df K (nn H) H1 v d := fun H1 s1 => df_mono s1 (fun _ z => z) (dp_df hv)
    have hc0 : ∀ H1, Same H H1 → Df K (nn H) H1 c dc := fun H1 s1 => df_mono s1 (fun _ z => z) (dp_df hc)
    have x0 : ∀ H1, Same H H1 → ED K (tVar 0) (start ["value", "calls", "many", "step", "one", "two"] [v, c, .int M]) (nn H) H1 d := fun H1 s1 => ed_var rfl (hv0 H1 s1)
    cases hl : listB d with
    | false =>
      refine s_if (b := true) (et_is (et_or (b := true) (et_not (et_B (ed_call (ea_cons (x0 H (Same.refl _)) ea_nil) (rdc_spB (pre := fun _ => True) trivial)))) fun h => ?_) ?_) (fun _ H1 s1 => ?_) fun h => nomatch h
      · rw [hl] at h; cases h
      · rw [hl]; rfl
      · have := k H1 s1
        unfold isMarks at this; rw [hl] at this; exact this
    | true =>
      obtain ⟨ds, hds, hp⟩ := listed_of hl
      obtain ⟨g1, g2⟩ := gd_parts hds hd
      have e0 : isMarks ns M d = marksB ns M ds := by unfold isMarks; rw [hl, hp]; rfl
      rw [e0] at k
      refine s_if (b := !ds.all (stepB ns M)) (et_is (et_or (et_not (et_B (ed_call (ea_cons (x0 H (Same.refl _)) ea_nil) (rdc_spB (pre := fun _ => True) trivial)))) fun _ => et_not (et_B (ed_all (bs := ds.map (stepB ns M)) (ed_is (ed_lc (f := fun _ => true) (m := fun s => .bool (stepB ns M s)) (ei_ve (i := 0) rfl (hv0 H (Same.refl _)) hds) (by omega) fun F2 H2 e2 v2 d2 hm hd2 => ⟨(start ["value", "calls", "many", "step", "one", "two"] [v, c, .int M]).set 3 (some v2), fun Q q => q, rfl, et_yes, fun _ => ed_call (ea_cons (ed_var (i := 3) rfl hd2) (ea_cons (ed_var (i := 1) rfl (df_ext e2 (hc0 H (Same.refl _)))) (ea_cons (ed_var (i := 2) rfl (.int M)) ea_nil))) (rdc_step hdc)⟩) (by rw [filt_tt, List.map_map]; rfl))))) ?_) (fun h H1 s1 => ?_) (fun h H1 s1 => ?_)
      · rw [hl, List.all_map]; rfl
      · have := k H1 s1
        have e : marksB ns M ds = false := by
          unfold marksB
          rw [Bool.not_eq_true'] at h
          rw [h]; rfl
        rw [e] at this; exact this
      · have h : ds.all (stepB ns M) = true := by simpa using h
        have hh := List.all_eq_true.mp h
        refine s_retB (F := nn H) (ed_all (bs := List.zipWith dataLt ds (ds.drop 1)) (ed_is (ed_lc (f := fun _ => true) (m := pairM) (ei_zipE (ea_cons (x0 H1 s1) (ea_cons (ed_is (ed_slE (x0 H1 s1) hds (eo_some (ed_int (K := K) (F := nn H) (i := 1))) eo_none) (by rw [cut_one0])) ea_nil)) hds) ?_ fun F2 H2 e2 v2 d2 hm hd2 => ?_) ?_)) ?_ fun H2 s2 => k H2 (s1.trans s2)
        · unfold zipD; rw [List.length_zipWith]; omega
        · obtain ⟨a, b, rfl, ma, mb⟩ := mem_zipD hm
          obtain ⟨p, rfl, _⟩ := step_pair (hh a ma)
          obtain ⟨q, rfl, _⟩ := step_pair (hh b (List.mem_of_mem_drop mb))
          have dp := pair_depth p
          cases hd2 with
          | tup hts r =>
            cases r with
            | cons r1 r =>
              cases r with
              | cons r2 r =>
                cases r
                exact ⟨_, fun Q q => ⟨_, _, rfl, hts, rfl, _, _, rfl, _, _, rfl, rfl, q⟩, rfl, et_yes, fun _ => ed_ltD (ed_var rfl r1) (ed_var rfl r2) (alike_pair p q) (fun z => nomatch z) (by omega)⟩
        · rw [filt_tt, pairM_zip]
        · show upD ds = marksB ns M ds
          unfold marksB; rw [h]; rfl
end
end Ag

set_option Elab.async false
set_option linter.all false
set_option maxRecDepth 100000
set_option maxHeartbeats 1000000
set_option pp.maxSteps 300
namespace Ag
open PySem PySem.Spec PyProof.Rows L2
/-! ### what stands at an address is no data -/
def NoDat (H : Hp) (a : Addr) : Prop := ∀ o, H a = some o → (∀ xs, o ≠ .lst xs) ∧ (∀ xs, o ≠ .tup xs) ∧ ∀ x u, o ≠ .frz x u
theorem nodat_ins {H : Hp} {b C dx : Addr} {fs : List (Str × V)} (h : H b = some (.ins C dx fs)) : NoDat H b := fun o e => by
  rw [h] at e; cases e; exact ⟨fun _ z => (nomatch z), fun _ z => (nomatch z), fun _ _ z => nomatch z⟩
section
variable {K : PySem.W.Frag} {H H' : Hp} {b : Addr}
theorem NoDat.rd {a : Addr} {u : HO} (n : NoDat H b) (t : But b H H') (hu : (∃ xs, u = .lst xs) ∨ ∃ xs, u = .tup xs) (h : Rd H a u) : Rd H' a u := by
  rcases h with h | ⟨o, h⟩
  · refine .inl (t _ _ (fun e => ?_) h)
    subst e
    obtain ⟨h1, h2, _⟩ := n _ h
    rcases hu with ⟨xs, e⟩ | ⟨xs, e⟩
    · exact h1 _ e
    · exact h2 _ e
  · refine .inr ⟨o, t _ _ (fun e => ?_) h⟩
    subst e
    exact (n _ h).2.2 _ _ rfl
theorem NoDat.sl {a : Addr} {xs : List V} (n : NoDat H b) (t : But b H H') (h : SqL K H a xs) : SqL K H' a xs := h.imp (n.rd t (.inl ⟨_, rfl⟩)) id
theorem NoDat.st {a : Addr} {xs : List V} (n : NoDat H b) (t : But b H H') (h : SqT K H a xs) : SqT K H' a xs := h.imp (n.rd t (.inr ⟨_, rfl⟩)) id
mutual
theorem NoDat.dp (n : NoDat H b) (t : But b H H') : ∀ {v : V} {d : PyData}, Dp K H v d → Dp K H' v d
  | _, _, .non => .non
  | _, _, .bl c => .bl c
  | _, _, .int i => .int i
  | _, _, .str x => .str x
  | _, _, .lst q r => .lst (n.sl t q) (NoDat.dps n t r)
  | _, _, .tup q r => .tup (n.st t q) (NoDat.dps n t r)
theorem NoDat.dps (n : NoDat H b) (t : But b H H') : ∀ {vs : List V} {ds : List PyData}, DpAll K H vs ds → DpAll K H' vs ds
  | _, _, .nil => .nil
  | _, _, .cons q r => .cons (NoDat.dp n t q) (NoDat.dps n t r)
end
theorem But.upd {o : HO} : But b H (L2.upd H b o) := fun a u n e => by rw [upd_ne n]; exact e
end
/-! ### errors of two fields -/
def spEx2 (C : Addr) (f g : Str) : Sp := fun vs H Q _ => ∃ (a : Addr) (x y : V), vs = [.ref a, x, y] ∧ H a = some (exo a C none) ∧ ∀ (d : Addr) H', H d = none → d ≠ a → (∀ b o, b ≠ a → H b = some o → H' b = some o) → H' a = some (exo a C (some d)) → H' d = some (exd d [(g, y), (f, x)]) → Q .non H'
/-- what is let out -/
def Out2 (C : Addr) (f g : Str) (x y : V) (H : Hp) (E : XK) : Prop := ∀ d H', Same H H' → H d = none → H' d = some (.xd [(g, y), (f, x)]) → E (.ref C) (some d) H'
theorem Out2.same {C : Addr} {f g : Str} {x y : V} {H H1 : Hp} {E : XK} (s : Same H H1) (k : Out2 C f g x y H E) : Out2 C f g x y H1 E := fun d H' s2 hd e => k d H' (s.trans s2) (s.freshA hd) e
theorem raise2 {C : Addr} {f g w : Str} {σ : L2.St} {i : Nat} {y : V} {H : Hp} {E : XK} (hy : σ[i]? = some (some y)) (k : Out2 C f g (.str w) y H E) : tMkO C (spEx2 C f g) [] (tCons (tC (.str w)) (tCons (tVar i) tNil)) σ H E := by
  refine ⟨y, hy, (by decide : 2 ≤ 1000), fun a ha => ?_⟩
  refine ⟨a, .str w, y, rfl, upd_same, fun d H' hd nda keep ea ed => ⟨rfl, d, _, ea, ed, ?_, k d _ (fun b o e => ?_) ?_ upd_same⟩⟩
  · rw [upd_ne nda] at hd; exact hd
  · have nba : b ≠ a := ne_of_none e ha
    rw [upd_ne nda] at hd
    rw [upd_ne (ne_of_none e hd), del_ne nba]
    exact keep b o nba (by rw [upd_ne nba]; exact e)
  · rw [upd_ne nda] at hd; exact hd
section
variable {P : Program} {w : World} {K : PySem.W.Frag} {mg : Str → Option Value} {base : Heap} (T : Txt w K mg)
theorem ok_BadRow_init : FnOk P w K mg base CX0 1 T.a_BadRow___init__ T.d_BadRow___init__ ["self", "what", "row"] (spEx2 T.C_BadRow "what" "row") := by
  refine T.D_BadRow___init__.fn.ok sc_BadRow___init__ (fun vs H Q E h => ?_) (fun cdv A outer s H vs Q E hr h => ?_)
  · obtain ⟨a, x, y, rfl, _⟩ := h; rfl
  · obtain ⟨a, x, y, rfl, ha, k⟩ := h
    refine ⟨_, (pss_cons (ps_ost (pv 0) (pv 1))
      (pss_one (ps_ost (pv 0) (pv 2)))), ?_⟩
    refine ⟨_, rfl, _, rfl, a, T.C_BadRow, rfl, T.ox_BadRow, T.na_BadRow_what, .inl ⟨ha, fun d hd nda => ?_⟩⟩
    refine ⟨_, rfl, _, rfl, a, T.C_BadRow, rfl, T.ox_BadRow, T.na_BadRow_row, .inr ⟨d, [("what", x)], upd_same, by rw [upd_ne nda]; exact upd_same, Nat.le_of_ble_eq_true rfl, ?_⟩⟩
    refine k d _ hd nda (fun b o nb e => ?_) (by rw [upd_ne (Ne.symm nda)]; exact upd_same) upd_same
    have nbd : b ≠ d := ne_of_none e hd
    rw [upd_ne nbd, upd_ne nb, upd_ne nbd]; exact e
theorem ok_BadNumber_init : FnOk P w K mg base CX0 1 T.a_BadNumber___init__ T.d_BadNumber___init__ ["self", "what", "number"] (spEx2 T.C_BadNumber "what" "number") := by
  refine T.D_BadNumber___init__.fn.ok sc_BadNumber___init__ (fun vs H Q E h => ?_) (fun cdv A outer s H vs Q E hr h => ?_)
  · obtain ⟨a, x, y, rfl, _⟩ := h; rfl
  · obtain ⟨a, x, y, rfl, ha, k⟩ := h
    refine ⟨_, (pss_cons (ps_ost (pv 0) (pv 1))
      (pss_one (ps_ost (pv 0) (pv 2)))), ?_⟩
    refine ⟨_, rfl, _, rfl, a, T.C_BadNumber, rfl, T.ox_BadNumber, T.na_BadNumber_what, .inl ⟨ha, fun d hd nda => ?_⟩⟩
    refine ⟨_, rfl, _, rfl, a, T.C_BadNumber, rfl, T.ox_BadNumber, T.na_BadNumber_number, .inr ⟨d, [("what", x)], upd_same, by rw [upd_ne nda]; exact upd_same, Nat.le_of_ble_eq_true rfl, ?_⟩⟩
    refine k d _ hd nda (fun b o nb e => ?_) (by rw [upd_ne (Ne.symm nda)]; exact upd_same) upd_same
    have nbd : b ≠ d := ne_of_none e hd
    rw [upd_ne nbd, upd_ne nb, upd_ne nbd]; exact e
end
/-- where each call stands -/
def PlAt (ns : List Str) (kvs : List (Key × V)) : Prop := kvs.length ≤ ns.length ∧ ∀ s, (s ∉ ns ∧ valV kvs (.inr s) = none) ∨ ∃ i : Nat, ns[i]? = some s ∧ valV kvs (.inr s) = some (.int i)
theorem plat_snoc {ns : List Str} {kvs : List (Key × V)} {x : Str} (h : PlAt ns kvs) : PlAt (ns ++ [x]) (putK kvs (.inr x) (.int (ns.length : Nat))) := by
  refine ⟨?_, fun s => ?_⟩
  · have := length_putK kvs (.inr x) (.int (ns.length : Nat))
    have := h.1
    rw [List.length_append]; show _ ≤ ns.length + 1; omega
  · rw [valV_put]
    by_cases e : s = x
    · rw [if_pos (by rw [e])]
      refine .inr ⟨ns.length, ?_, rfl⟩
      rw [List.getElem?_append_right (Nat.le_refl _), Nat.sub_self, e]; rfl
    · rw [if_neg (fun z => e (Sum.inr.inj z))]
      rcases h.2 s with ⟨h1, h2⟩ | ⟨i, h1, h2⟩
      · exact .inl ⟨fun m => (List.mem_append.mp m).elim h1 fun m => e (List.mem_singleton.mp m), h2⟩
      · exact .inr ⟨i, by rw [List.getElem?_append_left (List.getElem?_eq_some_iff.mp h1).1]; exact h1, h2⟩
/-! ### the machine -/
theorem lookF_ne {f g : Str} {v : V} {r : List (Str × V)} (h : (f == g) = false) : List.lookup f ((g, v) :: r) = List.lookup f r := by
  rw [List.lookup_cons, h]
structure OkR (n : Nat) (rs : List (List Int)) : Prop where
  pos : 1 ≤ rs.length
  top : rs.length ≤ 1000
  row : ∀ r ∈ rs, r.length = n ∧ ∀ i ∈ r, 0 ≤ i ∧ i < (rs.length : Int)
def rowsD (rs : List (List Int)) : PyData := .tuple (rs.map fun r => .tuple (r.map .int))
def machFs (ca : Addr) (rv mv : V) (pd md : Addr) : List (Str × V) := [("calls", .ref ca), ("rows", rv), ("marks", mv), ("_place", .ref pd), ("_marked", .ref md)]
/-- which steps are marked -/
def MkAt (ps : List Pr) (km : List (List Key × V)) : Prop := km.length ≤ ps.length ∧ ∀ q : Pr, (valV km (pairK q)).isSome = decide (q ∈ ps)
theorem mkat_snoc {ps : List Pr} {km : List (List Key × V)} {p : Pr} {v : V} (h : MkAt ps km) : MkAt (ps ++ [p]) (putK km (pairK p) v) := by
  refine ⟨?_, fun q => ?_⟩
  · have := length_putK km (pairK p) v
    have := h.1
    rw [List.length_append]; show _ ≤ ps.length + 1; omega
  · rw [valV_put]
    by_cases e : q = p
    · subst e
      rw [if_pos rfl, decide_eq_true (List.mem_append_right _ List.mem_cons_self)]; rfl
    · rw [if_neg (fun z => e (pairK_inj z)), h.2 q]
      by_cases k : q ∈ ps
      · rw [decide_eq_true k, decide_eq_true (List.mem_append_left _ k)]
      · rw [decide_eq_false k, decide_eq_false (fun z => (List.mem_append.mp z).elim k fun z => e (List.mem_singleton.mp z))]
/-- the machine's object, its tables where N allows -/
def MachN (K : PySem.W.Frag) (C : Addr) (N : Addr → Prop) (b : Addr) (ns : List Str) (rs : List (List Int)) (ps : List Pr) (H : Hp) : Prop :=
  ∃ (dx ca : Addr) (rv mv : V) (pd md : Addr) (kp : List (Key × V)) (km : List (List Key × V)), H b = some (.ins C dx (machFs ca rv mv pd md)) ∧ SqT K H ca (ns.map V.str) ∧ Dp K H rv (rowsD rs) ∧ Dp K H mv (.tuple (ps.map pairD)) ∧ H pd = some (.dK kp) ∧ PlAt ns kp ∧ H md = some (.dT km) ∧ MkAt ps km ∧ N pd ∧ N md
def MachAt (K : PySem.W.Frag) (C b : Addr) (ns : List Str) (rs : List (List Int)) (ps : List Pr) (H : Hp) : Prop := MachN K C (fun _ => True) b ns rs ps H
theorem MachN.at_ {K : PySem.W.Frag} {C : Addr} {N : Addr → Prop} {b : Addr} {ns : List Str} {rs : List (List Int)} {ps : List Pr} {H : Hp} (h : MachN K C N b ns rs ps H) : MachAt K C b ns rs ps H := by
  obtain ⟨dx, ca, rv, mv, pd, md, kp, km, h1, h2, h3, h4, h5, h6, h7, h8, _⟩ := h
  exact ⟨dx, ca, rv, mv, pd, md, kp, km, h1, h2, h3, h4, h5, h6, h7, h8, trivial, trivial⟩
theorem MachN.same {K : PySem.W.Frag} {C : Addr} {N : Addr → Prop} {b : Addr} {ns : List Str} {rs : List (List Int)} {ps : List Pr} {H H' : Hp} (s : Same H H') (h : MachN K C N b ns rs ps H) : MachN K C N b ns rs ps H' := by
  obtain ⟨dx, ca, rv, mv, pd, md, kp, km, h1, h2, h3, h4, h5, h6, h7, h8, h9⟩ := h
  exact ⟨dx, ca, rv, mv, pd, md, kp, km, s _ _ h1, s.stA h2, dp_mono s h3, dp_mono s h4, s _ _ h5, h6, s _ _ h7, h8, h9⟩
theorem MachAt.same {K : PySem.W.Frag} {C b : Addr} {ns : List Str} {rs : List (List Int)} {ps : List Pr} {H H' : Hp} (s : Same H H') (h : MachAt K C b ns rs ps H) : MachAt K C b ns rs ps H' := MachN.same s h
theorem fb1 : ¬ (("calls" : Str) = "rows") := by decide +kernel
theorem fb2 : ¬ (("calls" : Str) = "marks") := by decide +kernel
theorem fb3 : ¬ (("calls" : Str) = "_place") := by decide +kernel
theorem fb4 : ¬ (("calls" : Str) = "_marked") := by decide +kernel
theorem fb5 : ¬ (("rows" : Str) = "marks") := by decide +kernel
theorem fb6 : ¬ (("rows" : Str) = "_place") := by decide +kernel
theorem fb7 : ¬ (("rows" : Str) = "_marked") := by decide +kernel
theorem fb8 : ¬ (("marks" : Str) = "_place") := by decide +kernel
theorem fb9 : ¬ (("marks" : Str) = "_marked") := by decide +kernel
theorem fb10 : ¬ (("_place" : Str) = "_marked") := by decide +kernel
theorem putF_ne {f g : Str} {v w : V} {r : List (Str × V)} (h : ¬ (f = g)) : putF g w ((f, v) :: r) = (f, v) :: putF g w r := by
  show (if f = g then _ else (f, v) :: putF g w r) = _
  rw [if_neg h]
theorem put_rows {x y : V} : putF "rows" y (putF "calls" x []) = ([("calls", x), ("rows", y)] : List (Str × V)) := by
  show putF "rows" y [("calls", x)] = _
  rw [putF_ne fb1]; rfl
theorem put_marks {x y z : V} : putF "marks" z ([("calls", x), ("rows", y)] : List (Str × V)) = ([("calls", x), ("rows", y), ("marks", z)] : List (Str × V)) := by
  rw [putF_ne fb2, putF_ne fb5]; rfl
theorem put_place {x y z u : V} : putF "_place" u ([("calls", x), ("rows", y), ("marks", z)] : List (Str × V)) = ([("calls", x), ("rows", y), ("marks", z), ("_place", u)] : List (Str × V)) := by
  rw [putF_ne fb3, putF_ne fb6, putF_ne fb8]; rfl
theorem put_marked {x y z u t : V} : putF "_marked" t ([("calls", x), ("rows", y), ("marks", z), ("_place", u)] : List (Str × V)) = ([("calls", x), ("rows", y), ("marks", z), ("_place", u), ("_marked", t)] : List (Str × V)) := by
  rw [putF_ne fb4, putF_ne fb7, putF_ne fb9, putF_ne fb10]; rfl
theorem lk1 : (("rows" : Str) == "calls") = false := by decide +kernel
theorem lk2 : (("marks" : Str) == "calls") = false := by decide +kernel
theorem lk3 : (("marks" : Str) == "rows") = false := by decide +kernel
theorem lk4 : (("_place" : Str) == "calls") = false := by decide +kernel
theorem lk5 : (("_place" : Str) == "rows") = false := by decide +kernel
theorem lk6 : (("_place" : Str) == "marks") = false := by decide +kernel
theorem lk7 : (("_marked" : Str) == "calls") = false := by decide +kernel
theorem lk8 : (("_marked" : Str) == "rows") = false := by decide +kernel
theorem lk9 : (("_marked" : Str) == "marks") = false := by decide +kernel
theorem lk10 : (("_marked" : Str) == "_place") = false := by decide +kernel
section
variable {ca pd md : Addr} {rv mv : V} {r : List (Str × V)}
theorem lf_rows {x : V} : List.lookup ("rows" : Str) (("calls", x) :: ("rows", rv) :: r) = some rv := by rw [lookF_ne lk1]; rfl
theorem lf_marks {x : V} : List.lookup ("marks" : Str) (("calls", x) :: ("rows", rv) :: ("marks", mv) :: r) = some mv := by rw [lookF_ne lk2, lookF_ne lk3]; rfl
theorem bf_calls : List.lookup ("calls" : Str) (machFs ca rv mv pd md) = some (V.ref ca) := rfl
theorem bf_rows : List.lookup ("rows" : Str) (machFs ca rv mv pd md) = some rv := lf_rows
theorem bf_marks : List.lookup ("marks" : Str) (machFs ca rv mv pd md) = some mv := lf_marks
theorem bf_place : List.lookup ("_place" : Str) (machFs ca rv mv pd md) = some (V.ref pd) := by unfold machFs; rw [lookF_ne lk4, lookF_ne lk5, lookF_ne lk6]; rfl
theorem bf_marked : List.lookup ("_marked" : Str) (machFs ca rv mv pd md) = some (V.ref md) := by unfold machFs; rw [lookF_ne lk7, lookF_ne lk8, lookF_ne lk9, lookF_ne lk10]; rfl
theorem bf_no {m : Str} (h : (m == "calls") = false ∧ (m == "rows") = false ∧ (m == "marks") = false ∧ (m == "_place") = false ∧ (m == "_marked") = false) : (machFs ca rv mv pd md).lookup m = none := by
  unfold machFs
  rw [lookF_ne h.1, lookF_ne h.2.1, lookF_ne h.2.2.1, lookF_ne h.2.2.2.1, lookF_ne h.2.2.2.2]; rfl
end
/-- a field of an instance, as data -/
theorem ed_fldI {K : PySem.W.Frag} {σ : L2.St} {F : Addr → Prop} {H : Hp} {i : Nat} {b C dx : Addr} {fs : List (Str × V)} {f : Str} {v : V} {d : PyData} (h : σ[i]? = some (some (.ref b))) (hb : H b = some (.ins C dx fs)) (c : Cls K C) (n : NoAttr K C f) (l : fs.lookup f = some v) (hd : Df K F H v d) : ED K (tFld K (tVar i) f) σ F H d :=
  fun H1 s Q q => ⟨_, h, b, C, dx, fs, v, rfl, s _ _ hb, c, n, l, q v H1 (Same.refl _) (df_mono s Fr.base hd)⟩
end Ag

set_option Elab.async false
set_option linter.all false
set_option maxRecDepth 100000
set_option maxHeartbeats 2000000
set_option pp.maxSteps 300
namespace Ag
open PySem PySem.Spec PyProof.Rows L2
/-! ### what right calls and rows are -/
theorem names_of : ∀ {ds : List PyData}, ds.all isName = true → ∃ ns : List Str, ds = ns.map .str
  | [], _ => ⟨[], rfl⟩
  | d :: ds, h => by
    rw [List.all_cons, Bool.and_eq_true] at h
    obtain ⟨x, rfl⟩ := name_str h.1
    obtain ⟨ns, rfl⟩ := names_of h.2
    exact ⟨x :: ns, rfl⟩
theorem ints_of {a b : Int} : ∀ {ds : List PyData}, ds.all (fun x => wholeB x a b) = true → ∃ is : List Int, ds = is.map .int ∧ ∀ i ∈ is, a ≤ i ∧ i ≤ b
  | [], _ => ⟨[], rfl, fun i h => by cases h⟩
  | d :: ds, h => by
    rw [List.all_cons, Bool.and_eq_true] at h
    obtain ⟨i, rfl⟩ := whole_int h.1
    obtain ⟨is, rfl, hi⟩ := ints_of h.2
    have h1 : (decide (a ≤ i) && decide (i ≤ b)) = true := h.1
    rw [Bool.and_eq_true, decide_eq_true_eq, decide_eq_true_eq] at h1
    exact ⟨i :: is, rfl, fun j hj => (List.mem_cons.mp hj).elim (fun e => e ▸ h1) (hi j)⟩
def rowsL (rs : List (List Int)) : List PyData := rs.map fun r => .tuple (r.map .int)
theorem rows_of {n : Int} {M : Nat} : ∀ {ds : List PyData}, ds.all (rowB n M) = true → ∃ rs : List (List Int), ds = rowsL rs ∧ ∀ r ∈ rs, (r.length : Int) = n ∧ ∀ i ∈ r, 0 ≤ i ∧ i < M
  | [], _ => ⟨[], rfl, fun r h => by cases h⟩
  | d :: ds, h => by
    rw [List.all_cons, Bool.and_eq_true] at h
    obtain ⟨rs, rfl, hr⟩ := rows_of h.2
    cases d with
    | tuple xs =>
      have h1 : (decide ((xs.length : Int) = n) && xs.all fun x => wholeB x 0 ((M : Int) - 1)) = true := h.1
      rw [Bool.and_eq_true, decide_eq_true_eq] at h1
      obtain ⟨is, rfl, hi⟩ := ints_of h1.2
      refine ⟨is :: rs, rfl, fun r hm => (List.mem_cons.mp hm).elim (fun e => ?_) (hr r)⟩
      subst e
      refine ⟨by have := h1.1; rw [List.length_map] at this; exact this, fun i him => ?_⟩
      have := hi i him; omega
    | _ => cases h.1
theorem calls_of {d : PyData} (h : isCalls d = true) : ∃ ns : List Str, (d = .list (ns.map .str) ∨ d = .tuple (ns.map .str)) ∧ 1 ≤ ns.length ∧ ns.length ≤ 6 := by
  unfold isCalls at h
  rw [Bool.and_eq_true] at h
  obtain ⟨ds, hd, e⟩ := listed_of h.1
  have h2 := h.2
  rw [e] at h2
  unfold callsB at h2
  simp only [Bool.and_eq_true, decide_eq_true_eq] at h2
  obtain ⟨ns, rfl⟩ := names_of h2.1.2
  have l := h2.1.1
  rw [List.length_map] at l
  exact ⟨ns, hd, by omega, by omega⟩
theorem rows_ok {d : PyData} {n : Nat} (h : isRows d n = true) (g : gd d = true) : ∃ rs : List (List Int), (d = .list (rowsL rs) ∨ d = .tuple (rowsL rs)) ∧ OkR n rs := by
  unfold isRows at h
  rw [Bool.and_eq_true] at h
  obtain ⟨ds, hd, e⟩ := listed_of h.1
  have h2 := h.2
  rw [e] at h2
  unfold rowsB at h2
  rw [Bool.and_eq_true] at h2
  obtain ⟨rs, rfl, hr⟩ := rows_of h2.2
  have ll : (rowsL rs).length = rs.length := List.length_map _
  have g2 := (gd_parts hd g).2
  rw [ll] at g2
  have h0 : ¬ ((rs.length : Int) = 0) := by have := h2.1; rw [ll] at this; simpa using this
  rw [ll] at hr
  exact ⟨rs, hd, by omega, g2, fun r hm => by obtain ⟨a, b⟩ := hr r hm; exact ⟨by omega, b⟩⟩
theorem marks_of {d : PyData} {ns : List Str} {M : Int} (h : isMarks ns M d = true) : ∃ ps : List Pr, (d = .list (ps.map pairD) ∨ d = .tuple (ps.map pairD)) ∧ partsD d = ps.map pairD ∧ ∀ p ∈ ps, 0 ≤ p.1 ∧ p.1 < M ∧ p.2 ∈ ns := by
  unfold isMarks at h
  rw [Bool.and_eq_true] at h
  obtain ⟨ds, hd, e⟩ := listed_of h.1
  have h2 := h.2
  rw [e] at h2
  unfold marksB at h2
  rw [Bool.and_eq_true] at h2
  obtain ⟨ps, rfl, b⟩ := steps_pairs h2.1
  exact ⟨ps, hd, e, b⟩
theorem rowsT_of {d : PyData} {rs : List (List Int)} (h : d = .list (rowsL rs) ∨ d = .tuple (rowsL rs)) : rowsT d = rowsD rs := by
  have e : partsD d = rowsL rs := by rcases h with rfl | rfl <;> rfl
  unfold rowsT rowsD
  rw [e]; unfold rowsL; rw [List.map_map]; rfl
theorem seq_parts (d : PyData) : seqOf d = partsD d := by cases d <;> rfl
theorem seq_listed {d : PyData} (h : listB d = true) : isSeq d = true := by
  obtain ⟨ds, hd, _⟩ := listed_of h
  rcases hd with rfl | rfl <;> rfl
section
variable {K : PySem.W.Frag} {σ : L2.St} {F : Addr → Prop} {H : Hp} {tv : TE} {d : PyData} {D : Ends} {b C dx : Addr} {fs : List (Str × V)} {f : Str}
theorem s_fldD {i : Nat} (hi : σ[i]? = some (some (.ref b))) (h : ED K tv σ F H d) (hb : H b = some (.ins C dx fs)) (c : Cls K C) (n : NoAttr K C f) (l : fs.length < 1000) (k : ∀ y H1, Same H H1 → Df K (Fr F H) H1 y d → D.nx σ (upd H1 b (.ins C dx (putF f y fs)))) : sFld K (tVar i) tv f D σ H :=
  h H (Same.refl _) _ fun y H1 s hy => ⟨_, hi, b, C, dx, fs, rfl, s _ _ hb, c, n, l, k y H1 s hy⟩
end

/-- where v tells pairs, each of them stands by itself -/
def Live (K : PySem.W.Frag) (H : Hp) (v : V) (d : PyData) : Prop := ∀ ps : List Pr, listB d = true → partsD d = ps.map pairD → ∃ (ma : Addr) (ks : List (Addr × List Key)), v = .ref ma ∧ (SqL K H ma (ks.map fun z => V.ref z.1) ∨ SqT K H ma (ks.map fun z => V.ref z.1)) ∧ ks.map Prod.snd = ps.map pairK ∧ ∀ z ∈ ks, H z.1 = some (.tup (z.2.map kV))
theorem Live.same {K : PySem.W.Frag} {H H' : Hp} {v : V} {d : PyData} (s : Same H H') (h : Live K H v d) : Live K H' v d := fun ps l e => let ⟨ma, ks, e1, e2, e3, e4⟩ := h ps l e; ⟨ma, ks, e1, e2.imp s.slA s.stA, e3, fun z hz => s _ _ (e4 z hz)⟩
section
variable {K : PySem.W.Frag} {σ : L2.St} {H : Hp}
/-- tuple(x), x a list or a tuple -/
theorem run_tupleOf {i : Nat} {a : Addr} {xs : List V} {Q : VK} (h : σ[i]? = some (some (.ref a))) (sq : SqL K H a xs ∨ SqT K H a xs) (k : ∀ l H1, Same H H1 → SqT K H1 l xs → Q (.ref l) H1) :
    tCB (fun xs H Q => ∃ p ys, xs = [.ref p] ∧ ((SqL K H p ys ∧ ∀ l, H l = none → Q (.ref l) (upd H l (.tup ys))) ∨ (SqT K H p ys ∧ Q (.ref p) H))) (tCons (tVar i) tNil) σ H Q := by
  refine ⟨_, h, a, xs, rfl, ?_⟩
  rcases sq with sq | sq
  · exact .inl ⟨sq, fun l hl => k l _ (Same.newA hl) (.of upd_same)⟩
  · exact .inr ⟨sq, k a H (Same.refl _) sq⟩
end
/-- calls, rows, marks at the empty dict -/
def spCallsD : Sp := fun vs H Q _ => ∃ a, vs = [.ref a] ∧ H a = some (.dK []) ∧ ∀ H', Same H H' → Q (.bl false) H'
def spRowsD : Sp := fun vs H Q _ => ∃ a n, vs = [.ref a, .int n] ∧ H a = some (.dK []) ∧ ∀ H', Same H H' → Q (.bl false) H'
def spMarksD : Sp := fun vs H Q _ => ∃ a c n, vs = [.ref a, c, .int n] ∧ H a = some (.dK []) ∧ ∀ H', Same H H' → Q (.bl false) H'
section
variable {P : Program} {w : World} {K : PySem.W.Frag} {mg : Str → Option Value} {base : Heap} (T : Txt w K mg)
theorem ok_are_calls_d : FnOk P w K mg base CX0 2 T.a_are_calls T.d_are_calls ["value"] spCallsD := by
  have G_is_name := ok_is_name (P := P) (base := base) T
  have G_is_listed := ok_is_listed_d (P := P) (base := base) T
  refine T.D_are_calls.fn.ok sc_are_calls (fun vs H Q E h => ?_) (fun cdv A outer s H vs Q E hr h => ?_)
  · obtain ⟨a, rfl, _⟩ := h; rfl
  · obtain ⟨a, rfl, ha, k⟩ := h
    refine ⟨_, (pss_cons (ps_if (PW.pt (pw_or (pt_not (pt_val (pe_call (G_is_listed) (hr.mono (by omega)) (by rfl) T.D_is_listed.mg T.D_is_listed.fn.kp T.D_is_listed.bd .nil pass0 (pa_cons (pv 0) pa_nil)))) (pw_or (pt_not (pt_chain op_le op_le pe_int (pe_callB call_len (by rfl) T.b_len bt_len (pa_cons (pv 0) pa_nil)) (pe_glob (v := .int 6) (by rfl) T.g_MOST_CALLS ⟨_, rfl⟩))) (pw_or1 (pt_not (pt_val (pe_callB (cr_all rfl) (by rfl) T.b_all bt_all (pa_cons (pe_lc (own := [("call", 1)]) rfl sc_are_calls.nd (pi_ve (pv 0)) (blkOk_by (own := [("call", 1)]) (N := ["value", "call", "one", "two"]) (sc := defScope s_are_calls) (by decide +kernel)) (fun _ _ _ _ _ => (pg_name (i := 1) sc_are_calls.nd rfl (by first | exact Or.inl rfl | exact Or.inr rfl))) (fun _ _ _ _ _ => pts_nil) (fun _ _ _ _ _ => (pe_call (G_is_name) (hr.mono (by omega)) (by rfl) T.D_is_name.mg T.D_is_name.fn.kp T.D_is_name.bd .nil pass0 (pa_cons (pv 1) pa_nil)))) pa_nil)))))))) (pss_one (ps_ret pe_bl)) pss_nil)
      (pss_one (ps_ret (pe_callB (cr_all rfl) (by rfl) T.b_all bt_all (pa_cons (pe_lc (own := [("one", 2), ("two", 3)]) (g := (gTup K 2 (gCons (gName 2) (gCons (gName 3) gNil)))) rfl sc_are_calls.nd (RZ.pi_zipA (by rfl) T.b_zip (pa_cons (pv 0) (pa_cons (pe_slice sl_either (pv 0) (po_some pe_int) po_none) pa_nil))) (blkOk_by (own := [("one", 2), ("two", 3)]) (N := ["value", "call", "one", "two"]) (sc := defScope s_are_calls) (by decide +kernel)) (fun _ _ _ _ _ => (pg_tup rfl (pgs_cons (pg_name (i := 2) sc_are_calls.nd rfl (by first | exact Or.inl rfl | exact Or.inr rfl)) (pgs_cons (pg_name (i := 3) sc_are_calls.nd rfl (by first | exact Or.inl rfl | exact Or.inr rfl)) pgs_nil)))) (fun _ _ _ _ _ => pts_nil) (fun _ _ _ _ _ => (pe_cmpR op_lt_str (pv 2) (pv 3) (nomark _)))) pa_nil))))), ?_⟩
    exact ⟨_, rfl, a, rfl, ha, fun H1 s1 => ⟨false, rfl, k H1 s1⟩⟩
theorem ok_are_rows_d : FnOk P w K mg base CX0 2 T.a_are_rows T.d_are_rows ["value", "width"] spRowsD := by
  have G_is_whole := ok_is_whole (P := P) (base := base) T
  have G_is_listed := ok_is_listed_d (P := P) (base := base) T
  refine T.D_are_rows.fn.ok sc_are_rows (fun vs H Q E h => ?_) (fun cdv A outer s H vs Q E hr h => ?_)
  · obtain ⟨a, n, rfl, _⟩ := h; rfl
  · obtain ⟨a, n, rfl, ha, k⟩ := h
    refine ⟨_, (pss_cons (ps_if (PW.pt (pw_or (pt_not (pt_val (pe_call (G_is_listed) (hr.mono (by omega)) (by rfl) T.D_is_listed.mg T.D_is_listed.fn.kp T.D_is_listed.bd .nil pass0 (pa_cons (pv 0) pa_nil)))) (pw_or1 (pt_cmpR op_eq (pe_callB (call_lenK (K := K) rfl) (by rfl) T.b_len bt_len (pa_cons (pv 0) pa_nil)) pe_int (nomark _))))) (pss_one (ps_ret pe_bl)) pss_nil)
      (pss_cons (ps_for PassesOwn.never rfl (pi_ve (pv 0)) (pg_name (i := 2) sc_are_rows.nd rfl (by first | exact Or.inl rfl | exact Or.inr rfl)) (pss_cons (ps_if (PW.pt (pw_or (pt_not (pt_val (pe_callB call_isi (by rfl) T.b_isinstance bt_isinstance (pa_cons (pv 2) (pa_cons (pe_bltn (v := .ty "tuple") (by rfl) T.b_tuple bt_tuple rfl) pa_nil))))) (pw_or1 (pt_cmpR op_ne (pe_callB call_len (by rfl) T.b_len bt_len (pa_cons (pv 2) pa_nil)) (pv 1) (nomark _))))) (pss_one (ps_ret pe_bl)) pss_nil)
      (pss_one (ps_if (pt_not (pt_val (pe_callB (cr_all rfl) (by rfl) T.b_all bt_all (pa_cons (pe_lc (own := [("state", 3)]) rfl sc_are_rows.nd (pi_tup (pv 2)) (blkOk_by (own := [("state", 3)]) (N := ["value", "width", "row", "state"]) (sc := defScope s_are_rows) (by decide +kernel)) (fun _ _ _ _ _ => (pg_name (i := 3) sc_are_rows.nd rfl (by first | exact Or.inl rfl | exact Or.inr rfl))) (fun _ _ _ _ _ => pts_nil) (fun _ _ _ _ _ => (pe_call (G_is_whole) (hr.mono (by omega)) (by rfl) T.D_is_whole.mg T.D_is_whole.fn.kp T.D_is_whole.bd .nil pass0 (pa_cons (pv 3) (pa_cons pe_int (pa_cons (pe_op op_sub (pe_callB (call_lenK (K := K) rfl) (by rfl) T.b_len bt_len (pa_cons (pv 0) pa_nil)) pe_int) pa_nil)))))) pa_nil)))) (pss_one (ps_ret pe_bl)) pss_nil))))
      (pss_one (ps_ret pe_bl)))), ?_⟩
    exact ⟨_, rfl, a, rfl, ha, fun H1 s1 => ⟨false, rfl, k H1 s1⟩⟩
theorem ok_are_marks_d : FnOk P w K mg base CX0 3 T.a_are_marks T.d_are_marks ["value", "calls", "many"] spMarksD := by
  have G_is_listed := ok_is_listed_d (P := P) (base := base) T
  have G_is_step := ok_is_step (P := P) (base := base) T
  refine T.D_are_marks.fn.ok sc_are_marks (fun vs H Q E h => ?_) (fun cdv A outer s H vs Q E hr h => ?_)
  · obtain ⟨a, c, n, rfl, _⟩ := h; rfl
  · obtain ⟨a, c, n, rfl, ha, k⟩ := h
    refine ⟨_, (pss_cons (ps_if (PW.pt (pw_or (pt_not (pt_val (pe_call (G_is_listed) (hr.mono (by omega)) (by rfl) T.D_is_listed.mg T.D_is_listed.fn.kp T.D_is_listed.bd .nil pass0 (pa_cons (pv 0) pa_nil)))) (pw_or1 (pt_not (pt_val (pe_callB (cr_all rfl) (by rfl) T.b_all bt_all (pa_cons (pe_lc (own := [("step", 3)]) rfl sc_are_marks.nd (pi_ve (pv 0)) (blkOk_by (own := [("step", 3)]) (N := ["value", "calls", "many", "step", "one", "two"]) (sc := defScope s_are_marks) (by decide +kernel)) (fun _ _ _ _ _ => (pg_name (i := 3) sc_are_marks.nd rfl (by first | exact Or.inl rfl | exact Or.inr rfl))) (fun _ _ _ _ _ => pts_nil) (fun _ _ _ _ _ => (pe_call (G_is_step) (hr.mono (by omega)) (by rfl) T.D_is_step.mg T.D_is_step.fn.kp T.D_is_step.bd .nil pass0 (pa_cons (pv 3) (pa_cons (pv 1) (pa_cons (pv 2) pa_nil)))))) pa_nil))))))) (pss_one (ps_ret pe_bl)) pss_nil)
      (pss_one (ps_ret (pe_callB (cr_all rfl) (by rfl) T.b_all bt_all (pa_cons (pe_lc (own := [("one", 4), ("two", 5)]) (g := (gTup K 2 (gCons (gName 4) (gCons (gName 5) gNil)))) rfl sc_are_marks.nd (RZ.pi_zipA (by rfl) T.b_zip (pa_cons (pv 0) (pa_cons (pe_slice sl_either (pv 0) (po_some pe_int) po_none) pa_nil))) (blkOk_by (own := [("one", 4), ("two", 5)]) (N := ["value", "calls", "many", "step", "one", "two"]) (sc := defScope s_are_marks) (by decide +kernel)) (fun _ _ _ _ _ => (pg_tup rfl (pgs_cons (pg_name (i := 4) sc_are_marks.nd rfl (by first | exact Or.inl rfl | exact Or.inr rfl)) (pgs_cons (pg_name (i := 5) sc_are_marks.nd rfl (by first | exact Or.inl rfl | exact Or.inr rfl)) pgs_nil)))) (fun _ _ _ _ _ => pts_nil) (fun _ _ _ _ _ => (pe_cmpR (r := rLtD K) (op_ltD hr.units) (pv 4) (pv 5) (nomark _)))) pa_nil))))), ?_⟩
    exact ⟨_, rfl, a, rfl, ha, fun H1 s1 => ⟨false, rfl, k H1 s1⟩⟩
theorem ok_are_calls_x : FnOk P w K mg base CX0 2 T.a_are_calls T.d_are_calls ["value"] (spOr (spB K (fun d => gd d = true) isCalls) spCallsD) := fn_or (ok_are_calls T) (ok_are_calls_d T)
theorem ok_are_rows_x : FnOk P w K mg base CX0 2 T.a_are_rows T.d_are_rows ["value", "width"] (spOr (spRows K) spRowsD) := fn_or (ok_are_rows T) (ok_are_rows_d T)
theorem ok_are_marks_x : FnOk P w K mg base CX0 3 T.a_are_marks T.d_are_marks ["value", "calls", "many"] (spOr (spMarks K) spMarksD) := fn_or (ok_are_marks T) (ok_are_marks_d T)
end
end Ag

set_option Elab.async false
set_option linter.all false
set_option maxRecDepth 100000
set_option maxHeartbeats 4000000
set_option pp.maxSteps 300
namespace Ag
open PySem PySem.Spec PyProof.Rows L2
section
variable {K : PySem.W.Frag} {σ : L2.St} {H : Hp} {E : XK} {i j : Nat} {v c : V} {d dc : PyData}
theorem et_callsX (h : σ[i]? = some (some v)) (hv : Dx K H v d) (g : gd d = true ∨ d = .dict []) : ET (tB (tCall (spOr (spB K (fun d => gd d = true) isCalls) spCallsD) [] E (tCons (tVar i) tNil))) σ H (isCalls d) := by
  rcases hv with hv | ⟨rfl, a, rfl, ha⟩
  · have g2 : gd d = true := g.elim id fun e => by subst e; cases hv
    exact et_B (ed_call (F := nn H) (ea_cons (ed_var h (dp_df hv)) ea_nil) fun F vs H1 hv Q q => .inl (rdc_spB (E := E) (pre := fun d => gd d = true) g2 F vs H1 hv Q q))
  · exact fun H1 s1 Q q => ⟨_, h, .inr ⟨a, rfl, s1 _ _ ha, fun H2 s2 => ⟨false, rfl, q H2 s2⟩⟩⟩
theorem et_rowsX {tl : TE} {n : Int} (h : σ[i]? = some (some v)) (hv : Dx K H v d) (g : gd d = true ∨ d = .dict []) (hl : ED K tl σ (nn H) H (.int n)) : ET (tB (tCall (spOr (spRows K) spRowsD) [] E (tCons (tVar i) (tCons tl tNil)))) σ H (isRows d n) := by
  rcases hv with hv | ⟨rfl, a, rfl, ha⟩
  · have g2 : gd d = true := g.elim id fun e => by subst e; cases hv
    exact et_B (ed_call (F := nn H) (ea_cons (ed_var h (dp_df hv)) (ea_cons hl ea_nil)) fun F vs H1 hv Q q => .inl (rdc_rows (E := E) g2 F vs H1 hv Q q))
  · exact fun H1 s1 Q q => ⟨_, h, hl H1 s1 _ fun y H2 s2 hy => by
      cases hy
      exact .inr ⟨a, n, rfl, s2 _ _ (s1 _ _ ha), fun H3 s3 => ⟨false, rfl, q H3 (s2.trans s3)⟩⟩⟩
theorem et_marksX {tl : TE} {n : Int} {ns : List Str} (h : σ[i]? = some (some v)) (hv : Dx K H v d) (g : gd d = true ∨ d = .dict []) (h2 : σ[j]? = some (some c)) (hc : Dp K H c dc) (hdc : dc = .tuple (ns.map .str) ∨ dc = .list (ns.map .str)) (hl : ED K tl σ (nn H) H (.int n)) :
    ET (tB (tCall (spOr (spMarks K) spMarksD) [] E (tCons (tVar i) (tCons (tVar j) (tCons tl tNil))))) σ H (isMarks ns n d) := by
  rcases hv with hv | ⟨rfl, a, rfl, ha⟩
  · have g2 : gd d = true := g.elim id fun e => by subst e; cases hv
    exact et_B (ed_call (F := nn H) (ea_cons (ed_var h (dp_df hv)) (ea_cons (ed_var h2 (dp_df hc)) (ea_cons hl ea_nil))) fun F vs H1 hv Q q => .inl (rdc_marks (E := E) g2 hdc F vs H1 hv Q q))
  · exact fun H1 s1 Q q => ⟨_, h, _, h2, hl H1 s1 _ fun y H2 s2 hy => by
      cases hy
      exact .inr ⟨a, c, n, rfl, s2 _ _ (s1 _ _ ha), fun H3 s3 => ⟨false, rfl, q H3 (s2.trans s3)⟩⟩⟩
end
theorem s_fldTup {K : PySem.W.Frag} {σ : L2.St} {H : Hp} {D : Ends} {i j : Nat} {a b C dx : Addr} {xs : List V} {fs : List (Str × V)} {f : Str} (hj : σ[j]? = some (some (.ref b))) (h : σ[i]? = some (some (.ref a))) (sq : SqL K H a xs ∨ SqT K H a xs) (hb : H b = some (.ins C dx fs)) (c : Cls K C) (n : NoAttr K C f) (l : fs.length < 1000)
    (k : ∀ y H1, Same H H1 → SqT K H1 y xs → D.nx σ (upd H1 b (.ins C dx (putF f (.ref y) fs)))) : sFld K (tVar j) (tCB (fun xs H Q => ∃ p ys, xs = [.ref p] ∧ ((SqL K H p ys ∧ ∀ l, H l = none → Q (.ref l) (upd H l (.tup ys))) ∨ (SqT K H p ys ∧ Q (.ref p) H))) (tCons (tVar i) tNil)) f D σ H :=
  run_tupleOf (Q := fun y H1 => tVar j σ H1 fun x H2 => ∃ o C dx fs, x = .ref o ∧ H2 o = some (.ins C dx fs) ∧ Cls K C ∧ NoAttr K C f ∧ fs.length < 1000 ∧ D.nx σ (upd H2 o (.ins C dx (putF f y fs)))) h sq fun y H1 s hy => ⟨_, hj, b, C, dx, fs, rfl, s _ _ hb, c, n, l, k y H1 s hy⟩
def spMach (K : PySem.W.Frag) (C B : Addr) : Sp := fun vs H Q E => ∃ b dx vc vr vm dc dr dm, vs = [.ref b, vc, vr, vm] ∧ H b = some (.ins C dx []) ∧ (Dx K H vc dc ∧ (gd dc = true ∨ dc = .dict [])) ∧ (Dx K H vr dr ∧ (gd dr = true ∨ dr = .dict [])) ∧ (Dx K H vm dm ∧ (gd dm = true ∨ dm = .dict []) ∧ Live K H vm dm) ∧
  (isCalls dc = false → Out2 B "what" "row" (.str "calls") vc H E) ∧ (isCalls dc = true → isRows dr (lenP dc) = false → Out2 B "what" "row" (.str "rows") vr H E) ∧
  (∀ ns, isCalls dc = true → isRows dr (lenP dc) = true → partsD dc = ns.map .str → isMarks ns (lenP dr) dm = false → Out2 B "what" "row" (.str "marks") vm H E) ∧
  (∀ ns rs ps H', isCalls dc = true → isRows dr (lenP dc) = true → isMarks ns (lenP dr) dm = true → partsD dc = ns.map .str → rowsT dr = rowsD rs → partsD dm = ps.map pairD → OkR ns.length rs → But b H H' → MachN K C (fun a => H a = none) b ns rs ps H' → Q .non H')
section
variable {P : Program} {w : World} {K : PySem.W.Frag} {mg : Str → Option Value} {base : Heap} (T : Txt w K mg)
theorem ok_Machine_init : FnOk P w K mg base (L2.CX P w) 5 T.a_Machine___init__ T.d_Machine___init__ ["self", "calls", "rows", "marks"] (spMach K T.C_Machine T.C_BadRow) := by
  have G_are_calls := ok_are_calls_x (P := P) (base := base) T
  have G_are_rows := ok_are_rows_x (P := P) (base := base) T
  have G_are_marks := ok_are_marks_x (P := P) (base := base) T
  have G_as_tuples := ok_as_rows (P := P) (base := base) T
  have G_BadRow___init__ := ok_BadRow_init (P := P) (base := base) T
  refine T.D_Machine___init__.fn.okX sc_Machine___init__ (fun vs H Q E h => ?_) (fun cdv A outer s H vs Q E hr h => ?_)
  · obtain ⟨b, dx, vc, vr, vm, dc, dr, dm, rfl, _⟩ := h; rfl
  · obtain ⟨b, dx, vc, vr, vm, dc, dr, dm, rfl, hb, ⟨hc, gc⟩, ⟨hx, gr⟩, ⟨hm, gm, lv⟩, k1, k2, k3, k4⟩ := h
    refine ⟨_, (pss_cons (ps_if (pt_not (pt_val (pe_call (G_are_calls) (hr.mono (by omega)) (by rfl) T.D_are_calls.mg T.D_are_calls.fn.kp T.D_are_calls.bd .nil pass0 (pa_cons (pv 1) pa_nil)))) (pss_one (ps_raise rfl (takes_of rfl rfl rfl rfl) (pmk_oex T.ox_BadRow T.ic_BadRow T.ti_BadRow (G_BadRow___init__) (hr.mono (by omega)) T.D_BadRow___init__.bd .nil pass0 (by rfl) T.g_BadRow (pa_cons pe_str (pa_cons (pv 1) pa_nil))))) pss_nil)
      (pss_cons (ps_if (pt_not (pt_val (pe_call (G_are_rows) (hr.mono (by omega)) (by rfl) T.D_are_rows.mg T.D_are_rows.fn.kp T.D_are_rows.bd .nil pass0 (pa_cons (pv 2) (pa_cons (pe_callB call_len (by rfl) T.b_len bt_len (pa_cons (pv 1) pa_nil)) pa_nil))))) (pss_one (ps_raise rfl (takes_of rfl rfl rfl rfl) (pmk_oex T.ox_BadRow T.ic_BadRow T.ti_BadRow (G_BadRow___init__) (hr.mono (by omega)) T.D_BadRow___init__.bd .nil pass0 (by rfl) T.g_BadRow (pa_cons pe_str (pa_cons (pv 2) pa_nil))))) pss_nil)
      (pss_cons (ps_if (pt_not (pt_val (pe_call (G_are_marks) (hr.mono (by omega)) (by rfl) T.D_are_marks.mg T.D_are_marks.fn.kp T.D_are_marks.bd .nil pass0 (pa_cons (pv 3) (pa_cons (pv 1) (pa_cons (pe_callB call_len (by rfl) T.b_len bt_len (pa_cons (pv 2) pa_nil)) pa_nil)))))) (pss_one (ps_raise rfl (takes_of rfl rfl rfl rfl) (pmk_oex T.ox_BadRow T.ic_BadRow T.ti_BadRow (G_BadRow___init__) (hr.mono (by omega)) T.D_BadRow___init__.bd .nil pass0 (by rfl) T.g_BadRow (pa_cons pe_str (pa_cons (pv 3) pa_nil))))) pss_nil)
      (pss_cons (ps_fld (pv 0) (pe_callTy call_tuple_of (by rfl) T.b_tuple bt_tuple (pa_cons (pv 1) pa_nil)) rfl)
      (pss_cons (ps_fld (pv 0) (pe_call (G_as_tuples) (hr.mono (by omega)) (by rfl) T.D_as_tuples.mg T.D_as_tuples.fn.kp T.D_as_tuples.bd .nil pass0 (pa_cons (pv 2) pa_nil)) rfl)
      (pss_cons (ps_fld (pv 0) (pe_callTy call_tuple_of (by rfl) T.b_tuple bt_tuple (pa_cons (pv 3) pa_nil)) rfl)
      (pss_cons (ps_fld (pv 0) (pe_dc (own := [("index", 4), ("call", 5)]) (g := (gTup K 2 (gCons (gName 4) (gCons (gName 5) gNil)))) rfl sc_Machine___init__.nd (pi_enumT (by rfl) T.b_enumerate (pa_cons (pe_fld (pv 0) rfl) pa_nil)) (blkOk_by (own := [("index", 4), ("call", 5)]) (N := ["self", "calls", "rows", "marks", "index", "call", "step"]) (sc := defScope s_Machine___init__) (by decide +kernel)) (fun _ _ _ _ _ => (pg_tup rfl (pgs_cons (pg_name (i := 4) sc_Machine___init__.nd rfl (by first | exact Or.inl rfl | exact Or.inr rfl)) (pgs_cons (pg_name (i := 5) sc_Machine___init__.nd rfl (by first | exact Or.inl rfl | exact Or.inr rfl)) pgs_nil)))) (fun _ _ _ _ _ => pts_nil) (fun _ _ _ _ _ => (pv 5)) (fun _ _ _ _ _ => (pv 4))) rfl)
      (pss_one (ps_fld (pv 0) (pe_dcT (own := [("step", 6)]) rfl sc_Machine___init__.nd (Nat.lt_of_le_of_lt (Nat.le_add_right _ 64) hr.units) (pi_tup (pe_fld (pv 0) rfl)) (blkOk_by (own := [("step", 6)]) (N := ["self", "calls", "rows", "marks", "index", "call", "step"]) (sc := defScope s_Machine___init__) (by decide +kernel)) (fun _ _ _ _ _ => (pg_name (i := 6) sc_Machine___init__.nd rfl (by first | exact Or.inl rfl | exact Or.inr rfl))) (fun _ _ _ _ _ => pts_nil) (fun _ _ _ _ _ => (pv 6)) (fun _ _ _ _ _ => pe_bl)) rfl))))))))), ?_⟩
    refine s_if (b := !isCalls dc) (et_not (et_callsX rfl hc gc)) (fun hb H1 s1 => raise2 rfl ((k1 (by simpa using hb)).same s1)) (fun hcb H1 s1 => ?_)
    have hcb : isCalls dc = true := by simpa using hcb
    obtain ⟨ns, hds, n1, n6⟩ := calls_of hcb
    have lc := len_parts _ hds
    have lcn : lenP dc = ns.length := by rw [lc.2, List.length_map]
    have pC : partsD dc = ns.map .str := by rcases hds with rfl | rfl <;> rfl
    have hdc : dc = .tuple (ns.map .str) ∨ dc = .list (ns.map .str) := hds.symm
    have hc : Dp K H vc dc := hc.elim id fun ⟨e, _⟩ => by rw [e] at hcb; cases hcb
    have gc : gd dc = true := gc.elim id fun e => by rw [e] at hcb; cases hcb
    dsimp only [tNext]
    refine s_if (b := !isRows dr (lenP dc)) (et_not (et_rowsX rfl (hx.mono s1) gr (ed_len (ed_var (i := 1) rfl (dp_df (dp_mono s1 hc))) lc.1))) (fun hb H2 s2 => raise2 rfl ((k2 hcb (by simpa using hb)).same (s1.trans s2))) (fun hrb H2 s2 => ?_)
    have hrb : isRows dr (lenP dc) = true := by simpa using hrb
    have hx : Dp K H vr dr := hx.elim id fun ⟨e, _⟩ => by rw [e] at hrb; cases hrb
    have gr : gd dr = true := gr.elim id fun e => by rw [e] at hrb; cases hrb
    obtain ⟨rs, hrs, okr⟩ := rows_ok (n := ns.length) (by rw [← lcn]; exact hrb) gr
    have eT := rowsT_of hrs
    have lr := len_parts _ hrs
    have s12 := s1.trans s2
    dsimp only [tNext]
    refine s_if (b := !isMarks ns (lenP dr) dm) (et_not (et_marksX rfl (hm.mono s12) gm rfl (dp_mono s12 hc) hdc (ed_len (ed_var (i := 2) rfl (dp_df (dp_mono s12 hx))) lr.1))) (fun hb H3 s3 => raise2 rfl ((k3 ns hcb hrb pC (by simpa using hb)).same (s12.trans s3))) (fun hmb H3 s3 => ?_)
    have hmb : isMarks ns (lenP dr) dm = true := by simpa using hmb
    have hm : Dp K H vm dm := hm.elim id fun ⟨e, _⟩ => by rw [e] at hmb; cases hmb
    obtain ⟨ps, hps, pM, _⟩ := marks_of hmb
    have k4 := k4 ns rs ps
    have s13 := s12.trans s3
    clear k1 k2 k3
    have nd : NoDat H b := nodat_ins hb
    obtain ⟨ma, ks, rfl, sq, ek, live⟩ := lv ps (by unfold isMarks at hmb; exact (Bool.and_eq_true_iff.mp hmb).1) pM
    clear lv hm
    dsimp only [tNext]
    -- calls
    refine s_fldD (K := K) (F := nn H) (i := 0) rfl (ed_tupleOf (ed_var (i := 1) rfl (df_mono s13 (fun _ z => z) (dp_df hc))) (seq_listed (by unfold isCalls at hcb; exact (Bool.and_eq_true_iff.mp hcb).1))) (s13 _ _ hb) T.cl_Machine T.na_Machine_calls (by decide) fun y H4 s4 hy => ?_
    rw [seq_parts, pC] at hy
    cases hy with
    | tup hca hr3 =>
      rename_i ca vs
      rw [strs_dps (dfs_dps hr3)] at hca
      clear hr3
      have b4 := s4 _ _ (s13 _ _ hb)
      have nd4 := nodat_ins b4
      have t1 : But b H (upd H4 b (.ins T.C_Machine dx (putF "calls" (.ref ca) []))) := (But.of (s13.trans s4)).trans But.upd
      have ca1 := nd4.st (H' := upd H4 b (.ins T.C_Machine dx (putF "calls" (.ref ca) []))) But.upd hca
      have b5 : (upd H4 b (.ins T.C_Machine dx (putF "calls" (.ref ca) []))) b = some (.ins T.C_Machine dx (putF "calls" (.ref ca) [])) := upd_same
      generalize upd H4 b (.ins T.C_Machine dx (putF "calls" (.ref ca) [])) = A1 at t1 ca1 b5
      -- rows
      refine s_fldD (K := K) (F := nn A1) (i := 0) rfl (ed_call (ea_cons (ed_var (i := 2) rfl (dp_df (nd.dp t1 hx))) ea_nil) (rdc_as (rows_pre gr hrb))) b5 T.cl_Machine T.na_Machine_rows (by show 1 < 1000; decide) fun rv H5 s5 hy => ?_
      rw [eT] at hy; rw [put_rows]
      have b6 := s5 _ _ b5
      have nd6 := nodat_ins b6
      have t2 : But b H (upd H5 b (.ins T.C_Machine dx [("calls", .ref ca), ("rows", rv)])) := (t1.trans (But.of s5)).trans But.upd
      have ca2 := nd6.st (H' := upd H5 b (.ins T.C_Machine dx [("calls", .ref ca), ("rows", rv)])) But.upd (s5.stA ca1)
      have rv2 := nd6.dp (H' := upd H5 b (.ins T.C_Machine dx [("calls", .ref ca), ("rows", rv)])) But.upd (df_dp hy)
      have b7 : (upd H5 b (.ins T.C_Machine dx [("calls", .ref ca), ("rows", rv)])) b = some (.ins T.C_Machine dx [("calls", .ref ca), ("rows", rv)]) := upd_same
      generalize upd H5 b (.ins T.C_Machine dx [("calls", .ref ca), ("rows", rv)]) = A2 at t2 ca2 rv2 b7
      clear hy s5 t1 ca1 b5 b6 nd6 s4 hca b4 nd4
      -- marks
      refine s_fldTup (i := 3) (j := 0) rfl rfl (sq.imp (nd.sl t2) (nd.st t2)) b7 T.cl_Machine T.na_Machine_marks (by show 2 < 1000; decide) fun ml H6 s6 hml => ?_
      rw [put_marks]
      have b8 := s6 _ _ b7
      have nd8 := nodat_ins b8
      have t3 : But b H (upd H6 b (.ins T.C_Machine dx [("calls", .ref ca), ("rows", rv), ("marks", .ref ml)])) := (t2.trans (But.of s6)).trans But.upd
      have ca3 := nd8.st (H' := upd H6 b (.ins T.C_Machine dx [("calls", .ref ca), ("rows", rv), ("marks", .ref ml)])) But.upd (s6.stA ca2)
      have rv3 := nd8.dp (H' := upd H6 b (.ins T.C_Machine dx [("calls", .ref ca), ("rows", rv), ("marks", .ref ml)])) But.upd (dp_mono s6 rv2)
      have ml3 := nd8.st (H' := upd H6 b (.ins T.C_Machine dx [("calls", .ref ca), ("rows", rv), ("marks", .ref ml)])) But.upd hml
      have b9 : (upd H6 b (.ins T.C_Machine dx [("calls", .ref ca), ("rows", rv), ("marks", .ref ml)])) b = some (.ins T.C_Machine dx [("calls", .ref ca), ("rows", rv), ("marks", .ref ml)]) := upd_same
      generalize upd H6 b (.ins T.C_Machine dx [("calls", .ref ca), ("rows", rv), ("marks", .ref ml)]) = A3 at t3 ca3 rv3 ml3 b9
      have live3 : ∀ z ∈ ks, A3 z.1 = some (.tup (z.2.map kV)) := fun z hz => t3 _ _ (ne_of (live z hz) hb (fun e => nomatch e)) (live z hz)
      clear t2 ca2 rv2 b7 b8 nd8 s6 hml live sq
      -- places
      refine ⟨_, rfl, b, T.C_Machine, dx, _, _, rfl, b9, T.cl_Machine, T.na_Machine_calls, rfl, ca, ns.map V.str, rfl, ca3, fun D hD => ⟨fun i m H' => m = ns.length - i ∧ i ≤ ns.length ∧ Same A3 H' ∧ ∃ kvs, H' D = some (.dK kvs) ∧ PlAt (ns.take i) kvs,
        ⟨_, rfl, Nat.zero_le _, Same.newA hD, [], upd_same, ⟨Nat.le_refl _, fun s => .inl ⟨List.not_mem_nil, rfl⟩⟩⟩, ?_⟩⟩
      rintro i m H' ⟨rfl, hi, s5, kvs, e, pl⟩
      by_cases lt : i < ns.length
      · have hx : (ns.map V.str)[i]? = some (.str ns[i]) := by rw [List.getElem?_map, List.getElem?_eq_getElem lt]; rfl
        refine .inr ⟨⟨_, _, s5.stA ca3, hx⟩, fun H5 => Same A3 H5 ∧ ∃ kvs, H5 D = some (.dK kvs) ∧ PlAt (ns.take (i + 1)) kvs, fun H5 ⟨a, b⟩ => ⟨ns.length - (i + 1), by omega, rfl, lt, a, b⟩, ?_⟩
        rintro x H5 ⟨t, y, rfl, ht, rfl, hy⟩
        have hy := hy _ (s5.stA ca3)
        rw [hx] at hy; cases hy
        have s6 := Same.newA (o := .tup [.int (i : Nat), .str ns[i]]) ht
        refine ⟨t, _, rfl, .of upd_same, rfl, _, _, rfl, _, _, rfl, rfl, rfl, ?_⟩
        have lp := pl.1
        rw [List.length_take] at lp
        refine ⟨_, rfl, _, rfl, kvs, .inr ns[i], rfl, s6 _ _ e, lt5 (by omega), fun a u q => ?_, _, upd_same, ?_⟩
        · rw [upd_ne (ne_of_none q hD)]; exact s6 _ _ (s5 _ _ q)
        · have := plat_snoc (x := ns[i]) pl
          rw [List.length_take, Nat.min_eq_left (Nat.le_of_lt lt)] at this
          rw [take_snoc (List.getElem?_eq_getElem lt)]; exact this
      · have : i = ns.length := by omega
        subst this
        rw [List.take_length] at pl
        refine .inl ⟨⟨_, s5.stA ca3, by rw [List.length_map]⟩, ?_⟩
        have b10 := s5 _ _ b9
        refine ⟨_, rfl, b, T.C_Machine, dx, _, rfl, b10, T.cl_Machine, T.na_Machine__place, (by show 3 < 1000; decide), ?_⟩
        rw [put_place]
        have nd10 := nodat_ins b10
        have t4 : But b H (upd H' b (.ins T.C_Machine dx [("calls", .ref ca), ("rows", rv), ("marks", .ref ml), ("_place", .ref D)])) := (t3.trans (But.of s5)).trans But.upd
        have ca4 := nd10.st (H' := upd H' b (.ins T.C_Machine dx [("calls", .ref ca), ("rows", rv), ("marks", .ref ml), ("_place", .ref D)])) But.upd (s5.stA ca3)
        have rv4 := nd10.dp (H' := upd H' b (.ins T.C_Machine dx [("calls", .ref ca), ("rows", rv), ("marks", .ref ml), ("_place", .ref D)])) But.upd (dp_mono s5 rv3)
        have ml4 := nd10.st (H' := upd H' b (.ins T.C_Machine dx [("calls", .ref ca), ("rows", rv), ("marks", .ref ml), ("_place", .ref D)])) But.upd (s5.stA ml3)
        have nDb : D ≠ b := ne_of e b10 (fun z => nomatch z)
        have hD0 := t3.free hD nDb
        have e4 : (upd H' b (.ins T.C_Machine dx [("calls", .ref ca), ("rows", rv), ("marks", .ref ml), ("_place", .ref D)])) D = some (.dK kvs) := by rw [upd_ne nDb]; exact e
        have b11 : (upd H' b (.ins T.C_Machine dx [("calls", .ref ca), ("rows", rv), ("marks", .ref ml), ("_place", .ref D)])) b = some (.ins T.C_Machine dx [("calls", .ref ca), ("rows", rv), ("marks", .ref ml), ("_place", .ref D)]) := upd_same
        have live4 : ∀ z ∈ ks, (upd H' b (.ins T.C_Machine dx [("calls", .ref ca), ("rows", rv), ("marks", .ref ml), ("_place", .ref D)])) z.1 = some (.tup (z.2.map kV)) := fun z hz => by
          have := s5 _ _ (live3 z hz)
          rw [upd_ne (ne_of this b10 (fun e => nomatch e))]; exact this
        generalize upd H' b (.ins T.C_Machine dx [("calls", .ref ca), ("rows", rv), ("marks", .ref ml), ("_place", .ref D)]) = A4 at t4 ca4 rv4 ml4 e4 b11 live4
        clear e b10 nd10 s5 b9 ca3 rv3 ml3 t3 hD live3
        -- marked
        have lk : ks.length = ps.length := by
          have := congrArg List.length ek
          rwa [List.length_map, List.length_map] at this
        have lps : ps.length ≤ 1000 := by
          rcases hps with rfl | rfl
          · have := (gd_parts (.inl rfl) (gm.elim id fun e => nomatch e)).2
            rwa [List.length_map] at this
          · have := (gd_parts (.inr rfl) (gm.elim id fun e => nomatch e)).2
            rwa [List.length_map] at this
        refine ⟨_, rfl, b, T.C_Machine, dx, _, _, rfl, b11, T.cl_Machine, T.na_Machine_marks, lf_marks, ml, rfl, ⟨_, ml4⟩, fun D2 hD2 => dcT_tup (K := K) (a := ml) (xs := ks.map fun z : Addr × List Key => V.ref z.1) (fun i H' => Same A4 H' ∧ ∃ km, H' D2 = some (.dT km) ∧ MkAt (ps.take i) km) ⟨Same.newA hD2, [], upd_same, Nat.le_refl _, fun q => ?_⟩ (fun i H' _ h => h.1.stA ml4) ?_ ?_⟩
        · rw [List.take_zero, decide_eq_false List.not_mem_nil]; rfl
        · rintro i x H' hx ⟨s5, km, e5, mk⟩
          obtain ⟨z, hz, rfl⟩ : ∃ z, ks[i]? = some z ∧ x = V.ref z.1 := by
            rw [List.getElem?_map] at hx
            cases h : ks[i]? with
            | none => rw [h] at hx; cases hx
            | some z => rw [h] at hx; exact ⟨z, rfl, (Option.some.inj hx).symm⟩
          obtain ⟨p, hp, ep⟩ : ∃ p, ps[i]? = some p ∧ z.2 = pairK p := by
            have h1 : (ks.map Prod.snd)[i]? = some z.2 := by rw [List.getElem?_map, hz]; rfl
            rw [ek, List.getElem?_map] at h1
            cases h : ps[i]? with
            | none => rw [h] at h1; cases h1
            | some p => rw [h] at h1; exact ⟨p, rfl, (Option.some.inj h1).symm⟩
          have lt : i < ps.length := (List.getElem?_eq_some_iff.mp hp).1
          have l5 := s5 _ _ (live4 z (List.mem_of_getElem? hz))
          have le := mk.1
          rw [List.length_take] at le
          refine ⟨rfl, _, rfl, km, pairK p, z.1, rfl, e5, by rw [← ep]; exact l5, lt5 (by omega), fun a u q => ?_, _, upd_same, ?_⟩
          · rw [upd_ne (ne_of_none q hD2)]; exact s5 _ _ q
          · rw [take_snoc hp]; exact mkat_snoc mk
        · rintro H' ⟨s5, km, e5, mk⟩
          rw [List.length_map, lk, List.take_length] at mk
          have b12 := s5 _ _ b11
          refine ⟨_, rfl, b, T.C_Machine, dx, _, rfl, b12, T.cl_Machine, T.na_Machine__marked, (by show 4 < 1000; decide), ?_⟩
          rw [put_marked]
          have nd12 := nodat_ins b12
          have n2 : D2 ≠ b := ne_of e5 b12 (fun z => nomatch z)
          have nD := s5 _ _ e4
          refine k4 _ hcb hrb hmb pC eT pM okr ((t4.trans (But.of s5)).trans But.upd) ⟨dx, ca, rv, .ref ml, D, D2, kvs, km, upd_same, nd12.st But.upd (s5.stA ca4), nd12.dp But.upd (dp_mono s5 rv4), nd12.dp But.upd (.tup (s5.stA ml4) ?_), ?_, pl, ?_, mk, hD0, t4.free hD2 n2⟩
          · have all : ∀ (ks : List (Addr × List Key)) (ps : List Pr), ks.map Prod.snd = ps.map pairK → (∀ z ∈ ks, H' z.1 = some (.tup (z.2.map kV))) → DpAll K H' (ks.map fun z => V.ref z.1) (ps.map pairD) := by
              intro ks
              induction ks with
              | nil => intro ps e _; cases ps with
                | nil => exact .nil
                | cons p ps => cases e
              | cons z ks ih =>
                intro ps e h
                cases ps with
                | nil => cases e
                | cons p ps =>
                  rw [List.map_cons, List.map_cons, List.cons.injEq] at e
                  have hz := h z List.mem_cons_self
                  rw [e.1] at hz
                  exact .cons (.tup (.of hz) (.cons (.int _) (.cons (.str _) .nil))) (ih ps e.2 fun y hy => h y (List.mem_cons_of_mem _ hy))
            exact all ks ps ek fun z hz => s5 _ _ (live4 z hz)
          · rw [upd_ne nDb]; exact nD
          · rw [upd_ne n2]; exact e5
end
end Ag

set_option Elab.async false
set_option linter.all false
set_option maxRecDepth 100000
set_option maxHeartbeats 2000000
set_option pp.maxSteps 300
namespace Ag
open PySem PySem.Spec PyProof.Rows L2
theorem no_need : (("need_state" : Str) == "calls") = false ∧ (("need_state" : Str) == "rows") = false ∧ (("need_state" : Str) == "marks") = false ∧ (("need_state" : Str) == "_place") = false ∧ (("need_state" : Str) == "_marked") = false := by decide +kernel
theorem no_go : (("go" : Str) == "calls") = false ∧ (("go" : Str) == "rows") = false ∧ (("go" : Str) == "marks") = false ∧ (("go" : Str) == "_place") = false ∧ (("go" : Str) == "_marked") = false := by decide +kernel
theorem no_behind : (("behind" : Str) == "calls") = false ∧ (("behind" : Str) == "rows") = false ∧ (("behind" : Str) == "marks") = false ∧ (("behind" : Str) == "_place") = false ∧ (("behind" : Str) == "_marked") = false := by decide +kernel
theorem no_is_marked : (("is_marked" : Str) == "calls") = false ∧ (("is_marked" : Str) == "rows") = false ∧ (("is_marked" : Str) == "marks") = false ∧ (("is_marked" : Str) == "_place") = false ∧ (("is_marked" : Str) == "_marked") = false := by decide +kernel
theorem no_marks_along : (("marks_along" : Str) == "calls") = false ∧ (("marks_along" : Str) == "rows") = false ∧ (("marks_along" : Str) == "marks") = false ∧ (("marks_along" : Str) == "_place") = false ∧ (("marks_along" : Str) == "_marked") = false := by decide +kernel
theorem rows_len (rs : List (List Int)) : lenP (rowsD rs) = rs.length := by show (rs.map _).length = _; rw [List.length_map]
theorem whole_of {i : Int} {n : Nat} : wholeB (.int i) 0 ((n : Int) - 1) = true ↔ 0 ≤ i ∧ i < n := by
  show (decide (0 ≤ i) && decide (i ≤ (n : Int) - 1)) = true ↔ _
  rw [Bool.and_eq_true, decide_eq_true_eq, decide_eq_true_eq]; omega
/-- need_state(note) -/
def spNeed (K : PySem.W.Frag) (C B : Addr) : Sp := fun vs H Q E => ∃ b v d ns rs ps, vs = [.ref b, v] ∧ MachAt K C b ns rs ps H ∧ Dp K H v d ∧ (wholeB d 0 ((rs.length : Int) - 1) = false → Out2 B "what" "number" (.str "state") v H E) ∧ (wholeB d 0 ((rs.length : Int) - 1) = true → ∀ H', Same H H' → Q .non H')
/-- go(note, call) -/
def spGo (K : PySem.W.Frag) (C B : Addr) : Sp := fun vs H Q E => ∃ b v d x ns rs ps, vs = [.ref b, v, .str x] ∧ MachAt K C b ns rs ps H ∧ OkR ns.length rs ∧ Dp K H v d ∧ (wholeB d 0 ((rs.length : Int) - 1) = false → Out2 B "what" "number" (.str "state") v H E) ∧
  ∀ (n : Nat) (r : List Int), d = .int (n : Int) → rs[n]? = some r → (x ∉ ns → ∀ H', Same H H' → Q (.int n) H') ∧ ∀ (i : Nat) (z : Int) H', ns[i]? = some x → r[i]? = some z → Same H H' → Q (.int z) H'
/-- is_marked(state, call) -/
def spIsM (K : PySem.W.Frag) (C B : Addr) : Sp := fun vs H Q E => ∃ b v d x ns rs ps, vs = [.ref b, v, .str x] ∧ MachAt K C b ns rs ps H ∧ Dp K H v d ∧ (wholeB d 0 ((rs.length : Int) - 1) = false → Out2 B "what" "number" (.str "state") v H E) ∧
  ∀ n : Nat, d = .int (n : Int) → n < rs.length → ∀ H', Same H H' → Q (.bl (decide (((n : Int), x) ∈ ps))) H'
section
variable {P : Program} {w : World} {K : PySem.W.Frag} {mg : Str → Option Value} {base : Heap} (T : Txt w K mg)
theorem ok_need_state : FnOk P w K mg base (L2.CX P w) 3 T.a_Machine_need_state T.d_Machine_need_state ["self", "state"] (spNeed K T.C_Machine T.C_BadNumber) := by
  have G_is_whole := ok_is_whole (P := P) (base := base) T
  have G_BadNumber___init__ := ok_BadNumber_init (P := P) (base := base) T
  refine T.D_Machine_need_state.fn.okX sc_Machine_need_state (fun vs H Q E h => ?_) (fun cdv A outer s H vs Q E hr h => ?_)
  · obtain ⟨b, v, d, ns, rs, ps, rfl, _⟩ := h; rfl
  · obtain ⟨b, v, d, ns, rs, ps, rfl, ⟨dx, ca, rv, mv, pd, md, kp, km, hb, hca, hrv, hmv, hpd, pl, hmd, mk, _, _⟩, hv, k1, k2⟩ := h
    refine ⟨_, (pss_one (ps_if (pt_not (pt_val (pe_call (G_is_whole) (hr.mono (by omega)) (by rfl) T.D_is_whole.mg T.D_is_whole.fn.kp T.D_is_whole.bd .nil pass0 (pa_cons (pv 1) (pa_cons pe_int (pa_cons (pe_op op_sub (pe_callB call_len (by rfl) T.b_len bt_len (pa_cons (pe_fld (pv 0) rfl) pa_nil)) pe_int) pa_nil)))))) (pss_one (ps_raise rfl (takes_of rfl rfl rfl rfl) (pmk_oex T.ox_BadNumber T.ic_BadNumber T.ti_BadNumber (G_BadNumber___init__) (hr.mono (by omega)) T.D_BadNumber___init__.bd .nil pass0 (by rfl) T.g_BadNumber (pa_cons pe_str (pa_cons (pv 1) pa_nil))))) pss_nil)), ?_⟩
    refine s_if (b := !wholeB d 0 ((rs.length : Int) - 1)) (et_not (et_B (ed_call (ea_cons (ed_var (i := 1) rfl (dp_df hv)) (ea_cons ed_int (ea_cons (ed_is (ed_sub (ed_len (ed_fldI (i := 0) rfl hb T.cl_Machine T.na_Machine_rows bf_rows (dp_df hrv)) rfl) ed_int) (by rw [rows_len])) ea_nil))) rdc_whole))) (fun hb H1 s1 => ?_) (fun hb H1 s1 => ?_)
    · exact raise2 rfl ((k1 (by simpa using hb)).same s1)
    · exact k2 (by simpa using hb) H1 s1
theorem ok_go : FnOk P w K mg base (L2.CX P w) 4 T.a_Machine_go T.d_Machine_go ["self", "state", "call"] (spGo K T.C_Machine T.C_BadNumber) := by
  have G_Machine_need_state := ok_need_state (P := P) (base := base) T
  refine T.D_Machine_go.fn.okX sc_Machine_go (fun vs H Q E h => ?_) (fun cdv A outer s H vs Q E hr h => ?_)
  · obtain ⟨b, v, d, x, ns, rs, ps, rfl, _⟩ := h; rfl
  · obtain ⟨b, v, d, x, ns, rs, ps, rfl, hB, ok, hv, k1, k2⟩ := h
    refine ⟨_, (pss_cons (ps_expr (pe_meth (pv 0) T.cl_Machine T.mt_Machine_need_state (G_Machine_need_state) (hr.mono (by omega)) T.D_Machine_need_state.bd .nil (passes_call (takes_of rfl rfl rfl rfl) fun _ _ _ _ z => z) (pa_cons (pv 1) pa_nil)))
      (pss_cons (ps_if (PW.pt (pw_or (pt_not (pt_val (pe_callB call_isi (by rfl) T.b_isinstance bt_isinstance (pa_cons (pv 2) (pa_cons (pe_bltn (v := .ty "str") (by rfl) T.b_str bt_str rfl) pa_nil))))) (pw_or1 (pt_cmp (pc_dnotin (hu_of hr) (pv 2) (pe_fld (pv 0) rfl)))))) (pss_one (ps_ret (pv 1))) pss_nil)
      (pss_one (ps_ret (pe_ix ix_seq (pe_ix ix_seq (pe_fld (pv 0) rfl) (pv 1) (fun _ _ => rfl)) (pe_dget (hu_of hr) (pe_fld (pv 0) rfl) (pv 2) (fun _ _ => rfl)) (fun _ _ => rfl)))))), ?_⟩
    obtain ⟨dx, ca, rv, mv, pd, md, kp, km, hb, hca, hrv, hmv, hpd, pl, hmd, mk, _, _⟩ := id hB
    refine ⟨_, rfl, b, dx, _, rfl, hb, bf_no no_need, _, rfl, b, v, d, ns, rs, ps, rfl, hB, hv, k1, fun hd H1 s1 => ?_⟩
    obtain ⟨i, rfl⟩ := whole_int hd
    obtain ⟨h0, h1⟩ := whole_of.mp hd
    obtain ⟨n, rfl⟩ : ∃ n : Nat, i = n := ⟨i.toNat, by omega⟩
    have hn : n < rs.length := by omega
    have hrow : rs[n]? = some rs[n] := List.getElem?_eq_getElem hn
    obtain ⟨kn, kc⟩ := k2 n _ rfl hrow
    have lr := (ok.row _ (List.getElem_mem hn)).1
    have fld : ∀ H2, Same H1 H2 → ∀ Q2 : VK, Q2 (.ref pd) H2 → tFld K (tVar 0) "_place" (start ["self", "state", "call"] [.ref b, v, .str x]) H2 Q2 := fun H2 s2 Q2 q => ⟨_, rfl, b, T.C_Machine, dx, _, _, rfl, s2 _ _ (s1 _ _ hb), T.cl_Machine, T.na_Machine__place, bf_place, q⟩
    have hg : ∀ H2, Same H1 H2 → DGet H2 pd (.str x) (valV kp (.inr x)) := fun H2 s2 => DGet.k (k := .inr x) (s2 _ _ (s1 _ _ hpd))
    have tst : ET (tB (tDNotIn (tVar 2) (tFld K (tVar 0) "_place"))) (start ["self", "state", "call"] [.ref b, v, .str x]) H1 (!(valV kp (.inr x)).isSome) := fun H2 s2 Q2 q2 => ⟨_, rfl, fld H2 s2 _ ⟨pd, _, rfl, hg H2 s2, _, rfl, q2 H2 (Same.refl _)⟩⟩
    dsimp only
    rcases pl.2 x with ⟨hx, e⟩ | ⟨i, hx, e⟩
    · rw [e] at tst
      refine s_if (b := true) (et_or (a := false) (b := true) (et_is (et_not (et_B (ed_isi (T := "str") (K := K) (F := nn H1) (ed_var (i := 2) rfl (.str x)) (.inl rfl)))) rfl) fun _ => tst) (fun _ H2 s2 => ?_) fun h => nomatch h
      refine ⟨_, rfl, ?_⟩
      cases hv
      exact kn hx H2 (s1.trans s2)
    · rw [e] at tst
      refine s_if (b := false) (et_or (a := false) (b := false) (et_is (et_not (et_B (ed_isi (T := "str") (K := K) (F := nn H1) (ed_var (i := 2) rfl (.str x)) (.inl rfl)))) rfl) fun _ => tst) (fun h => nomatch h) (fun _ H2 s2 => ?_)
      have li : i < ns.length := (List.getElem?_eq_some_iff.mp hx).1
      have hz : (rs[n])[i]? = some (rs[n])[i] := List.getElem?_eq_getElem (by omega)
      have s12 := s1.trans s2
      dsimp only [tNext]
      refine s_ret (K := K) (F := nn H2) (d := .int ((rs[n])[i])) (ed_ixT (j := i) (ds := (rs[n]).map .int) (ed_ixT (j := n) (ds := rowsL rs) (ed_fldI (i := 0) rfl (s12 _ _ hb) T.cl_Machine T.na_Machine_rows bf_rows (dp_df (dp_mono s12 hrv))) (ed_var (i := 1) rfl (dp_df (dp_mono s12 hv))) ?_) ?_ ?_) fun u H3 s3 hu => ?_
      · unfold rowsL; rw [List.getElem?_map, hrow]; rfl
      · exact fun H3 s3 Q3 q3 => fld H3 (s2.trans s3) _ ⟨_, rfl, pd, _, rfl, by have := hg H3 (s2.trans s3); rw [e] at this; exact this, q3 _ H3 (Same.refl _) (.int _)⟩
      · rw [List.getElem?_map, hz]; rfl
      · cases hu
        exact kc i _ H3 hx hz (s12.trans s3)
theorem ok_is_marked : FnOk P w K mg base (L2.CX P w) 4 T.a_Machine_is_marked T.d_Machine_is_marked ["self", "state", "call"] (spIsM K T.C_Machine T.C_BadNumber) := by
  have G_Machine_need_state := ok_need_state (P := P) (base := base) T
  refine T.D_Machine_is_marked.fn.okX sc_Machine_is_marked (fun vs H Q E h => ?_) (fun cdv A outer s H vs Q E hr h => ?_)
  · obtain ⟨b, v, d, x, ns, rs, ps, rfl, _⟩ := h; rfl
  · obtain ⟨b, v, d, x, ns, rs, ps, rfl, hB, hv, k1, k2⟩ := h
    refine ⟨_, (pss_cons (ps_expr (pe_meth (pv 0) T.cl_Machine T.mt_Machine_need_state (G_Machine_need_state) (hr.mono (by omega)) T.D_Machine_need_state.bd .nil (passes_call (takes_of rfl rfl rfl rfl) fun _ _ _ _ z => z) (pa_cons (pv 1) pa_nil)))
      (pss_one (ps_ret (pe_and (pe_callB call_isi (by rfl) T.b_isinstance bt_isinstance (pa_cons (pv 2) (pa_cons (pe_bltn (v := .ty "str") (by rfl) T.b_str bt_str rfl) pa_nil))) (pe_one (pe_cmp (pc_din (hu_of hr) (pe_tup (pa_cons (pv 1) (pa_cons (pv 2) pa_nil))) (pe_fld (pv 0) rfl)))))))), ?_⟩
    obtain ⟨dx, ca, rv, mv, pd, md, kp, km, hb, hca, hrv, hmv, hpd, pl, hmd, mk, _, _⟩ := id hB
    refine ⟨_, rfl, b, dx, _, rfl, hb, bf_no no_need, _, rfl, b, v, d, ns, rs, ps, rfl, hB, hv, k1, fun hd H1 s1 => ?_⟩
    obtain ⟨i, rfl⟩ := whole_int hd
    obtain ⟨h0, h1⟩ := whole_of.mp hd
    obtain ⟨n, rfl⟩ : ∃ n : Nat, i = n := ⟨i.toNat, by omega⟩
    have k2 := k2 n rfl (by omega)
    cases hv
    dsimp only
    refine s_retB (F := nn H1) (ed_andV (b := decide (((n : Int), x) ∈ ps)) (ed_isi (T := "str") (ed_var (d := .str x) (i := 2) rfl (.str x)) (.inl rfl)) fun _ H2 s2 Q2 q2 => ⟨_, rfl, _, rfl, (by show 2 ≤ sizeLine; decide), fun t ht => ?_⟩) (by rfl) fun H2 s2 => k2 H2 (s1.trans s2)
    have s3 := Same.newA (o := .tup [.int (n : Int), .str x]) ht
    have g := DGet.t (k := pairK ((n : Int), x)) (s3 _ _ (s2 _ _ (s1 _ _ hmd))) (upd_same (H := H2) (a := t) (o := .tup [.int (n : Int), .str x]))
    refine ⟨_, rfl, b, T.C_Machine, dx, _, _, rfl, s3 _ _ (s2 _ _ (s1 _ _ hb)), T.cl_Machine, T.na_Machine__marked, bf_marked, md, _, rfl, g, ?_⟩
    have e := mk.2 ((n : Int), x)
    rw [e]
    exact q2 _ _ s3 (.bl _)
end
end Ag

set_option Elab.async false
set_option linter.all false
set_option maxRecDepth 100000
set_option maxHeartbeats 1000000
set_option pp.maxSteps 300
namespace Ag
open PySem PySem.Spec PyProof.Rows L2
theorem as_gd {n : Nat} {x : Str} (h : As n x) (hn : n ≤ 1000) : gd (.str x) = true := by
  simp only [gd, Bool.and_eq_true, decide_eq_true_eq]
  refine ⟨Array.all_eq_true_iff_forall_mem.mpr fun c hc => decide_eq_true ?_, Nat.le_trans h.2 hn⟩
  have := h.1 c (Array.mem_toList_iff.mpr hc); omega
/-! ### data that may be handed about: good, shown in few signs, not deep -/
structure Nice (m n : Nat) (d : PyData) : Prop where
  gd : gd d = true
  sh : d.showable = true
  dp : d.depth ≤ m
  ln : d.shown.length ≤ n
  as : Asc d.shown
theorem Nice.more {m n m' n' : Nat} {d : PyData} (h : Nice m n d) (h1 : m ≤ m') (h2 : n ≤ n') : Nice m' n' d := ⟨h.gd, h.sh, Nat.le_trans h.dp h1, Nat.le_trans h.ln h2, h.as⟩
theorem shaped_of {m n : Nat} {d : PyData} (h : Nice m n d) (hm : m ≤ 64) : SeqAt.shaped d = true := by
  unfold SeqAt.shaped
  rw [gd_lay h.gd, Bool.true_and]
  exact decide_eq_true (Nat.le_trans h.dp hm)
theorem nice_all {m n : Nat} : ∀ {ds : List PyData}, (∀ x ∈ ds, Nice m n x) → PyData.showableAll ds = true ∧ PyData.depthAll ds ≤ m ∧ ((PyData.shownAll ds).map (·.length)).sum ≤ ds.length * n ∧ (PyData.shownAll ds).length = ds.length
  | [], _ => by simp [PyData.showableAll, PyData.depthAll, PyData.shownAll]
  | d :: ds, h => by
    obtain ⟨i1, i2, i3, i4⟩ := nice_all (ds := ds) fun x hx => h x (List.mem_cons_of_mem _ hx)
    have hd := h d List.mem_cons_self
    have e : PyData.shownAll (d :: ds) = d.shown :: PyData.shownAll ds := by simp only [PyData.shownAll]
    refine ⟨by simp only [PyData.showableAll, hd.sh, i1]; rfl, ?_, ?_, ?_⟩
    · have := hd.dp
      simp only [PyData.depthAll]; omega
    · have := hd.ln
      rw [e, List.map_cons, List.sum_cons, List.length_cons, Nat.succ_mul]; omega
    · rw [e, List.length_cons, List.length_cons, i4]
theorem nice_tup {m n : Nat} {ds : List PyData} (h : ∀ x ∈ ds, Nice m n x) (hl : ds.length ≤ 1000) : Nice (m + 1) (ds.length * (n + 2) + 3) (.tuple ds) := by
  obtain ⟨i1, i2, i3, i4⟩ := nice_all h
  refine ⟨?_, by simp only [PyData.showable]; exact i1, by simp only [PyData.depth]; omega, ?_, asc_tup fun d hd => (h d hd).as⟩
  · simp only [Ag.gd, Bool.and_eq_true, decide_eq_true_eq]
    exact ⟨gds_of fun y hy => (h y hy).gd, hl⟩
  · rw [PyData.shown]
    have := tupleText_len_le (PyData.shownAll ds)
    rw [i4] at this
    have e : ds.length * (n + 2) = ds.length * n + ds.length * 2 := Nat.mul_add _ _ _
    omega
theorem nice_lst {m n : Nat} {ds : List PyData} (h : ∀ x ∈ ds, Nice m n x) (hl : ds.length ≤ 1000) : Nice (m + 1) (ds.length * (n + 2) + 3) (.list ds) := by
  obtain ⟨i1, i2, i3, i4⟩ := nice_all h
  refine ⟨?_, by simp only [PyData.showable]; exact i1, by simp only [PyData.depth]; omega, ?_, asc_lst fun d hd => (h d hd).as⟩
  · simp only [Ag.gd, Bool.and_eq_true, decide_eq_true_eq]
    exact ⟨gds_of fun y hy => (h y hy).gd, hl⟩
  · rw [PyData.shown]
    have := listText_len_le (PyData.shownAll ds)
    rw [i4] at this
    have e : ds.length * (n + 2) = ds.length * n + ds.length * 2 := Nat.mul_add _ _ _
    omega
theorem nice_int {i : Int} {n : Nat} (h : (PyData.int i).showable = true ∧ (PyData.int i).shown.length ≤ n ∧ ascB (PyData.int i).shown = true) : Nice 0 n (.int i) := ⟨by simp [Ag.gd], h.1, by simp [PyData.depth], h.2.1, asc_of h.2.2⟩
theorem nice_small : ∀ i : Nat, i < 64 → (PyData.int (i : Int)).showable = true ∧ (PyData.int (i : Int)).shown.length ≤ 2 ∧ ascB (PyData.int (i : Int)).shown = true := by decide +kernel
theorem nice_nat {i : Int} (h : 0 ≤ i ∧ i < 64) : Nice 0 2 (.int i) := by
  obtain ⟨n, rfl⟩ : ∃ n : Nat, i = n := ⟨i.toNat, by omega⟩
  exact nice_int (nice_small n (by omega))
theorem nice_str {x : Str} {k : Nat} (h : As k x) (hk : k ≤ 1000) : Nice 0 (10 * k + 2) (.str x) := by
  have l := StrLaws.reprText_len x fun c hc => by have := h.1 c hc; omega
  have l2 := h.2
  refine ⟨as_gd (As.more h hk) (Nat.le_refl _), by simp [PyData.showable], by simp [PyData.depth], ?_, asc_str h.1⟩
  rw [PyData.shown]; omega
theorem nice_bool (b : Bool) : Nice 0 5 (.bool b) := ⟨by simp [Ag.gd], by simp [PyData.showable], by simp [PyData.depth], by cases b <;> decide +kernel, asc_bool b⟩
theorem nice_none : Nice 0 4 .none := ⟨by simp [Ag.gd], by simp [PyData.showable], by simp [PyData.depth], by decide +kernel, asc_none⟩
theorem nice_names {ns : List Str} (h : ∀ x ∈ ns, As 12 x) (hl : ns.length ≤ 1000) : Nice 1 (ns.length * 124 + 3) (.tuple (ns.map .str)) := by
  have := nice_tup (m := 0) (n := 122) (ds := ns.map .str) (fun y hy => by
    obtain ⟨x, hx, rfl⟩ := List.mem_map.mp hy
    exact nice_str (h x hx) (by decide)) (by rw [List.length_map]; exact hl)
  rw [List.length_map] at this; exact this
theorem nice_ints {is : List Int} (h : ∀ i ∈ is, 0 ≤ i ∧ i < 64) (hl : is.length ≤ 1000) : Nice 1 (is.length * 4 + 3) (.tuple (is.map .int)) := by
  have := nice_tup (m := 0) (n := 2) (ds := is.map .int) (fun y hy => by
    obtain ⟨i, hi, rfl⟩ := List.mem_map.mp hy
    exact nice_nat (h i hi)) (by rw [List.length_map]; exact hl)
  rw [List.length_map] at this; exact this
theorem nice_rows {n : Nat} {rs : List (List Int)} (h : OkR n rs) (hn : n ≤ 6) (t : rs.length ≤ 24) : Nice 2 1000 (rowsD rs) := by
  have := nice_tup (m := 1) (n := 27) (ds := rowsL rs) (fun y hy => by
    obtain ⟨r, hr, rfl⟩ := List.mem_map.mp hy
    obtain ⟨l, b⟩ := h.row r hr
    exact (nice_ints (fun i hi => by have := b i hi; omega) (by omega)).more (Nat.le_refl _) (by omega)) (by unfold rowsL; rw [List.length_map]; omega)
  refine this.more (Nat.le_refl _) ?_
  unfold rowsL; rw [List.length_map]; omega
theorem nice_pair {p : Pr} (h0 : 0 ≤ p.1) (h1 : p.1 < 64) (h2 : As 12 p.2) : Nice 1 251 (pairD p) := (nice_tup (m := 0) (n := 122) (ds := [.int p.1, .str p.2]) (fun y hy => by
  rcases List.mem_cons.mp hy with rfl | hy
  · exact (nice_nat ⟨h0, h1⟩).more (Nat.le_refl _) (by decide)
  · rw [List.mem_singleton.mp hy]; exact nice_str h2 (by decide)) (by show 2 ≤ 1000; decide)).more (Nat.le_refl _) (by show 2 * 124 + 3 ≤ 251; decide)
theorem nice_marks {ps : List Pr} (h : ∀ p ∈ ps, 0 ≤ p.1 ∧ p.1 < 64 ∧ As 12 p.2) (hl : ps.length ≤ 100) : Nice 2 25303 (.tuple (ps.map pairD)) := by
  have := nice_tup (m := 1) (n := 251) (ds := ps.map pairD) (fun y hy => by
    obtain ⟨p, hp, rfl⟩ := List.mem_map.mp hy
    obtain ⟨a, b, c⟩ := h p hp
    exact nice_pair a b c) (by rw [List.length_map]; omega)
  refine this.more (Nat.le_refl _) ?_
  rw [List.length_map]; omega
/-! ### equal data -/
theorem eqv_map {α : Type} [DecidableEq α] (f : α → PyData) (h : ∀ a b, PyData.eqv (f a) (f b) = decide (a = b)) : ∀ (xs ys : List α), PyData.eqvAll (xs.map f) (ys.map f) = decide (xs = ys)
  | [], [] => by simp [PyData.eqvAll]
  | [], y :: ys => by simp [PyData.eqvAll]
  | x :: xs, [] => by simp [PyData.eqvAll]
  | x :: xs, y :: ys => by
    have ih := eqv_map f h xs ys
    simp only [List.map_cons, PyData.eqvAll, ih, h]
    by_cases e1 : x = y <;> by_cases e2 : xs = ys <;> simp [e1, e2]
theorem eqv_int (a b : Int) : PyData.eqv (.int a) (.int b) = decide (a = b) := by
  simp only [PyData.eqv]; by_cases e : a = b <;> simp [e]
theorem eqv_str (a b : Str) : PyData.eqv (.str a) (.str b) = decide (a = b) := by
  simp only [PyData.eqv]; by_cases e : a = b
  · subst e; simp
  · rw [decide_eq_false e]; exact beq_eq_false_iff_ne.mpr e
theorem eqv_ints (a b : List Int) : PyData.eqv (.tuple (a.map .int)) (.tuple (b.map .int)) = decide (a = b) := by
  rw [PyData.eqv]; exact eqv_map _ eqv_int a b
theorem eqv_strs (a b : List Str) : PyData.eqv (.tuple (a.map .str)) (.tuple (b.map .str)) = decide (a = b) := by
  rw [PyData.eqv]; exact eqv_map _ eqv_str a b
theorem eqv_rows (a b : List (List Int)) : PyData.eqv (rowsD a) (rowsD b) = decide (a = b) := by
  unfold rowsD
  rw [PyData.eqv]; exact eqv_map (fun r => .tuple (r.map .int)) eqv_ints a b
theorem eqv_marks (a b : List Pr) : PyData.eqv (.tuple (a.map pairD)) (.tuple (b.map pairD)) = decide (a = b) := by
  rw [PyData.eqv]; exact eqv_map _ eqv_pair a b
end Ag

set_option Elab.async false
set_option linter.all false
set_option maxRecDepth 100000
set_option maxHeartbeats 2000000
set_option pp.maxSteps 300
namespace Ag
open PySem PySem.Spec PyProof.Rows L2
/-- the note that is open behind a call -/
def goP (ns : List Str) (rs : List (List Int)) (n : Nat) (x : Str) : Nat := if x ∈ ns then ((rs.getD n []).getD (ns.idxOf x) 0).toNat else n
theorem idx_nodup {ns : List Str} (nd : ns.Nodup) {i : Nat} {x : Str} (h : ns[i]? = some x) : ns.idxOf x = i := by
  induction ns generalizing i with
  | nil => cases h
  | cons y ns ih =>
    rw [List.nodup_cons] at nd
    cases i with
    | zero => simp at h; subst h; rw [List.idxOf_cons_self]
    | succ i =>
      have h : ns[i]? = some x := by simpa using h
      have ne : y ≠ x := fun e => nd.1 (by rw [e]; exact List.mem_of_getElem? h)
      rw [List.idxOf_cons, show (y == x) = false from beq_eq_false_iff_ne.mpr ne, ih nd.2 h]; rfl
theorem goP_in {ns : List Str} {rs : List (List Int)} (nd : ns.Nodup) (ok : OkR ns.length rs) {n i : Nat} {x : Str} {r : List Int} {z : Int} (hn : rs[n]? = some r) (hx : ns[i]? = some x) (hz : r[i]? = some z) : z = (goP ns rs n x : Nat) ∧ goP ns rs n x < rs.length := by
  obtain ⟨_, b⟩ := ok.row r (List.mem_of_getElem? hn)
  have hb := b z (List.mem_of_getElem? hz)
  have e : goP ns rs n x = z.toNat := by
    unfold goP
    rw [if_pos (List.mem_of_getElem? hx), idx_nodup nd hx, List.getD_eq_getElem?_getD, List.getD_eq_getElem?_getD, hn]
    show (r[i]?.getD 0).toNat = _
    rw [hz]; rfl
  rw [e]; omega
theorem goP_lt {ns : List Str} {rs : List (List Int)} (nd : ns.Nodup) (ok : OkR ns.length rs) {n : Nat} (hn : n < rs.length) (x : Str) : goP ns rs n x < rs.length := by
  by_cases h : x ∈ ns
  · obtain ⟨i, hi, e⟩ := List.getElem_of_mem h
    have hr := List.getElem?_eq_getElem hn
    have lr := (ok.row _ (List.getElem_mem hn)).1
    exact (goP_in nd ok hr (by rw [List.getElem?_eq_getElem hi, e]) (List.getElem?_eq_getElem (by omega))).2
  · unfold goP; rw [if_neg h]; exact hn
theorem goAll_lt {ns : List Str} {rs : List (List Int)} (nd : ns.Nodup) (ok : OkR ns.length rs) : ∀ (ws : List Str) {n : Nat}, n < rs.length → ws.foldl (goP ns rs) n < rs.length
  | [], _, h => h
  | x :: ws, _, h => goAll_lt nd ok ws (goP_lt nd ok h x)
/-- a call: the state behind it, and how many marked steps so far -/
def stepP (ns : List Str) (rs : List (List Int)) (ps : List Pr) (q : Nat × Nat) (x : Str) : Nat × Nat := (goP ns rs q.1 x, q.2 + if ((q.1 : Int), x) ∈ ps then 1 else 0)
theorem step_fst {ns : List Str} {rs : List (List Int)} {ps : List Pr} : ∀ (ws : List Str) (q : Nat × Nat), (ws.foldl (stepP ns rs ps) q).1 = ws.foldl (goP ns rs) q.1
  | [], _ => rfl
  | x :: ws, q => step_fst ws (stepP ns rs ps q x)
theorem step_snd {ns : List Str} {rs : List (List Int)} {ps : List Pr} : ∀ (ws : List Str) (q : Nat × Nat), (ws.foldl (stepP ns rs ps) q).2 ≤ q.2 + ws.length
  | [], _ => Nat.le_refl _
  | x :: ws, q => by
    have := step_snd (ns := ns) (rs := rs) (ps := ps) ws (stepP ns rs ps q x)
    have e : (stepP ns rs ps q x).2 ≤ q.2 + 1 := by
      unfold stepP; dsimp only; split <;> omega
    rw [List.foldl_cons, List.length_cons]; omega
/-- behind(word) -/
def spBehind (K : PySem.W.Frag) (C : Addr) : Sp := fun vs H Q _ => ∃ (b : Addr) (wv : V) (dw : PyData) (ws ns : List Str) (rs : List (List Int)) (ps : List Pr), vs = [.ref b, wv] ∧ MachAt K C b ns rs ps H ∧ OkR ns.length rs ∧ ns.Nodup ∧ Dp K H wv dw ∧ (dw = .list (ws.map .str) ∨ dw = .tuple (ws.map .str)) ∧ ∀ H', Same H H' → Q (.int ((ws.foldl (goP ns rs) 0 : Nat) : Int)) H'
/-- marks_along(state, word) -/
def spAlong (K : PySem.W.Frag) (C B : Addr) : Sp := fun vs H Q E => ∃ (b : Addr) (v wv : V) (d dw : PyData) (ws ns : List Str) (rs : List (List Int)) (ps : List Pr), vs = [.ref b, v, wv] ∧ MachAt K C b ns rs ps H ∧ OkR ns.length rs ∧ ns.Nodup ∧ Dp K H v d ∧ Dp K H wv dw ∧ (dw = .list (ws.map .str) ∨ dw = .tuple (ws.map .str)) ∧ ws.length ≤ 100000 ∧
  (wholeB d 0 ((rs.length : Int) - 1) = false → Out2 B "what" "number" (.str "state") v H E) ∧ ∀ n : Nat, d = .int (n : Int) → n < rs.length → ∀ H', Same H H' → Q (.int (((ws.foldl (stepP ns rs ps) (n, 0)).2 : Nat) : Int)) H'
/-- == beside another machine, or beside a tuple -/
def spEqMach (K : PySem.W.Frag) (C : Addr) : Sp := fun vs H Q _ => ∃ a b ns rs ps ms ts qs, vs = [.ref a, .ref b] ∧ MachAt K C a ns rs ps H ∧ MachAt K C b ms ts qs H ∧ Nice 4 60000 (.tuple [.tuple (ns.map .str), rowsD rs, .tuple (ps.map pairD)]) ∧ Nice 4 60000 (.tuple [.tuple (ms.map .str), rowsD ts, .tuple (qs.map pairD)]) ∧ ∀ H', Same H H' → Q (.bl ((decide (ns = ms) && decide (rs = ts)) && decide (ps = qs))) H'
def spEqTup (K : PySem.W.Frag) (C : Addr) : Sp := fun vs H Q _ => ∃ a b xs, vs = [.ref a, .ref b] ∧ SqT K H b xs ∧ ∀ H', Same H H' → Q (.bl false) H'
theorem tyx_tup {K : PySem.W.Frag} {H : Hp} {a : Addr} {xs : List V} (h : SqT K H a xs) : TyX K H (.ref a) (.type "tuple") := by
  rcases h with (h | ⟨o, h⟩) | ⟨o, its, n, hk, hc, _⟩
  · exact .base (.tup h)
  · exact .fTuple h
  · exact .kTuple hk hc
/-- isinstance(x, C), C a class of the text -/
theorem ed_isiO {K : PySem.W.Frag} {σ : L2.St} {F : Addr → Prop} {H : Hp} {i : Nat} {x : V} {t : Value} {C : Addr} {b : Bool} (h : σ[i]? = some (some x)) (ty : ∀ H1, Same H H1 → TyX K H1 x t) (kt : PySem.W.kitOne K t (.ref C) = some b) : ED K (tCB (rIsi K) (tCons (tVar i) (tCons (tC (.ref C)) tNil))) σ F H (.bool b) :=
  fun H1 s1 Q1 q1 => ⟨x, h, x, .ref C, t, _, b, rfl, .own _, ty H1 s1, kt, q1 _ _ (Same.refl _) (.bl _)⟩
theorem str_of {ws : List Str} {i : Nat} {d : PyData} (h : (ws.map PyData.str)[i]? = some d) : ∃ x, ws[i]? = some x ∧ d = PyData.str x := by
  rw [List.getElem?_map] at h
  cases e : ws[i]? with
  | none => rw [e] at h; cases h
  | some x => rw [e] at h; exact ⟨x, rfl, (Option.some.inj h).symm⟩
section
variable {P : Program} {w : World} {K : PySem.W.Frag} {mg : Str → Option Value} {base : Heap} (T : Txt w K mg)
theorem ok_behind : FnOk P w K mg base (L2.CX P w) 5 T.a_Machine_behind T.d_Machine_behind ["self", "word"] (spBehind K T.C_Machine) := by
  have G_Machine_go := ok_go (P := P) (base := base) T
  refine T.D_Machine_behind.fn.okX sc_Machine_behind (fun vs H Q E h => ?_) (fun cdv A outer s H vs Q E hr h => ?_)
  · obtain ⟨b, wv, dw, ws, ns, rs, ps, rfl, _⟩ := h; rfl
  · obtain ⟨b, wv, dw, ws, ns, rs, ps, rfl, hB, ok, nd, hw, hdw, k⟩ := h
    refine ⟨_, (pss_cons (ps_set (i := 2) sc_Machine_behind.nd rfl (by first | exact Or.inl rfl | exact Or.inr rfl) pe_int)
      (pss_cons (ps_for (passes_of rfl) rfl (pi_ve (pv 1)) (pg_name (i := 3) sc_Machine_behind.nd rfl (by first | exact Or.inl rfl | exact Or.inr rfl)) (pss_one (ps_set (i := 2) sc_Machine_behind.nd rfl (by first | exact Or.inl rfl | exact Or.inr rfl) (pe_meth (pv 0) T.cl_Machine T.mt_Machine_go (G_Machine_go) (hr.mono (by omega)) T.D_Machine_go.bd .nil (passes_call (takes_of rfl rfl rfl rfl) fun _ _ _ _ z => z) (pa_cons (pv 2) (pa_cons (pv 3) pa_nil))))))
      (pss_one (ps_ret (pv 2))))), ?_⟩
    refine s_for (K := K) (F := nn H) (fun i σ H' => ∃ o3, σ = [some (.ref b), some wv, some (.int (((ws.take i).foldl (goP ns rs) 0 : Nat) : Int)), o3]) (ei_ve (ds := ws.map .str) rfl (dp_df hw) hdw) (fun H1 s1 => ⟨none, rfl⟩) ?_ ?_
    · rintro i σ1 H1 s1 ⟨o3, rfl⟩ d v H2 hd s2 hv
      obtain ⟨x, hx, rfl⟩ := str_of hd
      cases hv
      have s12 := s1.trans s2
      have hB2 := hB.same s12
      obtain ⟨dx, ca, rv, mv, pd, md, kp, km, hb, _⟩ := id hB2
      have lt := goAll_lt nd ok (ws.take i) (show 0 < rs.length from ok.pos)
      refine ⟨_, rfl, b, dx, _, rfl, hb, bf_no no_go, _, rfl, _, rfl, b, _, _, x, ns, rs, ps, rfl, hB2, ok, .int _, fun h => ?_, fun n r e hr => ?_⟩
      · rw [whole_of.mpr ⟨by omega, by omega⟩] at h; cases h
      · have e : (((ws.take i).foldl (goP ns rs) 0 : Nat) : Int) = (n : Int) := PyData.int.inj e
        have e : (ws.take i).foldl (goP ns rs) 0 = n := by omega
        have e1 : (ws.take (i + 1)).foldl (goP ns rs) 0 = goP ns rs n x := by rw [take_snoc hx, List.foldl_append, e]; rfl
        refine ⟨fun hn H3 s3 => ⟨s2.trans s3, some (.str x), ?_⟩, fun j z H3 hj hz s3 => ⟨s2.trans s3, some (.str x), ?_⟩⟩
        · rw [e1]
          have : goP ns rs n x = n := by unfold goP; rw [if_neg hn]
          rw [this]; rfl
        · rw [e1, ← (goP_in nd ok hr hj hz).1]; rfl
    · rintro σ1 H1 s1 ⟨o3, rfl⟩
      rw [List.length_map, List.take_length]
      exact ⟨_, rfl, k H1 s1⟩
theorem ok_marks_along : FnOk P w K mg base (L2.CX P w) 5 T.a_Machine_marks_along T.d_Machine_marks_along ["self", "state", "word"] (spAlong K T.C_Machine T.C_BadNumber) := by
  have G_Machine_need_state := ok_need_state (P := P) (base := base) T
  have G_Machine_go := ok_go (P := P) (base := base) T
  have G_Machine_is_marked := ok_is_marked (P := P) (base := base) T
  refine T.D_Machine_marks_along.fn.okX sc_Machine_marks_along (fun vs H Q E h => ?_) (fun cdv A outer s H vs Q E hr h => ?_)
  · obtain ⟨b, v, wv, d, dw, ws, ns, rs, ps, rfl, _⟩ := h; rfl
  · obtain ⟨b, v, wv, d, dw, ws, ns, rs, ps, rfl, hB, ok, nd, hv, hw, hdw, wl, k1, k2⟩ := h
    refine ⟨_, (pss_cons (ps_expr (pe_meth (pv 0) T.cl_Machine T.mt_Machine_need_state (G_Machine_need_state) (hr.mono (by omega)) T.D_Machine_need_state.bd .nil (passes_call (takes_of rfl rfl rfl rfl) fun _ _ _ _ z => z) (pa_cons (pv 1) pa_nil)))
      (pss_cons (ps_set (i := 3) sc_Machine_marks_along.nd rfl (by first | exact Or.inl rfl | exact Or.inr rfl) pe_int)
      (pss_cons (ps_for (passes_of rfl) rfl (pi_ve (pv 2)) (pg_name (i := 4) sc_Machine_marks_along.nd rfl (by first | exact Or.inl rfl | exact Or.inr rfl)) (pss_cons (ps_aug (i := 3) sc_Machine_marks_along.nd rfl (by first | exact Or.inl rfl | exact Or.inr rfl) (pe_ifExp (pt_val (pe_meth (pv 0) T.cl_Machine T.mt_Machine_is_marked (G_Machine_is_marked) (hr.mono (by omega)) T.D_Machine_is_marked.bd .nil (passes_call (takes_of rfl rfl rfl rfl) fun _ _ _ _ z => z) (pa_cons (pv 1) (pa_cons (pv 4) pa_nil)))) pe_int pe_int) ip_add)
      (pss_one (ps_set (i := 1) sc_Machine_marks_along.nd rfl (by first | exact Or.inl rfl | exact Or.inr rfl) (pe_meth (pv 0) T.cl_Machine T.mt_Machine_go (G_Machine_go) (hr.mono (by omega)) T.D_Machine_go.bd .nil (passes_call (takes_of rfl rfl rfl rfl) fun _ _ _ _ z => z) (pa_cons (pv 1) (pa_cons (pv 4) pa_nil)))))))
      (pss_one (ps_ret (pv 3)))))), ?_⟩
    obtain ⟨dx, ca, rv, mv, pd, md, kp, km, hb, _⟩ := id hB
    refine ⟨_, rfl, b, dx, _, rfl, hb, bf_no no_need, _, rfl, b, v, d, ns, rs, ps, rfl, hB, hv, k1, fun hd H1 s1 => ?_⟩
    obtain ⟨i, rfl⟩ := whole_int hd
    obtain ⟨h0, h1⟩ := whole_of.mp hd
    obtain ⟨n, rfl⟩ : ∃ n : Nat, i = n := ⟨i.toNat, by omega⟩
    have k2 := k2 n rfl (by omega)
    cases hv
    have hB1 := hB.same s1
    refine s_for (K := K) (F := nn H1) (fun i σ H' => ∃ o4, σ = [some (.ref b), some (.int ((((ws.take i).foldl (stepP ns rs ps) (n, 0)).1 : Nat) : Int)), some wv, some (.int ((((ws.take i).foldl (stepP ns rs ps) (n, 0)).2 : Nat) : Int)), o4]) (ei_ve (ds := ws.map .str) rfl (dp_df (dp_mono s1 hw)) hdw) (fun H2 s2 => ⟨none, rfl⟩) ?_ ?_
    · rintro i σ1 H2 s2 ⟨o4, rfl⟩ d v H3 hd s3 hv
      obtain ⟨x, hx, rfl⟩ := str_of hd
      cases hv
      have s23 := s2.trans s3
      have hB3 := hB1.same s23
      have lt := goAll_lt nd ok (ws.take i) (show n < rs.length by omega)
      have ef := step_fst (ns := ns) (rs := rs) (ps := ps) (ws.take i) (n, 0)
      have es := step_snd (ns := ns) (rs := rs) (ps := ps) (ws.take i) (n, 0)
      have lw : (ws.take i).length ≤ 100000 := by rw [List.length_take]; omega
      have e1 : (ws.take (i + 1)).foldl (stepP ns rs ps) (n, 0) = stepP ns rs ps ((ws.take i).foldl (stepP ns rs ps) (n, 0)) x := by rw [take_snoc hx, List.foldl_append]; rfl
      rw [e1]
      generalize (ws.take i).foldl (stepP ns rs ps) (n, 0) = q at ef es
      obtain ⟨n1, m1⟩ := q
      dsimp only at ef es ⊢
      rw [← ef] at lt
      obtain ⟨dx, ca, rv, mv, pd, md, kp, km, hb3, _⟩ := id hB3
      refine ⟨_, rfl, _, rfl, b, dx, _, rfl, hb3, bf_no no_is_marked, _, rfl, _, rfl, b, _, _, x, ns, rs, ps, rfl, hB3, .int _, fun h => ?_, fun n2 e2 l2 H4 s4 => ?_⟩
      · rw [whole_of.mpr ⟨by omega, by omega⟩] at h; cases h
      · have e2 : (n1 : Int) = (n2 : Int) := PyData.int.inj e2
        have e2 : n1 = n2 := by omega
        subst e2
        refine ⟨_, rfl, ite2 (fun h => ?_) fun h => ?_⟩
        · have he : (if ((n1 : Int), x) ∈ ps then 1 else 0 : Nat) = 1 := if_pos (of_decide_eq_true h)
          have hB4 := hB3.same s4
          obtain ⟨dx, ca, rv, mv, pd, md, kp, km, hb4, _⟩ := id hB4
          refine ⟨_, _, rfl, rfl, _, rfl, b, dx, _, rfl, hb4, bf_no no_go, _, rfl, _, rfl, b, _, _, x, ns, rs, ps, rfl, hB4, ok, .int _, fun h => ?_, fun n3 r e3 hr => ?_⟩
          · rw [whole_of.mpr ⟨by omega, by omega⟩] at h; cases h
          · have e3 : (n1 : Int) = (n3 : Int) := PyData.int.inj e3
            have e3 : n1 = n3 := by omega
            subst e3
            refine ⟨fun hn H5 s5 => ⟨(s3.trans s4).trans s5, some (.str x), ?_⟩, fun j z H5 hj hz s5 => ⟨(s3.trans s4).trans s5, some (.str x), ?_⟩⟩
            · have eg : goP ns rs n1 x = n1 := by unfold goP; rw [if_neg hn]
              unfold stepP
              dsimp only
              rw [eg, he]; rfl
            · unfold stepP
              dsimp only
              rw [he, ← (goP_in nd ok hr hj hz).1]; rfl
        · have he : (if ((n1 : Int), x) ∈ ps then 1 else 0 : Nat) = 0 := if_neg (fun z => h (decide_eq_true z))
          have hB4 := hB3.same s4
          obtain ⟨dx, ca, rv, mv, pd, md, kp, km, hb4, _⟩ := id hB4
          refine ⟨_, _, rfl, rfl, _, rfl, b, dx, _, rfl, hb4, bf_no no_go, _, rfl, _, rfl, b, _, _, x, ns, rs, ps, rfl, hB4, ok, .int _, fun h => ?_, fun n3 r e3 hr => ?_⟩
          · rw [whole_of.mpr ⟨by omega, by omega⟩] at h; cases h
          · have e3 : (n1 : Int) = (n3 : Int) := PyData.int.inj e3
            have e3 : n1 = n3 := by omega
            subst e3
            refine ⟨fun hn H5 s5 => ⟨(s3.trans s4).trans s5, some (.str x), ?_⟩, fun j z H5 hj hz s5 => ⟨(s3.trans s4).trans s5, some (.str x), ?_⟩⟩
            · have eg : goP ns rs n1 x = n1 := by unfold goP; rw [if_neg hn]
              unfold stepP
              dsimp only
              rw [eg, he]; rfl
            · unfold stepP
              dsimp only
              rw [he, ← (goP_in nd ok hr hj hz).1]; rfl
    · rintro σ1 H2 s2 ⟨o4, rfl⟩
      rw [List.length_map, List.take_length]
      exact ⟨_, rfl, k2 H2 (s1.trans s2)⟩
theorem ok_eq_mach : FnOk P w K mg base CX0 1 T.a_Machine___eq__ T.d_Machine___eq__ ["self", "other"] (spEqMach K T.C_Machine) := by
  refine T.D_Machine___eq__.fn.ok sc_Machine___eq__ (fun vs H Q E h => ?_) (fun cdv A outer s H vs Q E hr h => ?_)
  · obtain ⟨a, b, ns, rs, ps, ms, ts, qs, rfl, _⟩ := h; rfl
  · obtain ⟨a, b, ns, rs, ps, ms, ts, qs, rfl, ⟨dx, ca, rv, mv, pd, md, kp, km, hb, hca, hrv, hmv, _⟩, ⟨dx2, ca2, rv2, mv2, pd2, md2, kp2, km2, hb2, hca2, hrv2, hmv2, _⟩, n1, n2, k⟩ := h
    refine ⟨_, (pss_cons (ps_if (pt_not (pt_val (pe_callB call_isi (by rfl) T.b_isinstance bt_isinstance (pa_cons (pv 1) (pa_cons (pe_glob (v := .ref T.C_Machine) (by rfl) T.g_Machine rfl) pa_nil))))) (pss_one (ps_ret pe_bl)) pss_nil)
      (pss_one (ps_ret (pe_cmpR (op_eqD hr.units) (pe_tup (pa_cons (pe_fld (pv 0) rfl) (pa_cons (pe_fld (pv 0) rfl) (pa_cons (pe_fld (pv 0) rfl) pa_nil)))) (pe_tup (pa_cons (pe_fld (pv 1) rfl) (pa_cons (pe_fld (pv 1) rfl) (pa_cons (pe_fld (pv 1) rfl) pa_nil)))) (nomark _))))), ?_⟩
    refine s_if (b := false) (et_is (et_not (et_B (ed_isiO (K := K) (F := nn H) rfl (fun H1 s1 => .base (T.ty_Machine _ _ _ _ (s1 _ _ hb2))) T.ki_Machine_Machine))) rfl) (fun h => nomatch h) (fun _ H1 s1 => ?_)
    dsimp only [tNext]
    refine s_ret (K := K) (F := nn H1) (ed_eqD (ed_tup (ea_cons (ed_fldI (d := .tuple (ns.map .str)) (i := 0) rfl (s1 _ _ hb) T.cl_Machine T.na_Machine_calls bf_calls (dp_df (.tup (s1.stA hca) (dps_strs ns)))) (ea_cons (ed_fldI (i := 0) rfl (s1 _ _ hb) T.cl_Machine T.na_Machine_rows bf_rows (dp_df (dp_mono s1 hrv))) (ea_cons (ed_fldI (i := 0) rfl (s1 _ _ hb) T.cl_Machine T.na_Machine_marks bf_marks (dp_df (dp_mono s1 hmv))) ea_nil))) (by show 3 ≤ 100000; decide))
      (ed_tup (ea_cons (ed_fldI (d := .tuple (ms.map .str)) (i := 1) rfl (s1 _ _ hb2) T.cl_Machine T.na_Machine_calls bf_calls (dp_df (.tup (s1.stA hca2) (dps_strs ms)))) (ea_cons (ed_fldI (i := 1) rfl (s1 _ _ hb2) T.cl_Machine T.na_Machine_rows bf_rows (dp_df (dp_mono s1 hrv2))) (ea_cons (ed_fldI (i := 1) rfl (s1 _ _ hb2) T.cl_Machine T.na_Machine_marks bf_marks (dp_df (dp_mono s1 hmv2))) ea_nil))) (by show 3 ≤ 100000; decide)) (shaped_of n1 (by decide)) (shaped_of n2 (by decide))) fun v H2 s2 hv => ?_
    cases hv
    have e : PyData.eqv (.tuple [.tuple (ns.map .str), rowsD rs, .tuple (ps.map pairD)]) (.tuple [.tuple (ms.map .str), rowsD ts, .tuple (qs.map pairD)]) = ((decide (ns = ms) && decide (rs = ts)) && decide (ps = qs)) := by
      rw [PyData.eqv, PyData.eqvAll, PyData.eqvAll, PyData.eqvAll, PyData.eqvAll, eqv_strs, eqv_rows, eqv_marks, Bool.and_true, Bool.and_assoc]
    rw [e]
    exact k H2 (s1.trans s2)
theorem ok_eq_tup : FnOk P w K mg base CX0 1 T.a_Machine___eq__ T.d_Machine___eq__ ["self", "other"] (spEqTup K T.C_Machine) := by
  refine T.D_Machine___eq__.fn.ok sc_Machine___eq__ (fun vs H Q E h => ?_) (fun cdv A outer s H vs Q E hr h => ?_)
  · obtain ⟨a, b, xs, rfl, _⟩ := h; rfl
  · obtain ⟨a, b, xs, rfl, hs, k⟩ := h
    refine ⟨_, (pss_cons (ps_if (pt_not (pt_val (pe_callB call_isi (by rfl) T.b_isinstance bt_isinstance (pa_cons (pv 1) (pa_cons (pe_glob (v := .ref T.C_Machine) (by rfl) T.g_Machine rfl) pa_nil))))) (pss_one (ps_ret pe_bl)) pss_nil)
      (pss_one (ps_ret (pe_cmpR (op_eqD hr.units) (pe_tup (pa_cons (pe_fld (pv 0) rfl) (pa_cons (pe_fld (pv 0) rfl) (pa_cons (pe_fld (pv 0) rfl) pa_nil)))) (pe_tup (pa_cons (pe_fld (pv 1) rfl) (pa_cons (pe_fld (pv 1) rfl) (pa_cons (pe_fld (pv 1) rfl) pa_nil)))) (nomark _))))), ?_⟩
    refine s_if (b := true) (et_is (et_not (et_B (ed_isiO (K := K) (F := nn H) rfl (fun H1 s1 => tyx_tup (s1.stA hs)) T.kt_Machine))) rfl) (fun _ H1 s1 => ?_) fun h => nomatch h
    exact k H1 s1
theorem ok_eq : FnOk P w K mg base CX0 1 T.a_Machine___eq__ T.d_Machine___eq__ ["self", "other"] (spOr (spEqMach K T.C_Machine) (spEqTup K T.C_Machine)) := fn_or (ok_eq_mach T) (ok_eq_tup T)
end
end Ag

set_option Elab.async false
set_option linter.all false
set_option maxRecDepth 100000
set_option maxHeartbeats 2000000
set_option pp.maxSteps 300
namespace Ag
open PySem PySem.Spec PyProof.Rows L2
/-! ### the sorted texts of a set are one list -/
def leS (a b : Str) : Prop := a.cps.toList ≤ b.cps.toList
theorem rising_pw : ∀ (l : List Str) (p : Str), risingS p l = true → (p :: l).Pairwise leS
  | [], p, _ => List.pairwise_singleton _ _
  | x :: r, p, h => by
    have h' : (!ltCps x.cps.toList p.cps.toList && risingS x r) = true := h
    obtain ⟨h1, h2⟩ := Bool.and_eq_true_iff.mp h'
    have ih := rising_pw r x h2
    have le : leS p x := by
      rw [ltCps_eq] at h1
      have : ¬ x.cps.toList < p.cps.toList := by simpa using h1
      exact List.not_lt.mp this
    refine List.pairwise_cons.mpr ⟨fun y hy => ?_, ih⟩
    rcases List.mem_cons.mp hy with rfl | hy
    · exact le
    · exact List.le_trans le ((List.pairwise_cons.mp ih).1 y hy)
theorem sorted_pw : ∀ (l : List Str), sortedS l = true → l.Pairwise leS
  | [], _ => .nil
  | x :: r, h => rising_pw r x h
theorem sorted_uniq {xs ys : List Str} (h1 : sortedS xs = true) (h2 : sortedS ys = true) (n1 : xs.Nodup) (n2 : ys.Nodup) (m : ∀ k, k ∈ xs ↔ k ∈ ys) : xs = ys :=
  List.Perm.eq_of_pairwise (le := leS) (fun a b _ _ h h' => Str.ext' (Array.toList_inj.mp (List.le_antisymm h h'))) (sorted_pw _ h1) (sorted_pw _ h2) ((List.perm_ext_iff_of_nodup n1 n2).mpr m)
theorem nameB_as {x : Str} (h : nameB x = true) : As 12 x := by
  unfold nameB at h
  simp only [Bool.and_eq_true, decide_eq_true_eq] at h
  refine ⟨fun c hc => ?_, by omega⟩
  have := List.all_eq_true.mp h.2 c hc
  rcases Bool.or_eq_true_iff.mp this with k | k
  · have := of_decide_eq_true k; omega
  · have := of_decide_eq_true k; omega
theorem upB_cons (x y : Str) (r : List Str) : upB ((x :: y :: r).map .str) = (decide (x.cps.toList < y.cps.toList) && upB ((y :: r).map .str)) := rfl
theorem up_pw : ∀ {ns : List Str}, upB (ns.map .str) = true → ns.Pairwise fun a b => a.cps.toList < b.cps.toList
  | [], _ => .nil
  | [x], _ => List.pairwise_singleton _ _
  | x :: y :: r, h => by
    rw [upB_cons, Bool.and_eq_true, decide_eq_true_eq] at h
    have ih := up_pw h.2
    refine List.pairwise_cons.mpr ⟨fun z hz => ?_, ih⟩
    rcases List.mem_cons.mp hz with rfl | hz
    · exact h.1
    · exact List.lt_trans h.1 ((List.pairwise_cons.mp ih).1 z hz)
theorem up_of : ∀ {ns : List Str}, sortedS ns = true → ns.Nodup → upB (ns.map .str) = true
  | [], _, _ => rfl
  | [x], _, _ => rfl
  | x :: y :: r, h, nd => by
    have pw := sorted_pw _ h
    rw [List.pairwise_cons] at pw
    have h2 : risingS x (y :: r) = true := h
    have h2 : (!ltCps y.cps.toList x.cps.toList && risingS y r) = true := h2
    rw [List.nodup_cons] at nd
    rw [upB_cons, up_of (ns := y :: r) (Bool.and_eq_true_iff.mp h2).2 nd.2, Bool.and_true, decide_eq_true_eq]
    have le : x.cps.toList ≤ y.cps.toList := pw.1 y List.mem_cons_self
    refine List.not_le.mp fun le2 => ?_
    have : x = y := Str.ext' (Array.toList_inj.mp (List.le_antisymm le le2))
    exact nd.1 (by rw [this]; exact List.mem_cons_self)
theorem sorted_of_up {ns : List Str} (h : upB (ns.map .str) = true) : sortedS ns = true ∧ ns.Nodup := by
  have pw := up_pw h
  refine ⟨sortedS_of_pairwise _ (pw.imp fun {a b} l => ?_), List.nodup_iff_pairwise_ne.mpr (pw.imp fun {a b} l e => ?_)⟩
  · rw [ltCps_eq]
    exact decide_eq_false (List.not_lt.mpr (List.le_of_lt l))
  · subst e; exact absurd l (List.lt_irrefl _)
/-- the texts are those of their set, ascending, just where each is under the next -/
theorem up_iff {ns ys : List Str} (s : sortedS ys = true) (nd : ys.Nodup) (m : ∀ k, k ∈ ys ↔ k ∈ ns) : decide (ns = ys) = upB (ns.map .str) := by
  by_cases h : ns = ys
  · subst h; rw [up_of s nd]; exact decide_eq_true rfl
  · rw [decide_eq_false h]
    cases q : upB (ns.map .str) with
    | false => rfl
    | true =>
      obtain ⟨s2, nd2⟩ := sorted_of_up q
      exact absurd (sorted_uniq s2 s nd2 nd fun k => (m k).symm) h
def namesD (d : PyData) : List Str := (partsD d).filterMap fun | .str x => some x | _ => none
theorem namesD_of {d : PyData} {ns : List Str} (h : partsD d = ns.map .str) : namesD d = ns := by
  unfold namesD
  rw [h, List.filterMap_map]
  show ns.filterMap some = ns
  exact List.filterMap_some
theorem pairs_depth : ∀ ts : List Pr, PyData.depthAll (ts.map pairD) ≤ 1
  | [] => by simp [PyData.depthAll]
  | p :: ts => by
    have := pairs_depth ts
    have := pair_depth p
    simp only [List.map_cons, PyData.depthAll]
    omega
def toldD (w : Str) (d : PyData) : PyData := .list [.str "row", .str w, .str d.shown]
def dueD (dc dr dm : PyData) : PyData := if isCalls dc then (if isRows dr (lenP dc) then (if isMarks (namesD dc) (lenP dr) dm then .none else toldD "marks" dm) else toldD "rows" dr) else toldD "calls" dc
def Shown (d : PyData) : Prop := d.showable = true ∧ d.depth ≤ 50 ∧ d.shown.length ≤ sizeLine
structure Given (K : PySem.W.Frag) (H : Hp) (v : V) (d : PyData) : Prop where
  dx : Dx K H v d
  g : gd d = true ∨ d = .dict []
  sh : Shown d
def spDue (K : PySem.W.Frag) : Sp := fun vs H Q _ => ∃ vc vr vm dc dr dm, vs = [vc, vr, vm] ∧ Given K H vc dc ∧ Given K H vr dr ∧ Given K H vm dm ∧ (partsD dm).length < 64 ∧ ∀ v H', Same H H' → Dp K H' v (dueD dc dr dm) → Q v H'
def rSetE (K : PySem.W.Frag) (P : Program) (w : World) : List V → Hp → VK → Prop := fun vs H Q => rSetS K P w vs H Q ∨ rSetT K P w vs H Q
theorem cr_setE {X : Cx} (hc : X.calm = true) : CallR X (.type "set") (rSetE X.K X.prog X.w) := by
  intro pins s σ H vs us Q I r h
  exact h.elim (fun h => cr_setS hc pins s σ H vs us Q I r h) (fun h => cr_setT hc pins s σ H vs us Q I r h)
section
variable {K : PySem.W.Frag} {σ : L2.St} {F : Addr → Prop} {H : Hp}
theorem ed_reprX {i : Nat} {v : V} {d : PyData} (h : σ[i]? = some (some v)) (hd : Dx K H v d) (s : Shown d) : ED K (tCB (rRepr K) (tCons (tVar i) tNil)) σ F H (.str d.shown) := fun H1 s1 Q q => ⟨v, h, v, d, rfl, hd.mono s1, s.1, s.2.1, s.2.2, q _ H1 (Same.refl _) (.str _)⟩
theorem ed_isiTLd {i : Nat} {a : Addr} (h : σ[i]? = some (some (.ref a))) (ha : H a = some (.dK [])) : ED K (tCB (rIsiT K) (tCons (tVar i) (tCons (tTup (tCons (tC (.ty "tuple")) (tCons (tC (.ty "list")) tNil))) tNil))) σ F H (.bool false) := fun H1 s1 Q q =>
  ⟨_, h, (by show 2 ≤ sizeLine; decide), fun p hp => ⟨.ref a, p, _, .type "dict", [.type "tuple", .type "list"], false, rfl, upd_same, .cons (.ty _) (.cons (.ty _) .nil), .base (.dK (Same.newA hp _ _ (s1 _ _ ha))), kitAny_dict, q _ _ (Same.newA hp) (.bl _)⟩⟩
end
theorem eqv_strsL (a b : List Str) : PyData.eqv (.list (a.map .str)) (.list (b.map .str)) = decide (a = b) := by
  rw [PyData.eqv]; exact eqv_map _ eqv_str a b
theorem lay_strs {ns : List Str} (h : ∀ x ∈ ns, nameB x = true) : SeqAt.shaped (.list (ns.map .str)) = true := by
  have g : gds (ns.map .str) = true := gds_of fun y hy => by
    obtain ⟨x, hx, rfl⟩ := List.mem_map.mp hy
    exact as_gd (nameB_as (h x hx)) (by decide)
  have d := strs_depth ns
  unfold SeqAt.shaped
  simp only [PyData.canLay0, gds_lay g, Bool.true_and, PyData.depth]
  exact decide_eq_true (by omega)
theorem filt_empty {p : PyData → Bool} (ds : List PyData) : (ds.filter fun x => !p x).isEmpty = ds.all p := by
  rw [Bool.eq_iff_iff, List.isEmpty_iff, List.filter_eq_nil_iff, List.all_eq_true]
  refine forall_congr' fun a => forall_congr' fun _ => ?_
  cases p a <;> simp
theorem lay_filter {p : PyData → Bool} {ds : List PyData} (h : ∀ x ∈ ds, gd x = true) : PyData.canLayAll0 ((ds.filter p).map fun x => x) = true := by
  rw [List.map_id']
  exact gds_lay (gds_of fun y hy => h y (List.mem_filter.mp hy).1)
section
variable {P : Program} {w : World} {K : PySem.W.Frag} {mg : Str → Option Value} {base : Heap} (T : Txt w K mg)
/-- list(calls) != sorted(set(calls)) -/
theorem et_up {σ : L2.St} {H : Hp} {i : Nat} {ca : Addr} {ns : List Str} (h : σ[i]? = some (some (.ref ca))) (hs : SqL K H ca (ns.map V.str) ∨ SqT K H ca (ns.map V.str)) (hn : ∀ x ∈ ns, nameB x = true) (hl : ns.length ≤ 1000) :
    ET (tTest (tOp (rNeD K) (tCB (fun xs H Q => ∃ p ys, xs = [.ref p] ∧ (SqL K H p ys ∨ SqT K H p ys) ∧ ∀ l, H l = none → Q (.ref l) (upd H l (.lst ys))) (tCons (tVar i) tNil)) (tCB (rSortSetS P w) (tCons (tCB (rSetE K P w) (tCons (tVar i) tNil)) tNil)))) σ H (!upB (ns.map .str)) := fun H1 s1 Q q => by
  refine ⟨_, h, ca, _, rfl, hs.imp s1.slA s1.stA, fun l hl1 => ⟨_, h, ?_⟩⟩
  have s2 := Same.newA (o := .lst (ns.map V.str)) hl1
  have fin : ∀ p, (upd H1 l (.lst (ns.map V.str))) p = none → rSortSetS P w [V.ref p] (upd (upd H1 l (.lst (ns.map V.str))) p (StrSet P w p ns)) (fun u H' => rNeD K (.ref l) u H' fun x H' => ∃ b, x = .bl b ∧ Q b H') := fun p hp => ⟨p, ns, rfl, upd_same, fun ys r sy nd mem hr => by
    have s3 := Same.newA (o := StrSet P w p ns) hp
    have s4 := Same.newA (o := .lst (ys.map V.str)) hr
    refine ⟨.list (ns.map .str), .list (ys.map .str), .lst (.inl (.inl (s4 _ _ (s3 _ _ upd_same)))) (dps_strs ns), .lst (.inl (.inl upd_same)) (dps_strs ys), lay_strs hn, lay_strs fun x hx => hn x ((mem x).mp hx), _, rfl, ?_⟩
    rw [eqv_strsL, up_iff sy nd mem]
    exact q _ ((s2.trans s3).trans s4)⟩
  rcases hs with hs | hs
  · exact .inl ⟨ca, ns, rfl, s2.slA (s1.slA hs), by omega, fin⟩
  · exact .inr ⟨ca, ns, rfl, s2.stA (s1.stA hs), by omega, fin⟩
/-- list(marks) == sorted(set(marks)) -/
theorem et_upM {σ : L2.St} {H : Hp} {i : Nat} {ma : Addr} {xs : List V} {ps : List Pr} (h : σ[i]? = some (some (.ref ma))) (hs : SqL K H ma xs ∨ SqT K H ma xs) (hx : DpAll K H xs (ps.map pairD)) (hl : ps.length < 64) (hg : gds (ps.map pairD) = true) :
    ET (tTest (tOp (rEqD K) (tCB (fun xs H Q => ∃ p ys, xs = [.ref p] ∧ (SqL K H p ys ∨ SqT K H p ys) ∧ ∀ l, H l = none → Q (.ref l) (upd H l (.lst ys))) (tCons (tVar i) tNil)) (tCB (rSortQ K P w) (tCons (tCB (rSetQ K P w) (tCons (tVar i) tNil)) tNil)))) σ H (upP ps) := fun H1 s1 Q q => by
  refine ⟨_, h, ma, _, rfl, hs.imp s1.slA s1.stA, fun l hl1 => ⟨_, h, ?_⟩⟩
  have s2 := Same.newA (o := .lst xs) hl1
  obtain ⟨ks, rfl, ek, hk⟩ := pairs_at hx
  have lk : ks.length = ps.length := by
    have := congrArg List.length ek
    rwa [List.length_map, List.length_map] at this
  refine ⟨ma, ks, rfl, (hs.imp s1.slA s1.stA).imp s2.slA s2.stA, fun z hz => s2.stA (s1.stA (hk z hz)), by omega, fun p hp => ?_⟩
  have s3 := Same.newA (o := KeySet P w p ks) hp
  have eD : (ks.map fun z => keyD z.2) = ps.map pairD := by
    have : (ks.map Prod.snd).map keyD = (ps.map pairK).map keyD := by rw [ek]
    rwa [List.map_map, List.map_map] at this
  refine ⟨p, ks, rfl, upd_same, fun z hz => s3.stA (s2.stA (s1.stA (hk z hz))), ?_, ?_, fun L zs r g nd pz ez hr => ?_⟩
  · rw [eD]
    intro d hd e he
    obtain ⟨p1, _, rfl⟩ := List.mem_map.mp hd
    obtain ⟨p2, _, rfl⟩ := List.mem_map.mp he
    exact alike_pair p1 p2
  · rw [eD]
    refine .inl fun d hd => ?_
    obtain ⟨p1, _, rfl⟩ := List.mem_map.mp hd
    exact ⟨_, _, rfl⟩
  · have s4 := Same.newA (o := .lst (zs.map fun z => V.ref z.1)) hr
    obtain ⟨qs, ndq, mq, eq, sub⟩ := sorted_keys ek g nd pz ez
    have dz : DpAll K (upd (upd (upd H1 l (.lst (ks.map fun z => V.ref z.1))) p (KeySet P w p ks)) r (.lst (zs.map fun z => V.ref z.1))) (zs.map fun z => V.ref z.1) ((qs.mergeSort leP).map pairD) := by
      rw [← eq]
      have all : ∀ N : List (Addr × List Key), (∀ z ∈ N, z ∈ ks) → DpAll K (upd (upd (upd H1 l (.lst (ks.map fun z => V.ref z.1))) p (KeySet P w p ks)) r (.lst (zs.map fun z => V.ref z.1))) (N.map fun z => V.ref z.1) (N.map fun z => keyD z.2) := by
        intro N
        induction N with
        | nil => exact fun _ => .nil
        | cons z N ih => exact fun hN => .cons (.tup (s4.stA (s3.stA (s2.stA (s1.stA (hk z (hN z List.mem_cons_self)))))) (dps_key z.2)) (ih fun y hy => hN y (List.mem_cons_of_mem _ hy))
      exact all zs sub
    have sh : ∀ ts : List Pr, gds (ts.map pairD) = true → SeqAt.shaped (.list (ts.map pairD)) = true := fun ts hg => by
      have dp := pairs_depth ts
      unfold SeqAt.shaped
      simp only [PyData.canLay0, gds_lay hg, Bool.true_and, PyData.depth]
      exact decide_eq_true (by omega)
    refine ⟨.list (ps.map pairD), .list ((qs.mergeSort leP).map pairD), .lst (.inl (.inl (s4 _ _ (s3 _ _ upd_same)))) (dps_mono ((s1.trans s2).trans (s3.trans s4)) hx), .lst (.inl (.inl upd_same)) dz, sh _ hg, sh _ (gds_of fun y hy => ?_), _, rfl, ?_⟩
    · obtain ⟨p1, h1, rfl⟩ := List.mem_map.mp hy
      have h2 : p1 ∈ ps := (mq p1).mp ((List.mergeSort_perm _ _).mem_iff.mp h1)
      exact gds_all hg _ (List.mem_map.mpr ⟨p1, h2, rfl⟩)
    · have e : PyData.eqv (.list (ps.map pairD)) (.list ((qs.mergeSort leP).map pairD)) = upP ps := by
        rw [PyData.eqv, ← up_sorted ndq mq]
        exact eqv_map _ eqv_pair _ _
      rw [e]
      exact q _ ((s2.trans s3).trans s4)
end
end Ag

set_option Elab.async false
set_option linter.all false
set_option maxRecDepth 100000
set_option maxHeartbeats 4000000
set_option pp.maxSteps 300
namespace Ag
open PySem PySem.Spec PyProof.Rows L2
section
variable {P : Program} {w : World} {K : PySem.W.Frag} {mg : Str → Option Value} {base : Heap} (T : Txt w K mg)
theorem ok_law_due : FnG P w K mg base CX0 3 T.a_law_due T.d_law_due ["calls", "rows", "marks"] (spDue K) := by
  have G_law_is_name := ok_law_is_name (P := P) (base := base) T
  have G_law_is_whole := ok_law_is_whole (P := P) (base := base) T
  refine okG T.D_law_due.fn sc_law_due (fun vs H Q E h => ?_) (fun A outer s H vs Q E hgd hr h => ?_)
  · obtain ⟨vc, vr, vm, dc, dr, dm, rfl, _⟩ := h; rfl
  · obtain ⟨vc, vr, vm, dc, dr, dm, rfl, ⟨xc, gc, shc⟩, ⟨xr, gr, shr⟩, ⟨xm, gm, shm⟩, few, k⟩ := h
    refine ⟨_, (pss_cons (ps_if (PW.pt (pw_or (pt_not (pt_val (pe_callB call_isiT (by rfl) T.b_isinstance bt_isinstance (pa_cons (pv 0) (pa_cons (pe_tup (pa_cons (pe_bltn (v := .ty "tuple") (by rfl) T.b_tuple bt_tuple rfl) (pa_cons (pe_bltn (v := .ty "list") (by rfl) T.b_list bt_list rfl) pa_nil))) pa_nil))))) (pw_or (pt_not (pt_chain op_le op_le pe_int (pe_callB call_len (by rfl) T.b_len bt_len (pa_cons (pv 0) pa_nil)) pe_int)) (pw_or (pt_cmpR (op_neE hr.units) (pe_lc (own := [("call", 3)]) rfl sc_law_due.nd (pi_ve (pv 0)) (blkOk_by (own := [("call", 3)]) (N := ["calls", "rows", "marks", "call", "row", "one", "step"]) (sc := defScope s_law_due) (by decide +kernel)) (fun _ _ _ _ _ => (pg_name (i := 3) sc_law_due.nd rfl (by first | exact Or.inl rfl | exact Or.inr rfl))) (fun _ _ _ _ _ => (pts_one (pt_not (pt_val (pe_call (G_law_is_name) (hr.mono (by omega)) (by rfl) T.D_law_is_name.mg T.D_law_is_name.fn.kp T.D_law_is_name.bd .nil pass0 (pa_cons (pv 3) pa_nil)))))) (fun _ _ _ _ _ => (pv 3))) (pe_lst pa_nil) (nomark _)) (pw_or1 (pt_cmpR (op_neD hr.units) (pe_callTy call_list_of (by rfl) T.b_list bt_list (pa_cons (pv 0) pa_nil)) (pe_callB (cr_sortSetS rfl) (by rfl) T.b_sorted bt_sorted (pa_cons (pe_callTy (cr_setE rfl) (by rfl) T.b_set bt_set (pa_cons (pv 0) pa_nil)) pa_nil)) (nomark _))))))) (pss_one (ps_ret (pe_lst (pa_cons pe_str (pa_cons pe_str (pa_cons (pe_callB (cr_repr hgd hr.units) (by rfl) T.b_repr bt_repr (pa_cons (pv 0) pa_nil)) pa_nil)))))) pss_nil)
      (pss_cons (ps_if (PW.pt (pw_or (pt_not (pt_val (pe_callB call_isiT (by rfl) T.b_isinstance bt_isinstance (pa_cons (pv 1) (pa_cons (pe_tup (pa_cons (pe_bltn (v := .ty "tuple") (by rfl) T.b_tuple bt_tuple rfl) (pa_cons (pe_bltn (v := .ty "list") (by rfl) T.b_list bt_list rfl) pa_nil))) pa_nil))))) (pw_or1 (pt_cmpR op_eq (pe_callB (call_lenK (K := K) rfl) (by rfl) T.b_len bt_len (pa_cons (pv 1) pa_nil)) pe_int (nomark _))))) (pss_one (ps_ret (pe_lst (pa_cons pe_str (pa_cons pe_str (pa_cons (pe_callB (cr_repr hgd hr.units) (by rfl) T.b_repr bt_repr (pa_cons (pv 1) pa_nil)) pa_nil)))))) pss_nil)
      (pss_cons (ps_for (passes_of rfl) rfl (pi_ve (pv 1)) (pg_name (i := 4) sc_law_due.nd rfl (by first | exact Or.inl rfl | exact Or.inr rfl)) (pss_one (ps_if (PW.pt (pw_or (pt_not (pt_val (pe_callB call_isi (by rfl) T.b_isinstance bt_isinstance (pa_cons (pv 4) (pa_cons (pe_bltn (v := .ty "tuple") (by rfl) T.b_tuple bt_tuple rfl) pa_nil))))) (pw_or (pt_cmpR op_ne (pe_callB call_len (by rfl) T.b_len bt_len (pa_cons (pv 4) pa_nil)) (pe_callB call_len (by rfl) T.b_len bt_len (pa_cons (pv 0) pa_nil)) (nomark _)) (pw_or1 (pt_cmpR (op_neE hr.units) (pe_lc (own := [("one", 5)]) rfl sc_law_due.nd (pi_tup (pv 4)) (blkOk_by (own := [("one", 5)]) (N := ["calls", "rows", "marks", "call", "row", "one", "step"]) (sc := defScope s_law_due) (by decide +kernel)) (fun _ _ _ _ _ => (pg_name (i := 5) sc_law_due.nd rfl (by first | exact Or.inl rfl | exact Or.inr rfl))) (fun _ _ _ _ _ => (pts_one (pt_not (pt_val (pe_call (G_law_is_whole) (hr.mono (by omega)) (by rfl) T.D_law_is_whole.mg T.D_law_is_whole.fn.kp T.D_law_is_whole.bd .nil pass0 (pa_cons (pv 5) (pa_cons pe_int (pa_cons (pe_op op_sub (pe_callB (call_lenK (K := K) rfl) (by rfl) T.b_len bt_len (pa_cons (pv 1) pa_nil)) pe_int) pa_nil)))))))) (fun _ _ _ _ _ => (pv 5))) (pe_lst pa_nil) (nomark _)))))) (pss_one (ps_ret (pe_lst (pa_cons pe_str (pa_cons pe_str (pa_cons (pe_callB (cr_repr hgd hr.units) (by rfl) T.b_repr bt_repr (pa_cons (pv 1) pa_nil)) pa_nil)))))) pss_nil)))
      (pss_cons (ps_if (pt_not (pt_val (pe_callB call_isiT (by rfl) T.b_isinstance bt_isinstance (pa_cons (pv 2) (pa_cons (pe_tup (pa_cons (pe_bltn (v := .ty "tuple") (by rfl) T.b_tuple bt_tuple rfl) (pa_cons (pe_bltn (v := .ty "list") (by rfl) T.b_list bt_list rfl) pa_nil))) pa_nil))))) (pss_one (ps_ret (pe_lst (pa_cons pe_str (pa_cons pe_str (pa_cons (pe_callB (cr_repr hgd hr.units) (by rfl) T.b_repr bt_repr (pa_cons (pv 2) pa_nil)) pa_nil)))))) pss_nil)
      (pss_cons (ps_for (passes_of rfl) rfl (pi_ve (pv 2)) (pg_name (i := 6) sc_law_due.nd rfl (by first | exact Or.inl rfl | exact Or.inr rfl)) (pss_one (ps_if (PW.pt (pw_or (pt_not (pt_val (pe_callB call_isi (by rfl) T.b_isinstance bt_isinstance (pa_cons (pv 6) (pa_cons (pe_bltn (v := .ty "tuple") (by rfl) T.b_tuple bt_tuple rfl) pa_nil))))) (pw_or (pt_cmpR op_ne (pe_callB call_len (by rfl) T.b_len bt_len (pa_cons (pv 6) pa_nil)) pe_int (nomark _)) (pw_or (pt_not (pt_val (pe_call (G_law_is_whole) (hr.mono (by omega)) (by rfl) T.D_law_is_whole.mg T.D_law_is_whole.fn.kp T.D_law_is_whole.bd .nil pass0 (pa_cons (pe_ix ix_seq (pv 6) pe_int (fun _ _ => rfl)) (pa_cons pe_int (pa_cons (pe_op op_sub (pe_callB (call_lenK (K := K) rfl) (by rfl) T.b_len bt_len (pa_cons (pv 1) pa_nil)) pe_int) pa_nil)))))) (pw_or (pt_not (pt_val (pe_callB call_isi (by rfl) T.b_isinstance bt_isinstance (pa_cons (pe_ix ix_seq (pv 6) pe_int (fun _ _ => rfl)) (pa_cons (pe_bltn (v := .ty "str") (by rfl) T.b_str bt_str rfl) pa_nil))))) (pw_or1 (pt_cmpR op_notIn_seq (pe_ix ix_seq (pv 6) pe_int (fun _ _ => rfl)) (pv 0) (by rfl)))))))) (pss_one (ps_ret (pe_lst (pa_cons pe_str (pa_cons pe_str (pa_cons (pe_callB (cr_repr hgd hr.units) (by rfl) T.b_repr bt_repr (pa_cons (pv 2) pa_nil)) pa_nil)))))) pss_nil)))
      (pss_one (ps_ret (pe_ifExp (pt_cmpR (op_eqD hr.units) (pe_callTy call_list_of (by rfl) T.b_list bt_list (pa_cons (pv 2) pa_nil)) (pe_callB (cr_sortQ rfl hr.units) (by rfl) T.b_sorted bt_sorted (pa_cons (pe_callTy (cr_setQ rfl (Nat.lt_of_le_of_lt (Nat.add_le_add_left (show 3 ≤ 64 by decide) _) hr.units)) (by rfl) T.b_set bt_set (pa_cons (pv 2) pa_nil)) pa_nil)) (nomark _)) pe_non (pe_lst (pa_cons pe_str (pa_cons pe_str (pa_cons (pe_callB (cr_repr hgd hr.units) (by rfl) T.b_repr bt_repr (pa_cons (pv 2) pa_nil)) pa_nil)))))))))))), ?_⟩
    have outC : isCalls dc = false → ∀ H1, Same H H1 → tRet (tLst (tCons (tC (.str "row")) (tCons (tC (.str "calls")) (tCons (tCB (rRepr K) (tCons (tVar 0) tNil)) tNil)))) { nx := fun _ H' => Q .non H', rt := Q } (start ["calls", "rows", "marks", "call", "row", "one", "step"] [vc, vr, vm]) H1 := fun hb H1 s1 => by
      refine s_ret (K := K) (F := nn H1) (ed_lst (ea_cons ed_str (ea_cons ed_str (ea_cons (ed_reprX rfl (xc.mono s1) shc) ea_nil))) (by show 3 ≤ 100000; decide)) fun v H2 s2 hv => k v H2 (s1.trans s2) ?_
      unfold dueD; rw [hb]; exact df_dp hv
    have outR : isCalls dc = true → isRows dr (lenP dc) = false → ∀ σ H2, Same H H2 → σ[1]? = some (some vr) → tRet (tLst (tCons (tC (.str "row")) (tCons (tC (.str "rows")) (tCons (tCB (rRepr K) (tCons (tVar 1) tNil)) tNil)))) { nx := fun _ H' => Q .non H', rt := Q } σ H2 := fun hc hb σ H2 s2 hσ => by
      refine s_ret (K := K) (F := nn H2) (ed_lst (ea_cons ed_str (ea_cons ed_str (ea_cons (ed_reprX hσ (xr.mono s2) shr) ea_nil))) (by show 3 ≤ 100000; decide)) fun v H3 s3 hv => k v H3 (s2.trans s3) ?_
      unfold dueD; rw [hc, hb]; exact df_dp hv
    have outM : isCalls dc = true → isRows dr (lenP dc) = true → isMarks (namesD dc) (lenP dr) dm = false → ∀ σ H2, Same H H2 → σ[2]? = some (some vm) → tRet (tLst (tCons (tC (.str "row")) (tCons (tC (.str "marks")) (tCons (tCB (rRepr K) (tCons (tVar 2) tNil)) tNil)))) { nx := fun _ H' => Q .non H', rt := Q } σ H2 := fun hc hr hb σ H2 s2 hσ => by
      refine s_ret (K := K) (F := nn H2) (ed_lst (ea_cons ed_str (ea_cons ed_str (ea_cons (ed_reprX hσ (xm.mono s2) shm) ea_nil))) (by show 3 ≤ 100000; decide)) fun v H3 s3 hv => k v H3 (s2.trans s3) ?_
      unfold dueD; rw [hc, hr, hb]; exact df_dp hv
    -- calls
    rcases xc with hc | ⟨rfl, a, rfl, ha⟩
    case inr => exact s_if (b := true) (et_is (et_or (b := true) (et_not (et_B (ed_isiTLd (K := K) (F := nn H) rfl ha))) fun h => nomatch h) rfl) (fun _ H2 s2 => outC rfl H2 s2) fun h => nomatch h
    have gdc : gd dc = true := gc.elim id fun e => by subst e; cases hc
    have hc0 : ∀ H1, Same H H1 → Df K (nn H) H1 vc dc := fun H1 s1 => df_mono s1 (fun _ z => z) (dp_df hc)
    have vC : ∀ H1, Same H H1 → ED K (tVar 0) (start ["calls", "rows", "marks", "call", "row", "one", "step"] [vc, vr, vm]) (nn H) H1 dc := fun H1 s1 => ed_var rfl (hc0 H1 s1)
    have isc := ed_isiTL (vC H (Same.refl H))
    refine s_if (b := !isCalls dc) ?_ (fun hb H1 s1 => outC (by simpa using hb) H1 s1) (fun hcb H1 s1 => ?_)
    · cases hl : listB dc with
      | false =>
        refine et_is (et_or (b := true) (et_not (et_B isc)) fun h => ?_) ?_
        · have h : (!listB dc) = false := by cases dc <;> exact h
          rw [hl] at h; cases h
        · have e : isCalls dc = false := by unfold isCalls; rw [hl]; rfl
          rw [e]
          simp
      | true =>
        obtain ⟨ds, hds, hp⟩ := listed_of hl
        obtain ⟨g1, g2⟩ := gd_parts hds gdc
        obtain ⟨l1, l2⟩ := len_parts ds hds
        have e0 : isCalls dc = callsB ds := by unfold isCalls; rw [hl, hp]; rfl
        rw [e0]
        refine et_is (et_or (et_not (et_is (b := true) (et_B isc) (by rcases hds with rfl | rfl <;> rfl))) fun _ => et_or (et_not (et_test (ed_chain (r := rI0 fun i j => .bl (decide (i ≤ j))) (r' := rI0 fun i j => .bl (decide (i ≤ j))) (ed_int (i := 1)) (ed_len (vC H (Same.refl _)) l1) (ed_int (i := 6)) rd_cmp fun _ => rd_cmp))) fun _ => et_or (b := !upB ds) (et_test (ed_neE (ed_lc (f := fun x => !isName x) (m := fun x => x) (ei_ve (i := 0) rfl (hc0 H (Same.refl _)) hds) (by omega) fun F2 H5 e2 v2 d2 hm hd2 => ⟨(start ["calls", "rows", "marks", "call", "row", "one", "step"] [vc, vr, vm]).set 3 (some v2), fun Q q => q, rfl, et_not (et_B (ed_call (ea_cons (ed_var (i := 3) rfl hd2) ea_nil) (rdc_spB (pre := fun d => gd d = true) (g1 _ hm)))), fun _ => ed_var (i := 3) rfl hd2⟩) ed_emp (lay_filter g1))) fun hn => ?last) ?fin
        case last =>
          have hn : ds.all isName = true := by
            rw [List.map_id', filt_empty] at hn
            simpa using hn
          obtain ⟨ns, rfl⟩ := names_of hn
          have hn2 : ∀ x ∈ ns, nameB x = true := fun x hx => List.all_eq_true.mp hn _ (List.mem_map.mpr ⟨x, hx, rfl⟩)
          rw [List.length_map] at g2
          rcases hds with rfl | rfl
          · cases hc with
            | lst hs r =>
              rw [strs_dps r] at hs
              exact et_up (P := P) (w := w) (ns := ns) rfl (.inl hs) hn2 g2
          · cases hc with
            | tup hs r =>
              rw [strs_dps r] at hs
              exact et_up (P := P) (w := w) (ns := ns) rfl (.inr hs) hn2 g2
        case fin =>
          rw [List.map_id', filt_empty, l2]
          show (!true || (!(decide (1 ≤ (ds.length : Int)) && decide ((ds.length : Int) ≤ 6)) || (!ds.all isName || !upB ds))) = !((decide (1 ≤ (ds.length : Int)) && decide ((ds.length : Int) ≤ 6)) && ds.all isName && upB ds)
          cases (decide (1 ≤ (ds.length : Int)) && decide ((ds.length : Int) ≤ 6)) <;> cases ds.all isName <;> cases upB ds <;> rfl
    have hcb : isCalls dc = true := by simpa using hcb
    obtain ⟨ns, hds, n1, n6⟩ := calls_of hcb
    have lc1 := (len_parts _ hds).1
    have pC : partsD dc = ns.map .str := by rcases hds with rfl | rfl <;> rfl
    have nD := namesD_of pC
    have outR := outR hcb
    have outM := outM hcb
    rw [nD] at outM
    clear outC isc
    dsimp only [tNext]
    -- rows
    rcases xr with hx | ⟨rfl, a, rfl, ha⟩
    case inr => exact s_if (b := true) (et_is (et_or (b := true) (et_not (et_B (ed_isiTLd (K := K) (F := nn H1) rfl (s1 _ _ ha)))) fun h => nomatch h) rfl) (fun _ H2 s2 => outR rfl _ H2 (s1.trans s2) rfl) fun h => nomatch h
    have gdr : gd dr = true := gr.elim id fun e => by subst e; cases hx
    have hr0 : ∀ H1, Same H H1 → Df K (nn H) H1 vr dr := fun H1 s1 => df_mono s1 (fun _ z => z) (dp_df hx)
    have vR : ∀ H1, Same H H1 → ED K (tVar 1) (start ["calls", "rows", "marks", "call", "row", "one", "step"] [vc, vr, vm]) (nn H) H1 dr := fun H1 s1 => ed_var rfl (hr0 H1 s1)
    have isr := ed_isiTL (vR H1 s1)
    cases hl : listB dr with
    | false =>
      refine s_if (b := true) (et_is (et_or (a := true) (b := true) (et_is (et_not (et_B isr)) (by cases dr <;> first | rfl | cases hl)) fun h => nomatch h) rfl) (fun _ H2 s2 => outR (by unfold isRows; rw [hl]; rfl) _ H2 (s1.trans s2) rfl) fun h => nomatch h
    | true =>
    obtain ⟨ds, hdr, hp⟩ := listed_of hl
    obtain ⟨g1, g2⟩ := gd_parts hdr gdr
    obtain ⟨l1, l2⟩ := len_parts ds hdr
    have e0 : isRows dr (lenP dc) = rowsB ds (lenP dc) := by unfold isRows; rw [hl, hp]; rfl
    refine s_if (b := decide ((ds.length : Int) = 0)) (et_is (et_or (et_not (et_is (b := true) (et_B isr) (by rcases hdr with rfl | rfl <;> rfl))) fun _ => et_test (ed_eqI (ed_len (vR H1 s1) l1) ed_int)) (by rw [l2]; rfl)) (fun hb H2 s2 => outR (by rw [e0]; unfold rowsB; rw [hb]; rfl) _ H2 (s1.trans s2) rfl) (fun hz H2 s2 => ?_)
    have hok : isRows dr (lenP dc) = ds.all (rowB (lenP dc) ds.length) := by rw [e0]; unfold rowsB; rw [hz]; rfl
    dsimp only [tNext]
    have s12 := s1.trans s2
    refine s_for (K := K) (F := nn H) (H := H2) (fun i σ H' => (∃ x, σ = (start ["calls", "rows", "marks", "call", "row", "one", "step"] [vc, vr, vm]).set 4 x) ∧ (ds.take i).all (rowB (lenP dc) ds.length) = true) (ei_ve (i := 1) rfl (hr0 H2 s12) hdr) (fun H3 s3 => ⟨⟨none, rfl⟩, rfl⟩) ?_ ?_
    · rintro i σ1 H3 s3 ⟨⟨x, rfl⟩, hI⟩ row u H4 hrow s4 hu
      have hm : row ∈ ds := List.mem_of_getElem? hrow
      have s14 := s12.trans (s3.trans s4)
      have uv : ∀ H5, Same H4 H5 → ED K (tVar 4) ((start ["calls", "rows", "marks", "call", "row", "one", "step"] [vc, vr, vm]).set 4 (some u)) (Fr (nn H) H2) H5 row := fun H5 s5 => ed_var rfl (df_mono s5 (fun _ z => z) hu)
      have cv : ED K (tVar 0) ((start ["calls", "rows", "marks", "call", "row", "one", "step"] [vc, vr, vm]).set 4 (some u)) (Fr (nn H) H2) H4 dc := ed_var rfl (df_mono (Same.refl _) (fun a z => .inl z) (hc0 H4 s14))
      have isi := ed_isi (T := "tuple") (uv H4 (Same.refl _)) (.inr (.inl rfl))
      refine s_if (b := !rowB (lenP dc) ds.length row) ?_ (fun hb H5 s5 => outR ?_ _ H5 (s14.trans s5) rfl) (fun hb H5 s5 => ?_)
      · cases row with
        | tuple xs =>
          obtain ⟨gx1, gx2⟩ := gd_parts (.inr rfl) (g1 _ hm)
          refine et_is (et_or (et_not (et_B isi)) fun _ => et_or (et_test (ed_neI (ed_len (uv H4 (Same.refl _)) rfl) (ed_len cv lc1))) fun _ => et_test (ed_neE (ed_lc (f := fun x => !wholeB x 0 ((ds.length : Int) - 1)) (m := fun x => x) (ei_tup (uv H4 (Same.refl _))) (by omega) fun F2 H5 e2 v2 d2 hm2 hd2 => ⟨((start ["calls", "rows", "marks", "call", "row", "one", "step"] [vc, vr, vm]).set 4 (some u)).set 5 (some v2), fun Q q => q, rfl, et_not (et_B (ed_call (ea_cons (ed_var (i := 5) rfl hd2) (ea_cons ed_int (ea_cons (ed_is (ed_sub (ed_len (ed_var (F := F2) (i := 1) (d := dr) rfl (df_ext e2 (df_mono (Same.refl _) (fun a z => .inl z) (hr0 H4 s14)))) l1) ed_int) (by rw [l2])) ea_nil))) rdc_whole)), fun _ => ed_var (i := 5) rfl hd2⟩) ed_emp (lay_filter gx1))) ?_
          rw [List.map_id', filt_empty (p := fun x => wholeB x 0 ((ds.length : Int) - 1))]
          show (!true || (!decide ((xs.length : Int) = (lenP dc : Int)) || !(xs.all fun x => wholeB x 0 ((ds.length : Int) - 1)))) = !(decide ((xs.length : Int) = (lenP dc : Int)) && xs.all fun x => wholeB x 0 ((ds.length : Int) - 1))
          cases decide ((xs.length : Int) = (lenP dc : Int)) <;> cases (xs.all fun x => wholeB x 0 ((ds.length : Int) - 1)) <;> rfl
        | _ => exact et_is (et_or (b := true) (et_not (et_B isi)) fun h => nomatch h) rfl
      · rw [hok, ← Bool.not_eq_true, List.all_eq_true]
        intro z
        have hb : rowB (lenP dc) ds.length row = false := by simpa using hb
        rw [z row hm] at hb; cases hb
      · have hb : rowB (lenP dc) ds.length row = true := by simpa using hb
        refine ⟨s4.trans s5, ⟨_, rfl⟩, ?_⟩
        rw [take_snoc hrow, List.all_append, hI]
        show (true && (rowB (lenP dc) ds.length row && true)) = true
        rw [hb]; rfl
    · rintro σ1 H3 s3 ⟨⟨x, rfl⟩, hI⟩
      rw [List.take_length] at hI
      have hrb : isRows dr (lenP dc) = true := by rw [hok, hI]
      have outM := outM hrb
      clear outR isr hI hok vR
      have s13 := s12.trans s3
      rcases xm with hm | ⟨rfl, a, rfl, ha⟩
      case inr => exact s_if (b := true) (et_is (et_not (et_B (ed_isiTLd (K := K) (F := nn H3) (i := 2) rfl (s13 _ _ ha)))) rfl) (fun _ H4 s4 => outM rfl _ H4 (s13.trans s4) rfl) fun h => nomatch h
      have gdm : gd dm = true := gm.elim id fun e => by subst e; cases hm
      have hm0 : ∀ H1, Same H H1 → Df K (nn H) H1 vm dm := fun H1 s1 => df_mono s1 (fun _ z => z) (dp_df hm)
      have vM : ∀ H1, Same H H1 → ED K (tVar 2) ((start ["calls", "rows", "marks", "call", "row", "one", "step"] [vc, vr, vm]).set 4 x) (nn H) H1 dm := fun H1 s1 => ed_var rfl (hm0 H1 s1)
      have ism := ed_isiTL (vM H3 s13)
      cases hlm : listB dm with
      | false =>
        exact s_if (b := true) (et_is (et_not (et_B ism)) (by cases dm <;> first | rfl | cases hlm)) (fun _ H4 s4 => outM (by unfold isMarks; rw [hlm]; rfl) _ H4 (s13.trans s4) rfl) fun h => nomatch h
      | true =>
      obtain ⟨es, hdm, hpm⟩ := listed_of hlm
      obtain ⟨k1, k2⟩ := gd_parts hdm gdm
      have e1 : isMarks ns (lenP dr) dm = marksB ns (lenP dr) es := by unfold isMarks; rw [hlm, hpm]; rfl
      refine s_if (b := false) (et_is (et_not (et_is (b := true) (et_B ism) (by rcases hdm with rfl | rfl <;> rfl))) rfl) (fun h => nomatch h) (fun _ H4 s4 => ?_)
      dsimp only [tNext]
      have s14 := s13.trans s4
      refine s_for (K := K) (F := nn H) (H := H4) (fun i σ H' => (∃ y, σ = ((start ["calls", "rows", "marks", "call", "row", "one", "step"] [vc, vr, vm]).set 4 x).set 6 y) ∧ (es.take i).all (stepB ns (lenP dr)) = true) (ei_ve (i := 2) rfl (hm0 H4 s14) hdm) (fun H5 s5 => ⟨⟨none, rfl⟩, rfl⟩) ?_ ?_
      · rintro i σ1 H5 s5 ⟨⟨y, rfl⟩, hI⟩ d u H6 hd s6 hu
        have hmem : d ∈ es := List.mem_of_getElem? hd
        have s16 := s14.trans (s5.trans s6)
        have uv : ∀ H7, Same H6 H7 → ED K (tVar 6) (((start ["calls", "rows", "marks", "call", "row", "one", "step"] [vc, vr, vm]).set 4 x).set 6 (some u)) (Fr (nn H) H4) H7 d := fun H7 s7 => ed_var rfl (df_mono s7 (fun _ z => z) hu)
        have cv : ED K (tVar 0) (((start ["calls", "rows", "marks", "call", "row", "one", "step"] [vc, vr, vm]).set 4 x).set 6 (some u)) (Fr (nn H) H4) H6 dc := ed_var rfl (df_mono (Same.refl _) (fun a z => .inl z) (hc0 H6 s16))
        have rvv : ED K (tVar 1) (((start ["calls", "rows", "marks", "call", "row", "one", "step"] [vc, vr, vm]).set 4 x).set 6 (some u)) (Fr (nn H) H4) H6 dr := ed_var rfl (df_mono (Same.refl _) (fun a z => .inl z) (hr0 H6 s16))
        have isi := ed_isi (T := "tuple") (uv H6 (Same.refl _)) (.inr (.inl rfl))
        refine s_if (b := !stepB ns (lenP dr) d) ?_ (fun hb H7 s7 => outM ?_ _ H7 (s16.trans s7) rfl) (fun hb H7 s7 => ?_)
        · cases d with
          | tuple xs =>
            by_cases h2 : xs.length = 2
            · obtain ⟨a, b, rfl⟩ : ∃ a b, xs = [a, b] := by
                match xs, h2 with
                | [a, b], _ => exact ⟨a, b, rfl⟩
              have t0 := et_not (et_B isi)
              have t1 := et_test (ed_neI (ed_len (uv H6 (Same.refl _)) rfl) (ed_int (i := 2)))
              have t2 := et_not (et_B (ed_call (E := E0) (ea_cons (ed_ixT (j := 0) (uv H6 (Same.refl _)) ed_int rfl) (ea_cons (ed_int (i := 0)) (ea_cons (ed_sub (ed_len rvv l1) (ed_int (i := 1))) ea_nil))) rdc_whole))
              cases b with
              | str z =>
                refine et_is (et_or t0 fun _ => et_or t1 fun _ => et_or t2 fun _ => et_or (et_not (et_B (ed_isi (T := "str") (ed_ixT (j := 1) (uv H6 (Same.refl _)) ed_int rfl) (.inl rfl)))) fun _ => et_test (ed_notInSeq (xs := ns) (ed_ixT (j := 1) (uv H6 (Same.refl _)) ed_int rfl) cv hds.symm)) ?_
                show (!true || (!decide ((2 : Int) = 2) || (!wholeB a 0 ((lenP dr : Int) - 1) || (!true || !decide (z ∈ ns))))) = !(wholeB a 0 ((lenP dr : Int) - 1) && decide (z ∈ ns))
                cases wholeB a 0 ((lenP dr : Int) - 1) <;> cases decide (z ∈ ns) <;> rfl
              | _ =>
                refine et_is (et_or t0 fun _ => et_or t1 fun _ => et_or t2 fun _ => et_or (b := true) (et_not (et_B (ed_isi (T := "str") (ed_ixT (j := 1) (uv H6 (Same.refl _)) ed_int rfl) (.inl rfl)))) fun h => absurd h (by simp [isiB])) ?_
                simp [stepB, isiB]
            · have e : stepB ns (lenP dr) (.tuple xs) = false := by
                cases z : stepB ns (lenP dr) (.tuple xs) with
                | false => rfl
                | true =>
                  obtain ⟨p, e, _⟩ := step_pair z
                  unfold pairD at e
                  injection e with e
                  exact absurd (by rw [e]; rfl) h2
              have ne : decide (((xs.length : Nat) : Int) = 2) = false := decide_eq_false (by omega)
              rw [e]
              exact et_is (et_or (et_not (et_B isi)) fun _ => et_or (a := true) (b := true) (et_is (et_test (ed_neI (ed_len (uv H6 (Same.refl _)) rfl) ed_int)) (by show (!decide (((xs.length : Nat) : Int) = 2)) = true; rw [ne]; rfl)) fun h => nomatch h) rfl
          | _ => exact et_is (et_or (b := true) (et_not (et_B isi)) fun h => nomatch h) rfl
        · rw [e1]
          unfold marksB
          have hb : stepB ns (lenP dr) d = false := by simpa using hb
          have : es.all (stepB ns (lenP dr)) = false := by
            rw [← Bool.not_eq_true, List.all_eq_true]
            intro z
            rw [z d hmem] at hb; cases hb
          rw [this]; rfl
        · have hb : stepB ns (lenP dr) d = true := by simpa using hb
          refine ⟨s6.trans s7, ⟨_, rfl⟩, ?_⟩
          rw [take_snoc hd, List.all_append, hI]
          show (true && (stepB ns (lenP dr) d && true)) = true
          rw [hb]; rfl
      · rintro σ1 H5 s5 ⟨⟨y, rfl⟩, hI⟩
        rw [List.take_length] at hI
        obtain ⟨ps, rfl, _⟩ := steps_pairs hI
        have e2 : isMarks ns (lenP dr) dm = upP ps := by
          rw [e1]; unfold marksB
          rw [hI, upD_pairs]; rfl
        have lps : ps.length < 64 := by
          rw [hpm, List.length_map] at few; exact few
        obtain ⟨ma, xs, rfl, sq, hxs⟩ : ∃ ma xs, vm = .ref ma ∧ (SqL K H ma xs ∨ SqT K H ma xs) ∧ DpAll K H xs (ps.map pairD) := by
          rcases hdm with rfl | rfl
          · cases hm with
            | lst a r => exact ⟨_, _, rfl, .inl a, r⟩
          · cases hm with
            | tup a r => exact ⟨_, _, rfl, .inr a, r⟩
        have s15 := s14.trans s5
        refine et_upM (P := P) (w := w) (K := K) (i := 2) rfl (sq.imp s15.slA s15.stA) (dps_mono s15 hxs) lps (gds_of k1) H5 (Same.refl _) _ fun H6 s6 => ite2 (fun h => k .non H6 (s15.trans s6) ?_) (fun h => outM (by rw [e2]; simpa using h) _ H6 (s15.trans s6) rfl)
        unfold dueD
        rw [hcb, hrb, nD, e2, h]; exact .non
end
end Ag

set_option Elab.async false
set_option linter.all false
set_option maxRecDepth 100000
set_option maxHeartbeats 1000000
namespace Ag
open PySem PySem.Spec PyProof.Rows L2 LamX
theorem xr_what : (("what" : Str) == ("row" : Str)) = false := by decide +kernel
theorem xn_what : (("what" : Str) == ("number" : Str)) = false := by decide +kernel
theorem xd_row {l s : V} : ([("row", s), ("what", l)] : List (Str × V)).lookup ("row" : Str) = some s := rfl
theorem xd_what {l s : V} : ([("row", s), ("what", l)] : List (Str × V)).lookup ("what" : Str) = some l := by
  rw [List.lookup_cons, xr_what]; rfl
theorem xd_num {l s : V} : ([("number", s), ("what", l)] : List (Str × V)).lookup ("number" : Str) = some s := rfl
theorem xd_whatn {l s : V} : ([("number", s), ("what", l)] : List (Str × V)).lookup ("what" : Str) = some l := by
  rw [List.lookup_cons, xn_what]; rfl
/-- what is caught: told as a list -/
def eWhy (K : PySem.W.Frag) (N B : Addr) (Q : VK) : XK := fun cls d H => ∃ (y : V) (w : Str) (dd : PyData) (dx : Addr), d = some dx ∧ Dx K H y dd ∧ Shown dd ∧
  ((cls = .ref N ∧ H dx = some (.xd [("number", y), ("what", .str w)]) ∧ ∀ p H2, Same H H2 → H2 p = some (.lst [.str "number", .str w, .str dd.shown]) → Q (.ref p) H2) ∨
    (cls = .ref B ∧ H dx = some (.xd [("row", y), ("what", .str w)]) ∧ ∀ p H2, Same H H2 → H2 p = some (.lst [.str "row", .str w, .str dd.shown]) → Q (.ref p) H2))
def TWhy (K : PySem.W.Frag) (N B : Addr) : (XK → Hp → VK → Prop) → Hp → VK → Prop := fun tl H Q => ∀ Q' : VK, (∀ v H', Q .non H' → Q' v H') → tl (eWhy K N B Q) H Q'
theorem exm_of {K : PySem.W.Frag} {C : Addr} {b : Bool} {cls : Value} (x : XfC K C) (o : OexC K C) (s : PySem.W.subIn K cls (.ref C) = some b) : PySem.W.exmOne K cls (.ref C) = some b := PySem.W.exm_ref x.exC x.hdC o.tyC s
def tsNo : Addr → Value → Option Addr → TS := fun _ _ _ _ _ _ => False
theorem why_gives {X : Cx} (T : Txt X.w X.K X.mg) {g : Addr} {cdg : Value} {q : Str} (hgd : X.A.guards = some []) (hun : X.A.units + 400 < cLine) :
    GivesTo X ["call", "found", "error"] "_law_why" (defScope s_law_why) g cdg (defBody s_law_why) "call" q (TWhy X.K T.C_BadNumber T.C_BadRow) := by
  intro f c' s H Q tl act hc h
  refine ⟨_, pss_cons (ps_set (i := 1) sc_law_why.nd rfl (.inl rfl) pe_non) (pss_cons (ps_try_named
    (l := [⟨.ref T.C_BadText, 2, tsNo⟩, ⟨.ref T.C_BadNumber, 2, fun a c d => tAsg (tLst (tCons (tC (.str "number")) (tCons (tXf a c d T.C_BadNumber "what" (tVar 2)) (tCons (tCB (rRepr X.K) (tCons (tXf a c d T.C_BadNumber "number" (tVar 2)) tNil)) tNil)))) (gName 1)⟩, ⟨.ref T.C_BadRow, 2, fun a c d => tAsg (tLst (tCons (tC (.str "row")) (tCons (tXf a c d T.C_BadRow "what" (tVar 2)) (tCons (tCB (rRepr X.K) (tCons (tXf a c d T.C_BadRow "row" (tVar 2)) tNil)) tNil)))) (gName 1)⟩, ⟨.ref T.C_NoName, 2, tsNo⟩, ⟨.ref T.C_Unlike, 2, tsNo⟩, ⟨.ref T.C_TooMany, 2, tsNo⟩])
    (tb := fun W D σ H => ∃ Ech : XK, (∀ cls d σ' H', Ech cls d H' → W cls d σ' H') ∧ σ[0]? = some (some (.ref f)) ∧ H c' = some (CodeO c' q) ∧ tl Ech H (fun _ H' => D.nx σ H'))
    rfl rfl sc_law_why.nd LamX.takes0 (fun W pn xe tk _ => ?body)
    (.cons ⟨by rfl, by decide, .inl T.g_BadText⟩ rfl rfl (fun a oe c d pn hz hf => pss_never)
    (.cons ⟨by rfl, by decide, .inl T.g_BadNumber⟩ rfl rfl (fun a oe c d pn hz hf => pss_one (ps_set (i := 1) sc_law_why.nd rfl (.inl rfl) (pe_lst (pa_cons pe_str (pa_cons (pe_xf (X := (cxOf C8.CX0 X.prog X.w X.K X.mg X.base ["call", "found", "error"] "_law_why" (defScope s_law_why) g cdg X.A X.stack s H C8.E0).nox) T.xf_BadNumber T.na_BadNumber_what hz hf (pv 2)) (pa_cons (pe_callB (r := rRepr X.K) (cr_repr (X := (cxOf C8.CX0 X.prog X.w X.K X.mg X.base ["call", "found", "error"] "_law_why" (defScope s_law_why) g cdg X.A X.stack s H C8.E0).nox.suite a ((a, oe) :: pn)) hgd (by show X.A.units + 3 + 64 < cLine; omega)) (by rfl) T.b_repr bt_repr (pa_cons (pe_xf (X := (cxOf C8.CX0 X.prog X.w X.K X.mg X.base ["call", "found", "error"] "_law_why" (defScope s_law_why) g cdg X.A X.stack s H C8.E0).nox) T.xf_BadNumber T.na_BadNumber_number hz hf (pv 2)) pa_nil)) pa_nil))))))
    (.cons ⟨by rfl, by decide, .inl T.g_BadRow⟩ rfl rfl (fun a oe c d pn hz hf => pss_one (ps_set (i := 1) sc_law_why.nd rfl (.inl rfl) (pe_lst (pa_cons pe_str (pa_cons (pe_xf (X := (cxOf C8.CX0 X.prog X.w X.K X.mg X.base ["call", "found", "error"] "_law_why" (defScope s_law_why) g cdg X.A X.stack s H C8.E0).nox) T.xf_BadRow T.na_BadRow_what hz hf (pv 2)) (pa_cons (pe_callB (r := rRepr X.K) (cr_repr (X := (cxOf C8.CX0 X.prog X.w X.K X.mg X.base ["call", "found", "error"] "_law_why" (defScope s_law_why) g cdg X.A X.stack s H C8.E0).nox.suite a ((a, oe) :: pn)) hgd (by show X.A.units + 3 + 64 < cLine; omega)) (by rfl) T.b_repr bt_repr (pa_cons (pe_xf (X := (cxOf C8.CX0 X.prog X.w X.K X.mg X.base ["call", "found", "error"] "_law_why" (defScope s_law_why) g cdg X.A X.stack s H C8.E0).nox) T.xf_BadRow T.na_BadRow_row hz hf (pv 2)) pa_nil)) pa_nil))))))
    (.cons ⟨by rfl, by decide, .inl T.g_NoName⟩ rfl rfl (fun a oe c d pn hz hf => pss_never)
    (.cons ⟨by rfl, by decide, .inl T.g_Unlike⟩ rfl rfl (fun a oe c d pn hz hf => pss_never)
    (.cons ⟨by rfl, by decide, .inl T.g_TooMany⟩ rfl rfl (fun a oe c d pn hz hf => pss_never) .nil))))))) (pss_one (ps_ret (pv 1)))), ?_⟩
  case body =>
    refine ⟨fun pins s' σ H' D I h' => ?_⟩
    obtain ⟨Ech, hW, h1, h2, h3⟩ := h'
    exact (pss_one (ps_expr (act W pn xe Ech _ _ tk hW))).run pins s' σ H' D I ⟨h1, h2, h3⟩
  · refine ⟨eWhy X.K T.C_BadNumber T.C_BadRow Q, fun cls d σ' H' he => ?_, rfl, hc, h _ fun v H' q => ⟨_, rfl, q⟩⟩
    obtain ⟨y, w, dd, dx, rfl, hy, ⟨h1, h2, h3⟩, ⟨rfl, hdx, k⟩ | ⟨rfl, hdx, k⟩⟩ := he
    · refine ⟨false, exm_of T.xf_BadText T.ox_BadText T.sb_BadNumber_BadText, fun h => (nomatch h), fun _ => ⟨true, exm_of T.xf_BadNumber T.ox_BadNumber T.sb_BadNumber, fun _ hl a ha => ?_, fun h => (nomatch h)⟩⟩
      have hl : σ'.length = 3 := hl
      have e2 : (σ'.set 2 (some (V.ref a)))[2]? = some (some (.ref a)) := List.getElem?_set_self (by omega)
      refine ⟨_, e2, rfl, rfl, dx, _, _, rfl, hdx, xd_whatn, _, e2, rfl, rfl, dx, _, _, rfl, hdx, xd_num, _, dd, rfl, hy, h1, h2, h3, (by show 3 ≤ sizeLine; decide), fun p hp => ?_⟩
      refine ⟨_, ?_, k p _ (Same.newA hp) upd_same⟩
      show (((σ'.set 2 (some (V.ref a))).set 1 (some (V.ref p))).set 2 none)[1]? = _
      rw [List.getElem?_set_ne (by decide), List.getElem?_set_self (by rw [List.length_set]; omega)]
    · refine ⟨false, exm_of T.xf_BadText T.ox_BadText T.sb_BadRow_BadText, fun h => (nomatch h), fun _ => ⟨false, exm_of T.xf_BadNumber T.ox_BadNumber T.sb_BadRow_BadNumber, fun h => (nomatch h), fun _ => ⟨true, exm_of T.xf_BadRow T.ox_BadRow T.sb_BadRow, fun _ hl a ha => ?_, fun h => (nomatch h)⟩⟩⟩
      have hl : σ'.length = 3 := hl
      have e2 : (σ'.set 2 (some (V.ref a)))[2]? = some (some (.ref a)) := List.getElem?_set_self (by omega)
      refine ⟨_, e2, rfl, rfl, dx, _, _, rfl, hdx, xd_what, _, e2, rfl, rfl, dx, _, _, rfl, hdx, xd_row, _, dd, rfl, hy, h1, h2, h3, (by show 3 ≤ sizeLine; decide), fun p hp => ?_⟩
      refine ⟨_, ?_, k p _ (Same.newA hp) upd_same⟩
      show (((σ'.set 2 (some (V.ref a))).set 1 (some (V.ref p))).set 2 none)[1]? = _
      rw [List.getElem?_set_ne (by decide), List.getElem?_set_self (by rw [List.length_set]; omega)]
end Ag

set_option Elab.async false
set_option linter.all false
set_option maxRecDepth 100000
set_option maxHeartbeats 1000000
set_option pp.maxSteps 300
namespace Ag
open PySem PySem.Spec PyProof.Rows L2
def leafD : PyData → Bool | .bool _ => true | .int _ => true | _ => false
def spSame (K : PySem.W.Frag) : Sp := fun vs H Q _ => ∃ x y d, vs = [x, y] ∧ Dp K H x d ∧ Dp K H y d ∧ leafD d = true ∧ SeqAt.shaped d = true ∧ ∀ H', Same H H' → Q (.bl true) H'
section
variable {P : Program} {w : World} {K : PySem.W.Frag} {mg : Str → Option Value} {base : Heap} (T : Txt w K mg)
theorem step_same (m : Nat) {spR : Sp} (G_law_same : FnOk P w K mg base CX0 m T.a_law_same T.d_law_same ["told", "due"] spR) : FnOk P w K mg base CX0 (m + 1) T.a_law_same T.d_law_same ["told", "due"] (spSame K) := by
  refine T.D_law_same.fn.ok sc_law_same (fun vs H Q E h => ?_) (fun cdv A outer s H vs Q E hr h => ?_)
  · obtain ⟨x, y, d, rfl, _⟩ := h; rfl
  · obtain ⟨x, y, d, rfl, hx, hy, hd, sd, k⟩ := h
    refine ⟨_, (pss_cons (ps_if (pt_val (pe_callB call_isi (by rfl) T.b_isinstance bt_isinstance (pa_cons (pv 1) (pa_cons (pe_bltn (v := .ty "tuple") (by rfl) T.b_tuple bt_tuple rfl) pa_nil)))) (pss_one (ps_ret (pe_and (pe_callB call_isi (by rfl) T.b_isinstance bt_isinstance (pa_cons (pv 0) (pa_cons (pe_bltn (v := .ty "tuple") (by rfl) T.b_tuple bt_tuple rfl) pa_nil))) (pe_and (pe_cmpR op_eq (pe_callB call_len (by rfl) T.b_len bt_len (pa_cons (pv 0) pa_nil)) (pe_callB call_len (by rfl) T.b_len bt_len (pa_cons (pv 1) pa_nil)) (nomark _)) (pe_one (pe_callB (cr_all rfl) (by rfl) T.b_all bt_all (pa_cons (pe_lc (own := [("one", 2), ("two", 3)]) (g := (gTup K 2 (gCons (gName 2) (gCons (gName 3) gNil)))) rfl sc_law_same.nd (RZ.pi_zipA (by rfl) T.b_zip (pa_cons (pv 0) (pa_cons (pv 1) pa_nil))) (blkOk_by (own := [("one", 2), ("two", 3)]) (N := ["told", "due", "one", "two"]) (sc := defScope s_law_same) (by decide +kernel)) (fun _ _ _ _ _ => (pg_tup rfl (pgs_cons (pg_name (i := 2) sc_law_same.nd rfl (by first | exact Or.inl rfl | exact Or.inr rfl)) (pgs_cons (pg_name (i := 3) sc_law_same.nd rfl (by first | exact Or.inl rfl | exact Or.inr rfl)) pgs_nil)))) (fun _ _ _ _ _ => pts_nil) (fun _ _ _ _ _ => (pe_call (G_law_same) (hr.mono (by omega)) (by rfl) T.D_law_same.mg T.D_law_same.fn.kp T.D_law_same.bd .nil pass0 (pa_cons (pv 2) (pa_cons (pv 3) pa_nil))))) pa_nil))))))) pss_nil)
      (pss_cons (ps_if (pt_cmpR op_isN (pv 1) pe_non (nomark _)) (pss_one (ps_ret (pe_cmpR op_isN (pv 0) pe_non (nomark _)))) pss_nil)
      (pss_cons (ps_if (pt_cmpR op_isB (pv 1) pe_bl (nomark _)) (pss_one (ps_ret (pe_cmpR op_isB (pv 0) pe_bl (nomark _)))) pss_nil)
      (pss_cons (ps_if (pt_cmpR op_isB (pv 1) pe_bl (nomark _)) (pss_one (ps_ret (pe_cmpR op_isB (pv 0) pe_bl (nomark _)))) pss_nil)
      (pss_cons (ps_if (pt_val (pe_callB call_isi (by rfl) T.b_isinstance bt_isinstance (pa_cons (pv 1) (pa_cons (pe_bltn (v := .ty "int") (by rfl) T.b_int bt_int rfl) pa_nil)))) (pss_one (ps_ret (pe_and (pe_callB call_isi (by rfl) T.b_isinstance bt_isinstance (pa_cons (pv 0) (pa_cons (pe_bltn (v := .ty "int") (by rfl) T.b_int bt_int rfl) pa_nil))) (pe_and (pe_not (pe_callB call_isi (by rfl) T.b_isinstance bt_isinstance (pa_cons (pv 0) (pa_cons (pe_bltn (v := .ty "bool") (by rfl) T.b_bool bt_bool rfl) pa_nil)))) (pe_one (pe_cmpR (op_eqD hr.units) (pv 0) (pv 1) (nomark _))))))) pss_nil)
      (pss_one (ps_ret (pe_and (pe_callB call_isi (by rfl) T.b_isinstance bt_isinstance (pa_cons (pv 0) (pa_cons (pe_bltn (v := .ty "str") (by rfl) T.b_str bt_str rfl) pa_nil))) (pe_one (pe_cmpR (op_eqD hr.units) (pv 0) (pv 1) (nomark _))))))))))), ?_⟩
    have h0 : ∀ H1, Same H H1 → ED K (tVar 0) (start ["told", "due", "one", "two"] [x, y]) (nn H) H1 d := fun H1 s1 => ed_var rfl (df_mono s1 (fun _ z => z) (dp_df hx))
    have h1 : ∀ H1, Same H H1 → ED K (tVar 1) (start ["told", "due", "one", "two"] [x, y]) (nn H) H1 d := fun H1 s1 => ed_var rfl (df_mono s1 (fun _ z => z) (dp_df hy))
    cases d with
    | bool b =>
      refine s_if (b := false) (et_B (ed_isi (T := "tuple") (h1 H (Same.refl _)) (.inr (.inl rfl)))) (fun h => nomatch h) fun _ H1 s1 => ?_
      refine s_if (b := false) (et_test (ed_isN (h1 H1 s1))) (fun h => nomatch h) fun _ H2 s2 => ?_
      have s12 := s1.trans s2
      refine s_if (et_test (ed_isB (h1 H2 s12))) (fun h H3 s3 => ?_) fun h H3 s3 => ?_
      · have s13 := s12.trans s3
        exact s_retB (ed_isB (h0 H3 s13)) h fun H4 s4 => k H4 (s13.trans s4)
      · have s13 := s12.trans s3
        refine s_if (et_test (ed_isB (h1 H3 s13))) (fun h2 H4 s4 => ?_) fun h2 H4 s4 => ?_
        · exact s_retB (ed_isB (h0 H4 (s13.trans s4))) h2 fun H5 s5 => k H5 ((s13.trans s4).trans s5)
        · cases b
          · cases h2
          · cases h
    | int z =>
      refine s_if (b := false) (et_B (ed_isi (T := "tuple") (h1 H (Same.refl _)) (.inr (.inl rfl)))) (fun h => nomatch h) fun _ H1 s1 => ?_
      refine s_if (b := false) (et_test (ed_isN (h1 H1 s1))) (fun h => nomatch h) fun _ H2 s2 => ?_
      have s12 := s1.trans s2
      refine s_if (b := false) (et_test (ed_isB (h1 H2 s12))) (fun h => nomatch h) fun h H3 s3 => ?_
      have s13 := s12.trans s3
      refine s_if (b := false) (et_test (ed_isB (h1 H3 s13))) (fun h => nomatch h) fun h H4 s4 => ?_
      have s14 := s13.trans s4
      refine s_if (b := true) (et_B (ed_isi (T := "int") (h1 H4 s14) (.inr (.inr (.inr (.inl rfl)))))) (fun h H5 s5 => ?_) fun h => nomatch h
      have s15 := s14.trans s5
      exact s_retB (ed_andV (ed_isi (T := "int") (h0 H5 s15) (.inr (.inr (.inr (.inl rfl))))) fun _ => ed_andV (ed_notV (ed_isi (T := "bool") (h0 H5 s15) (.inr (.inr (.inr (.inr rfl)))))) fun _ => ed_eqD (h0 H5 s15) (h1 H5 s15) sd sd) (by rw [eqv_int, decide_eq_true rfl]; rfl) fun H6 s6 => k H6 (s15.trans s6)
    | _ => cases hd
theorem ok_law_same : FnOk P w K mg base CX0 2 T.a_law_same T.d_law_same ["told", "due"] (spSame K) := step_same T 1 (no_ok 0 T.D_law_same sc_law_same)
end
end Ag

set_option Elab.async false
set_option linter.all false
set_option maxRecDepth 100000
set_option maxHeartbeats 2000000
set_option pp.maxSteps 300
namespace Ag
open PySem PySem.Spec PyProof.Rows L2
/-! ### the law's own machine: a dict of calls, rows, marks -/
theorem mk1 : ¬ ck "calls" = ck "rows" := by decide +kernel
theorem mk2 : ¬ ck "calls" = ck "marks" := by decide +kernel
theorem mk3 : ¬ ck "rows" = ck "marks" := by decide +kernel
theorem ms1 : ¬ Str.ofString "calls" = Str.ofString "rows" := by decide +kernel
theorem ms2 : ¬ Str.ofString "calls" = Str.ofString "marks" := by decide +kernel
theorem ms3 : ¬ Str.ofString "rows" = Str.ofString "marks" := by decide +kernel
def mcKV (cs R md : Addr) : List (Key × V) := [(ck "calls", .ref cs), (ck "rows", .ref R), (ck "marks", .ref md)]
theorem merge_mc {cs R md : Addr} : mergeK [] [(ck "calls", V.ref cs), (ck "rows", .ref R), (ck "marks", .ref md)] = mcKV cs R md := by
  unfold mergeK
  simp [putK, mcKV, ck, ms1, ms2, ms3]
section
variable {cs R md : Addr} {H : Hp} {m : Addr}
theorem mc_calls : valV (mcKV cs R md) (ck "calls") = some (.ref cs) := valV_pos rfl
theorem mc_rows : valV (mcKV cs R md) (ck "rows") = some (.ref R) := by unfold mcKV; rw [valV_neg mk1]; exact valV_pos rfl
theorem mc_marks : valV (mcKV cs R md) (ck "marks") = some (.ref md) := by unfold mcKV; rw [valV_neg mk2, valV_neg mk3]; exact valV_pos rfl
theorem mg_calls (h : H m = some (.dK (mcKV cs R md))) : DGet H m (.str "calls") (some (.ref cs)) := by
  have q := DGet.k (k := ck "calls") h
  rw [mc_calls] at q; exact q
theorem mg_rows (h : H m = some (.dK (mcKV cs R md))) : DGet H m (.str "rows") (some (.ref R)) := by
  have q := DGet.k (k := ck "rows") h
  rw [mc_rows] at q; exact q
theorem mg_marks (h : H m = some (.dK (mcKV cs R md))) : DGet H m (.str "marks") (some (.ref md)) := by
  have q := DGet.k (k := ck "marks") h
  rw [mc_marks] at q; exact q
end
/-- rows, lists of lists -/
def rowsLL (rs : List (List Int)) : PyData := .list (rs.map fun r => .list (r.map .int))
def McAt (K : PySem.W.Frag) (m : Addr) (ns : List Str) (rs : List (List Int)) (ps : List Pr) (H : Hp) : Prop :=
  ∃ (cs R md : Addr) (km : List (List Key × V)), H m = some (.dK (mcKV cs R md)) ∧ FzT H cs (ns.map V.str) ∧ Dp K H (.ref R) (rowsLL rs) ∧ H md = some (.dT km) ∧ km.map Prod.fst = ps.map pairK
theorem McAt.same {K : PySem.W.Frag} {m : Addr} {ns : List Str} {rs : List (List Int)} {ps : List Pr} {H H' : Hp} (s : Same H H') (h : McAt K m ns rs ps H) : McAt K m ns rs ps H' := by
  obtain ⟨cs, R, md, km, h1, h2, h3, h4, h5⟩ := h
  exact ⟨cs, R, md, km, s _ _ h1, FzT.same s h2, dp_mono s h3, s _ _ h4, h5⟩
theorem McAt.but {K : PySem.W.Frag} {m p c : Addr} {n : Nat} {ns : List Str} {rs : List (List Int)} {ps : List Pr} {H H' : Hp} (P : Pen p c n H) (b : But p H H') (h : McAt K m ns rs ps H) : McAt K m ns rs ps H' := by
  obtain ⟨cs, R, md, km, h1, ⟨o, e, d⟩, h3, h4, h5⟩ := h
  have nm : m ≠ p := fun z => by
    subst z
    obtain ⟨ce, a', dd, k, f, hp, _⟩ := P
    have z := HO.dK.inj (Option.some.inj (h1.symm.trans hp))
    have := congrArg List.length z
    unfold mcKV penKV at this
    cases this
  exact ⟨cs, R, md, km, b _ _ nm h1, ⟨o, b _ _ (P.ne e (fun _ z => nomatch z)) e, d⟩, P.dp b h3, b _ _ (P.ne h4 (fun _ z => nomatch z)) h4, h5⟩
theorem marked_km {km : List (List Key × V)} {ps : List Pr} (e : km.map Prod.fst = ps.map pairK) (q : Pr) : (valV km (pairK q)).isSome = decide (q ∈ ps) := by
  have h : (valV km (pairK q)).isSome = km.any fun kv => decide (kv.1 = pairK q) := by rw [valV_any]
  rw [h, Bool.eq_iff_iff, List.any_eq_true, decide_eq_true_eq]
  constructor
  · rintro ⟨kv, hkv, e2⟩
    have e2 := of_decide_eq_true e2
    have : pairK q ∈ ps.map pairK := by
      rw [← e, ← e2]; exact List.mem_map.mpr ⟨kv, hkv, rfl⟩
    obtain ⟨p, hp, e3⟩ := List.mem_map.mp this
    rw [← pairK_inj e3]; exact hp
  · intro hq
    have : pairK q ∈ km.map Prod.fst := by rw [e]; exact List.mem_map.mpr ⟨q, hq, rfl⟩
    obtain ⟨kv, hkv, e3⟩ := List.mem_map.mp this
    exact ⟨kv, hkv, decide_eq_true e3⟩
def spLGo (K : PySem.W.Frag) : Sp := fun vs H Q _ => ∃ (m : Addr) (n : Nat) (x : Str) (ns : List Str) (rs : List (List Int)) (ps : List Pr), vs = [.ref m, .int (n : Int), .str x] ∧ McAt K m ns rs ps H ∧ OkR ns.length rs ∧ ns.Nodup ∧ n < rs.length ∧ ∀ H', Same H H' → Q (.int ((goP ns rs n x : Nat) : Int)) H'
def spLMk (K : PySem.W.Frag) : Sp := fun vs H Q _ => ∃ (m : Addr) (n : Nat) (x : Str) (ns : List Str) (rs : List (List Int)) (ps : List Pr), vs = [.ref m, .int (n : Int), .str x] ∧ McAt K m ns rs ps H ∧ ∀ H', Same H H' → Q (.bl (decide (((n : Int), x) ∈ ps))) H'
def spLMade (K : PySem.W.Frag) : Sp := fun vs H Q _ => ∃ (m : Addr) (n : Nat) (wv : V) (dw : PyData) (ws ns : List Str) (rs : List (List Int)) (ps : List Pr), vs = [.ref m, .int (n : Int), wv] ∧ McAt K m ns rs ps H ∧ OkR ns.length rs ∧ ns.Nodup ∧ n < rs.length ∧ Dp K H wv dw ∧ (dw = .list (ws.map .str) ∨ dw = .tuple (ws.map .str)) ∧ ws.length ≤ 100000 ∧ ∀ H', Same H H' → Q (.int (((ws.foldl (stepP ns rs ps) (n, 0)).2 : Nat) : Int)) H'
section
variable {P : Program} {w : World} {K : PySem.W.Frag} {mg : Str → Option Value} {base : Heap} (T : Txt w K mg)
theorem ok_law_go : FnOk P w K mg base CX0 1 T.a_law_go T.d_law_go ["machine", "state", "call"] (spLGo K) := by
  refine T.D_law_go.fn.ok sc_law_go (fun vs H Q E h => ?_) (fun cdv A outer s H vs Q E hr h => ?_)
  · obtain ⟨m, n, x, ns, rs, ps, rfl, _⟩ := h; rfl
  · obtain ⟨m, n, x, ns, rs, ps, rfl, ⟨cs, R, md, km, h1, h2, h3, h4, h5⟩, ok, nd, hn, k⟩ := h
    refine ⟨_, (pss_one (ps_ret (pe_ifExp (pt_cmpR op_in_seq (pv 2) (pe_dget (hu_of hr) (pv 0) pe_str (fun _ _ => rfl)) (by rfl)) (pe_ix ix_seq (pe_ix ix_seq (pe_dget (hu_of hr) (pv 0) pe_str (fun _ _ => rfl)) (pv 1) (fun _ _ => rfl)) (pe_bmT PySem.F.slot_tuple_index PySem.F.type_tuple_index mt_tup_index (pe_dget (hu_of hr) (pv 0) pe_str (fun _ _ => rfl)) (pa_cons (pv 2) pa_nil)) (fun _ _ => rfl)) (pv 1)))), ?_⟩
    have eC : ED K (tDGet (tVar 0) (tC (.str "calls"))) (start ["machine", "state", "call"] [.ref m, .int (n : Int), .str x]) (nn H) H (.tuple (ns.map .str)) := fun H1 s1 Q q => ⟨_, rfl, m, _, rfl, mg_calls (s1 _ _ h1), q _ H1 (Same.refl _) (.tup (FzT.same s1 h2).st (dfs_strs ns))⟩
    have eR : ED K (tDGet (tVar 0) (tC (.str "rows"))) (start ["machine", "state", "call"] [.ref m, .int (n : Int), .str x]) (nn H) H (rowsLL rs) := fun H1 s1 Q q => ⟨_, rfl, m, _, rfl, mg_rows (s1 _ _ h1), q _ H1 (Same.refl _) (df_mono s1 Fr.base (dp_df h3))⟩
    refine s_ret (K := K) (F := nn H) (d := .int ((goP ns rs n x : Nat) : Int)) (ed_if (et_test (ed_inSeq (xs := ns) (ed_var (i := 2) rfl (.str x)) eC (.inl rfl))) (fun h => ?_) (fun h => ?_)) fun v H1 s1 hv => ?_
    · have hm := of_decide_eq_true h
      have hrow : rs[n]? = some rs[n] := List.getElem?_eq_getElem hn
      obtain ⟨i, hi, ei⟩ := List.getElem_of_mem hm
      have hx : ns[i]? = some x := by rw [List.getElem?_eq_getElem hi, ei]
      have lr := (ok.row _ (List.getElem_mem hn)).1
      have hz : (rs[n])[i]? = some (rs[n])[i] := List.getElem?_eq_getElem (by omega)
      rw [← (goP_in nd ok hrow hx hz).1]
      refine ed_ixL (j := i) (ds := (rs[n]).map .int) (ed_ixL (j := n) (ds := rs.map fun r : List Int => PyData.list (r.map PyData.int)) eR (ed_var (i := 1) rfl (.int _)) ?_) (fun H1 s1 Q q => ⟨_, rfl, m, _, rfl, mg_calls (s1 _ _ h1), ⟨cs, _, rfl, FzT.same s1 h2⟩, _, rfl, cs, ns, x, i, rfl, rfl, (FzT.same s1 h2).st, hx, fun j hj e => ?_, q _ H1 (Same.refl _) (.int _)⟩) ?_
      · rw [List.getElem?_map, hrow]; rfl
      · have := idx_nodup nd e
        have := idx_nodup nd hx
        omega
      · rw [List.getElem?_map, hz]; rfl
    · have hm := of_decide_eq_false h
      have : goP ns rs n x = n := by unfold goP; rw [if_neg hm]
      rw [this]
      exact ed_var (i := 1) rfl (.int _)
    · cases hv
      exact k H1 s1
theorem ok_law_is_marked : FnOk P w K mg base CX0 1 T.a_law_is_marked T.d_law_is_marked ["machine", "state", "call"] (spLMk K) := by
  refine T.D_law_is_marked.fn.ok sc_law_is_marked (fun vs H Q E h => ?_) (fun cdv A outer s H vs Q E hr h => ?_)
  · obtain ⟨m, n, x, ns, rs, ps, rfl, _⟩ := h; rfl
  · obtain ⟨m, n, x, ns, rs, ps, rfl, ⟨cs, R, md, km, h1, h2, h3, h4, h5⟩, k⟩ := h
    refine ⟨_, (pss_one (ps_ret (pe_cmp (pc_din (hu_of hr) (pe_tup (pa_cons (pv 1) (pa_cons (pv 2) pa_nil))) (pe_dget (hu_of hr) (pv 0) pe_str (fun _ _ => rfl)))))), ?_⟩
    refine ⟨_, rfl, _, rfl, (by show 2 ≤ sizeLine; decide), fun t ht => ?_⟩
    have s3 := Same.newA (o := .tup [.int (n : Int), .str x]) ht
    have g := DGet.t (k := pairK ((n : Int), x)) (s3 _ _ h4) (upd_same (H := H) (a := t) (o := .tup [.int (n : Int), .str x]))
    refine ⟨_, rfl, m, _, rfl, mg_marks (s3 _ _ h1), md, _, rfl, g, ?_⟩
    rw [marked_km h5 ((n : Int), x)]
    exact k _ s3
theorem ok_law_marks_made : FnOk P w K mg base CX0 2 T.a_law_marks_made T.d_law_marks_made ["machine", "state", "word"] (spLMade K) := by
  have G_law_go := ok_law_go (P := P) (base := base) T
  have G_law_is_marked := ok_law_is_marked (P := P) (base := base) T
  refine T.D_law_marks_made.fn.ok sc_law_marks_made (fun vs H Q E h => ?_) (fun cdv A outer s H vs Q E hr h => ?_)
  · obtain ⟨m, n, wv, dw, ws, ns, rs, ps, rfl, _⟩ := h; rfl
  · obtain ⟨m, n, wv, dw, ws, ns, rs, ps, rfl, hM, ok, nd, hn, hw, hdw, wl, k⟩ := h
    refine ⟨_, (pss_cons (ps_set (i := 3) sc_law_marks_made.nd rfl (by first | exact Or.inl rfl | exact Or.inr rfl) pe_int)
      (pss_cons (ps_for PassesOwn.never rfl (pi_ve (pv 2)) (pg_name (i := 4) sc_law_marks_made.nd rfl (by first | exact Or.inl rfl | exact Or.inr rfl)) (pss_cons (ps_set (i := 3) sc_law_marks_made.nd rfl (by first | exact Or.inl rfl | exact Or.inr rfl) (pe_op op_add (pv 3) (pe_ifExp (pt_val (pe_call (G_law_is_marked) (hr.mono (by omega)) (by rfl) T.D_law_is_marked.mg T.D_law_is_marked.fn.kp T.D_law_is_marked.bd .nil pass0 (pa_cons (pv 0) (pa_cons (pv 1) (pa_cons (pv 4) pa_nil))))) pe_int pe_int)))
      (pss_one (ps_set (i := 1) sc_law_marks_made.nd rfl (by first | exact Or.inl rfl | exact Or.inr rfl) (pe_call (G_law_go) (hr.mono (by omega)) (by rfl) T.D_law_go.mg T.D_law_go.fn.kp T.D_law_go.bd .nil pass0 (pa_cons (pv 0) (pa_cons (pv 1) (pa_cons (pv 4) pa_nil))))))))
      (pss_one (ps_ret (pv 3))))), ?_⟩
    refine s_for (K := K) (F := nn H) (fun i σ H' => ∃ o4, σ = [some (.ref m), some (.int ((((ws.take i).foldl (stepP ns rs ps) (n, 0)).1 : Nat) : Int)), some wv, some (.int ((((ws.take i).foldl (stepP ns rs ps) (n, 0)).2 : Nat) : Int)), o4]) (ei_ve (ds := ws.map .str) rfl (dp_df hw) hdw) (fun H2 s2 => ⟨none, rfl⟩) ?_ ?_
    · rintro i σ1 H2 s2 ⟨o4, rfl⟩ d v H3 hd s3 hv
      obtain ⟨x, hx, rfl⟩ := str_of hd
      cases hv
      have hM3 := hM.same (s2.trans s3)
      have lt := goAll_lt nd ok (ws.take i) hn
      have ef := step_fst (ns := ns) (rs := rs) (ps := ps) (ws.take i) (n, 0)
      have e1 : (ws.take (i + 1)).foldl (stepP ns rs ps) (n, 0) = stepP ns rs ps ((ws.take i).foldl (stepP ns rs ps) (n, 0)) x := by rw [take_snoc hx, List.foldl_append]; rfl
      rw [e1]
      generalize (ws.take i).foldl (stepP ns rs ps) (n, 0) = q at ef
      obtain ⟨n1, m1⟩ := q
      dsimp only at ef ⊢
      rw [← ef] at lt
      refine ⟨_, rfl, _, rfl, _, rfl, _, rfl, m, n1, x, ns, rs, ps, rfl, hM3, fun H4 s4 => ⟨_, rfl, ite2 (fun h => ?_) fun h => ?_⟩⟩
      · have he : (if ((n1 : Int), x) ∈ ps then 1 else 0 : Nat) = 1 := if_pos (of_decide_eq_true h)
        refine ⟨_, _, rfl, rfl, _, rfl, _, rfl, _, rfl, m, n1, x, ns, rs, ps, rfl, hM3.same s4, ok, nd, lt, fun H5 s5 => ⟨(s3.trans s4).trans s5, some (.str x), ?_⟩⟩
        unfold stepP
        dsimp only
        rw [he]; rfl
      · have he : (if ((n1 : Int), x) ∈ ps then 1 else 0 : Nat) = 0 := if_neg fun z => h (decide_eq_true z)
        refine ⟨_, _, rfl, rfl, _, rfl, _, rfl, _, rfl, m, n1, x, ns, rs, ps, rfl, hM3.same s4, ok, nd, lt, fun H5 s5 => ⟨(s3.trans s4).trans s5, some (.str x), ?_⟩⟩
        unfold stepP
        dsimp only
        rw [he]; rfl
    · rintro σ1 H2 s2 ⟨o4, rfl⟩
      rw [List.length_map, List.take_length]
      exact ⟨_, rfl, k H2 s2⟩
end
end Ag

set_option Elab.async false
set_option linter.all false
set_option maxRecDepth 100000
set_option maxHeartbeats 4000000
set_option pp.maxSteps 300
namespace Ag
open PySem PySem.Spec PyProof.Rows L2
theorem put_keys {km : List (List Key × V)} {ps : List Pr} (e : km.map Prod.fst = ps.map pairK) (q : Pr) (v : V) : (putK km (pairK q) v).map Prod.fst = (if q ∈ ps then ps else ps ++ [q]).map pairK := by
  have h : (km.any fun kv => decide (kv.1 = pairK q)) = decide (q ∈ ps) := by rw [valV_any]; exact marked_km e q
  unfold putK
  rw [h]
  by_cases hq : q ∈ ps
  · rw [decide_eq_true hq, if_pos rfl, if_pos hq, List.map_map, ← e]
    refine List.map_congr_left fun kv _ => ?_
    show (if kv.1 = pairK q then (kv.1, v) else kv).1 = kv.1
    split <;> rfl
  · rw [decide_eq_false hq, if_neg Bool.false_ne_true, if_neg hq, List.map_append, List.map_append, e]; rfl
/-- marks so far: no more than k, each of them right, none twice -/
structure MkS (ns : List Str) (M k : Nat) (ps : List Pr) (km : List (List Key × V)) : Prop where
  key : km.map Prod.fst = ps.map pairK
  nd : ps.Nodup
  ok : ∀ q ∈ ps, 0 ≤ q.1 ∧ q.1 < (M : Int) ∧ q.2 ∈ ns
  len : ps.length ≤ k
theorem MkS.more {ns : List Str} {M k l : Nat} {ps : List Pr} {km : List (List Key × V)} (h : MkS ns M k ps km) (le : k ≤ l) : MkS ns M l ps km := { h with len := Nat.le_trans h.len le }
theorem MkS.put {ns : List Str} {M k : Nat} {ps : List Pr} {km : List (List Key × V)} {q : Pr} {v : V} (h : MkS ns M k ps km) (hq : 0 ≤ q.1 ∧ q.1 < (M : Int) ∧ q.2 ∈ ns) : ∃ ps', MkS ns M (k + 1) ps' (putK km (pairK q) v) := by
  refine ⟨if q ∈ ps then ps else ps ++ [q], put_keys h.key q v, ?_, ?_, ?_⟩
  · by_cases m : q ∈ ps
    · rw [if_pos m]; exact h.nd
    · rw [if_neg m]
      exact List.nodup_append.mpr ⟨h.nd, List.nodup_cons.mpr ⟨List.not_mem_nil, List.nodup_nil⟩, fun a ha b hb e => m (by rw [List.mem_singleton.mp hb] at e; rw [← e]; exact ha)⟩
  · intro z hz
    by_cases m : q ∈ ps
    · rw [if_pos m] at hz; exact h.ok z hz
    · rw [if_neg m] at hz
      rcases List.mem_append.mp hz with hz | hz
      · exact h.ok z hz
      · rw [List.mem_singleton.mp hz]; exact hq
  · have := h.len
    by_cases m : q ∈ ps
    · rw [if_pos m]; omega
    · rw [if_neg m, List.length_append]; show _ + 1 ≤ _; omega
def spWide (K : PySem.W.Frag) : Sp := fun vs H Q _ => ∃ (p c cs : Addr) (n M : Nat) (ns : List Str), vs = [.ref p, .ref cs, .int (M : Int)] ∧ Pen p c n H ∧ FzT H cs (ns.map V.str) ∧ 1 ≤ M ∧ M ≤ 8 ∧ ns.length ≤ 6 ∧ n ≤ 100000000 ∧
  ∀ m rs ps H', McAt K m ns rs ps H' → rs.length = M → OkR ns.length rs → ps.Nodup → (∀ q ∈ ps, 0 ≤ q.1 ∧ q.1 < (M : Int) ∧ q.2 ∈ ns) → ps.length ≤ 48 → But p H H' → Pen p c (n + 100) H' → Q (.ref m) H'
theorem asg0 {i : Nat} {D : Ends} {σ : L2.St} {H : Hp} (k : ∀ p, H p = none → D.nx (σ.set i (some (.ref p))) (upd H p (.dT []))) : tAsg tDNewT (gName i) D σ H := k
theorem Pen.fzT {p c a : Addr} {n : Nat} {H H' : Hp} {xs : List V} (h : Pen p c n H) (k : But p H H') (r : FzT H a xs) : FzT H' a xs := let ⟨o, e, d⟩ := r; ⟨o, k _ _ (h.ne e (fun _ z => nomatch z)) e, d⟩
section
variable {P : Program} {w : World} {K : PySem.W.Frag} {mg : Str → Option Value} {base : Heap} (T : Txt w K mg)
theorem ok_wide : FnOk P w K mg base CX0 2 T.a_law_wide_machine T.d_law_wide_machine ["pen", "calls", "many"] (spWide K) := by
  have G_law_draw := ok_draw (P := P) (base := base) T
  refine T.D_law_wide_machine.fn.ok sc_law_wide_machine (fun vs H Q E h => ?_) (fun cdv A outer s H vs Q E hr h => ?_)
  · obtain ⟨p, c, cs, n, M, ns, rfl, _⟩ := h; rfl
  · obtain ⟨p, c, cs, n, M, ns, rfl, P0, hc, m1, m8, n6, hn, k⟩ := h
    refine ⟨_, (pss_cons (ps_set (i := 3) sc_law_wide_machine.nd rfl (by first | exact Or.inl rfl | exact Or.inr rfl) pe_dnewT)
      (pss_cons (ps_for PassesOwn.never rfl (pi_range1 (by rfl) T.b_range (pa_cons (pv 2) pa_nil)) (pg_name (i := 4) sc_law_wide_machine.nd rfl (by first | exact Or.inl rfl | exact Or.inr rfl)) (pss_one (ps_for PassesOwn.never rfl (pi_tup (pv 1)) (pg_name (i := 5) sc_law_wide_machine.nd rfl (by first | exact Or.inl rfl | exact Or.inr rfl)) (pss_one (ps_if (pt_cmpR op_eq (pe_call (G_law_draw) (hr.mono (by omega)) (by rfl) T.D_law_draw.mg T.D_law_draw.fn.kp T.D_law_draw.bd .nil pass0 (pa_cons (pv 0) (pa_cons pe_int pa_nil))) pe_int (nomark _)) (pss_one (ps_dput (hu_of hr) (pv 3) (pe_tup (pa_cons (pv 4) (pa_cons (pv 5) pa_nil))) pe_bl rfl)) pss_nil)))))
      (pss_one (ps_ret (pe_disp (pps_cons pe_str (pe_callTy call_tuple_of (by rfl) T.b_tuple bt_tuple (pa_cons (pv 1) pa_nil)) (pps_cons pe_str (pe_lc (own := [("state", 4)]) (te := tLc (iTup K (tVar 1)) (gName 5) tYes (tCall spDraw [] C8.E0 (tCons (tVar 0) (tCons (tVar 2) tNil))) [5]) rfl sc_law_wide_machine.nd (pi_range1 (by rfl) T.b_range (pa_cons (pv 2) pa_nil)) (blkOk_by (own := [("state", 4)]) (N := ["pen", "calls", "many", "marks", "state", "call"]) (sc := defScope s_law_wide_machine) (by decide +kernel)) (fun _ _ _ _ _ => (pg_name (i := 4) sc_law_wide_machine.nd rfl (by first | exact Or.inl rfl | exact Or.inr rfl))) (fun _ _ _ _ _ => pts_nil) (fun _ _ _ _ _ => (by refine pe_lc (own := [("call", 5)]) rfl sc_law_wide_machine.nd ?_ (blkOk_by (own := [("call", 5)]) (N := ["pen", "calls", "many", "marks", "state", "call"]) (sc := { kind := .function, names := [(".0", .local), ("state", .local), ("calls", .cell), ("many", .cell), ("pen", .cell)], isGenerator := false, isCoroutine := false }) (by decide +kernel)) (fun _ _ _ _ _ => (pg_name (i := 5) sc_law_wide_machine.nd rfl (by first | exact Or.inl rfl | exact Or.inr rfl))) (fun _ _ _ _ _ => pts_nil) (fun _ _ _ _ _ => (pe_call (G_law_draw) (hr.mono (by omega)) (by rfl) T.D_law_draw.mg T.D_law_draw.fn.kp T.D_law_draw.bd .nil pass0 (pa_cons (pv 0) (pa_cons (pv 2) pa_nil)))); exact pi_tup (pv 1)))) (pps_cons pe_str (pv 3) pps_nil))) (by rfl) (by rfl) (fun z => by cases z) (by decide)))))), ?_⟩
    refine asg0 fun md hmd => ?_
    have np := P0.ne_p hmd
    have nc := P0.ne_c hmd
    refine ⟨_, rfl, _, rfl, by omega, by omega, for_range (n := ((M : Nat) : Int).toNat) (fun i σ' H' => ∃ (o4 o5 : Option V) (ps : List Pr) (km : List (List Key × V)), σ' = [some (.ref p), some (.ref cs), some (.int (M : Int)), some (.ref md), o4, o5] ∧ H' md = some (.dT km) ∧ MkS ns M (i * 6) ps km ∧ But p H H' ∧ Pen p c (n + i * 6) H')
      ⟨none, none, [], [], rfl, upd_same, ⟨rfl, List.nodup_nil, (fun q h => (nomatch h)), Nat.le_refl _⟩, .of (Same.newA hmd), (P0.upd np nc).more (by omega)⟩ ?_ ?_⟩
    · rintro i σ' H1 hi ⟨o4, o5, ps, km, rfl, e1, mk1, b1, P1⟩
      have hc1 := P0.fzT b1 hc
      refine ⟨_, rfl, cs, rfl, ⟨_, hc1.st⟩, for_tup (K := K) (a := cs) (xs := ns.map V.str) (fun j σ' H' => ∃ (o5 : Option V) (ps : List Pr) (km : List (List Key × V)), σ' = [some (.ref p), some (.ref cs), some (.int (M : Int)), some (.ref md), some (.int (0 + (i : Int))), o5] ∧ H' md = some (.dT km) ∧ MkS ns M (i * 6 + j) ps km ∧ But p H H' ∧ Pen p c (n + i * 6 + j) H')
        ⟨o5, ps, km, rfl, e1, mk1, b1, P1⟩ (fun j σ' H' _ ⟨_, _, _, _, _, _, b, _⟩ => (P0.fzT b hc).st) ?_ ?_⟩
      · rintro j v σ' H2 hv ⟨o5, ps2, km2, rfl, e2, mk2, b2, P2⟩
        obtain ⟨x, hx, rfl⟩ := str_at hv
        have lj : j < ns.length := (List.getElem?_eq_some_iff.mp hx).1
        refine ⟨_, rfl, p, c, 3, _, rfl, P2, by decide, by decide, by omega, fun d H3 _ _ b3 P3 => ⟨rfl, _, rfl, ite2 (fun _ => ?_) fun _ => ?_⟩⟩
        · have e3 : H3 md = some (.dT km2) := b3 _ _ np e2
          refine ⟨_, rfl, _, rfl, _, rfl, (by show 2 ≤ sizeLine; decide), fun t ht => ?_⟩
          have s4 := Same.newA (o := .tup [.int (0 + (i : Int)), .str x]) ht
          have lk : km2.length = ps2.length := by
            have := congrArg List.length mk2.key
            rwa [List.length_map, List.length_map] at this
          have l2 := mk2.len
          refine ⟨md, _, rfl, DPut.t (k := pairK (0 + (i : Int), x)) (s4 _ _ e3) (upd_same (H := H3) (a := t) (o := .tup [.int (0 + (i : Int)), .str x])) (lt5 (by omega)), ?_⟩
          obtain ⟨ps3, mk3⟩ := mk2.put (q := (0 + (i : Int), x)) (v := .bl true) ⟨by show 0 ≤ 0 + (i : Int); omega, by show 0 + (i : Int) < (M : Int); omega, List.mem_of_getElem? hx⟩
          have P4 := P3.same s4
          refine ⟨_, ps3, _, rfl, upd_same, mk3, fun a u na e => ?_, (P4.upd np nc).more (by omega)⟩
          rw [upd_ne (ne_of_none e hmd)]
          exact s4 _ _ (b3 _ _ na (b2 _ _ na e))
        · exact ⟨_, ps2, km2, rfl, b3 _ _ np e2, mk2.more (by omega), b2.trans b3, P3.more (by omega)⟩
      · rintro σ' H2 ⟨o5, ps2, km2, rfl, e2, mk2, b2, P2⟩
        rw [List.length_map] at mk2 P2
        exact ⟨_, _, ps2, km2, rfl, e2, mk2.more (by omega), b2, P2.more (by omega)⟩
    · rintro σ' H1 ⟨o4, o5, ps, km, rfl, e1, mk1, b1, P1⟩
      have eM : ((M : Nat) : Int).toNat = M := by omega
      rw [eM] at mk1 P1
      have hc1 := P0.fzT b1 hc
      intro mm hmm
      have s2 := Same.newA (o := .dK []) hmm
      have P2 := P1.same s2
      have nmp := P1.ne_p hmm
      have nmc := P1.ne_c hmm
      have old : ∀ a u, a ≠ p → H a = some u → a ≠ mm := fun a u na e => ne_of_none (b1 _ _ na e) hmm
      have f2 : (upd H1 mm (.dK [])) mm = some (.dK []) := upd_same
      have e2 := s2 _ _ e1
      have hc2 := FzT.same s2 hc1
      have b2 := b1.trans (But.of s2)
      generalize upd H1 mm (HO.dK []) = H2 at P2 f2 e2 hc2 b2
      clear s2 e1 hc1 b1 P1
      refine ⟨_, rfl, cs, _, rfl, .inr ⟨hc2.st, ?_⟩⟩
      refine ⟨_, rfl, _, rfl, by omega, by omega, fun R hR => lc_range (lo := 0) (n := M) (fun i H' => ∃ (rl : List (Addr × List Int)), H' R = some (.lst (rl.map fun z => V.ref z.1)) ∧ rl.length = i ∧ (∀ z ∈ rl, z.1 ≠ R ∧ H' z.1 = some (.lst (z.2.map V.int)) ∧ z.2.length = ns.length ∧ ∀ i ∈ z.2, 0 ≤ i ∧ i < (M : Int)) ∧ But p H2 H' ∧ Pen p c (n + M * 6 + i * 6) H')
        ⟨[], upd_same, rfl, (fun z h => nomatch h), .of (Same.newA hR), (P2.upd (P2.ne_p hR) (P2.ne_c hR)).more (by omega)⟩ ?_ ?_⟩
      · rintro i H3 hi ⟨rl, e3, rlen, hrl, b3, P3⟩
        refine ⟨rfl, ?_⟩
        have hc3 := P2.fzT b3 hc2
        refine ⟨_, rfl, cs, rfl, ⟨_, hc3.st⟩, fun D hD => lc_tup (K := K) (a := cs) (xs := ns.map V.str) (fun j H4 => ∃ is : List Int, H4 D = some (.lst (is.map V.int)) ∧ is.length = j ∧ (∀ i ∈ is, 0 ≤ i ∧ i < (M : Int)) ∧ But p H3 H4 ∧ Pen p c (n + M * 6 + i * 6 + j) H4)
          ⟨[], upd_same, rfl, (fun z h => nomatch h), .of (Same.newA hD), (P3.upd (P3.ne_p hD) (P3.ne_c hD)).more (Nat.le_refl _)⟩ (fun j H4 _ ⟨_, _, _, _, b4, _⟩ => (P3.fzT b4 hc3).st) ?_ ?_⟩
        · rintro j x H4 hx ⟨is, e4, il, hb, b4, P4⟩
          have hj : j < ns.length := by
            have := (List.getElem?_eq_some_iff.mp hx).1
            rw [List.length_map] at this; exact this
          refine ⟨rfl, ?_⟩
          refine ⟨_, rfl, _, rfl, p, c, M, n + M * 6 + i * 6 + j, rfl, P4, by omega, by omega, by omega, fun d H5 d0 d1 b5 P5 => ?_⟩
          have e5 : H5 D = some (.lst (is.map V.int)) := b5 _ _ (P3.ne_p hD) e4
          refine ⟨_, e5, lt5 (by rw [List.length_map]; omega), is ++ [d], by rw [upd_same, List.map_append]; rfl, by rw [List.length_append, il]; rfl, fun z hz => ?_, fun a u na e => ?_, (P5.upd (P3.ne_p hD) (P3.ne_c hD)).more (by omega)⟩
          · rcases List.mem_append.mp hz with hz | hz
            · exact hb z hz
            · rw [List.mem_singleton.mp hz]; exact ⟨d0, d1⟩
          · rw [upd_ne (ne_of_none e hD)]
            exact b5 _ _ na (b4 _ _ na e)
        · rintro H4 ⟨is, e4, il, hb, b4, P4⟩
          rw [List.length_map] at il P4
          have nRp := P2.ne_p hR
          have e5 := b4 _ _ nRp e3
          have nDR : D ≠ R := Ne.symm (ne_of_none e3 hD)
          have nRc := P2.ne_c hR
          refine ⟨_, e5, lt5 (by rw [List.length_map]; omega), rl ++ [(D, is)], by rw [upd_same, List.map_append]; rfl, by rw [List.length_append, rlen]; rfl, fun z hz => ?_, fun a u na e => ?_, (P4.upd nRp nRc).more (by omega)⟩
          · rcases List.mem_append.mp hz with hz | hz
            · obtain ⟨z1, z2, z3, z4⟩ := hrl z hz
              exact ⟨z1, by rw [upd_ne z1]; exact b4 _ _ (P3.ne z2 (fun _ y => nomatch y)) z2, z3, z4⟩
            · rw [List.mem_singleton.mp hz]
              exact ⟨nDR, by rw [upd_ne nDR]; exact e4, il, hb⟩
          · rw [upd_ne (ne_of_none e hR)]
            exact b4 _ _ na (b3 _ _ na e)
      · rintro H3 ⟨rl, e3, rlen, hrl, b3, P3⟩
        refine ⟨_, rfl, ?_⟩
        refine ⟨b3 _ _ nmp f2, [(ck "calls", V.ref cs), (ck "rows", .ref R), (ck "marks", .ref md)], rfl, (by decide : 3 ≤ 15), ?_⟩
        rw [merge_mc]
        have nR : R ≠ mm := ne_of e3 (b3 _ _ nmp f2) (fun z => nomatch z)
        have keep : ∀ a o, a ≠ mm → H3 a = some o → (upd H3 mm (.dK (mcKV cs R md))) a = some o := fun a o h e => by rw [upd_ne h]; exact e
        have e2' := b3 _ _ np e2
        have nmd : md ≠ mm := ne_of e2' (b3 _ _ nmp f2) (fun z => nomatch z)
        obtain ⟨oc, ec, dc⟩ := P2.fzT b3 hc2
        have dps : ∀ (l : List (Addr × List Int)), (∀ z ∈ l, z ∈ rl) → DpAll K (upd H3 mm (.dK (mcKV cs R md))) (l.map fun z => V.ref z.1) ((l.map Prod.snd).map fun r => .list (r.map .int)) := by
          intro l
          induction l with
          | nil => exact fun _ => .nil
          | cons z l ih =>
            intro h
            have ez := (hrl z (h z List.mem_cons_self)).2.1
            refine .cons (.lst (.inl (.inl (keep _ _ (ne_of ez (b3 _ _ nmp f2) (fun y => nomatch y)) ez))) (dfs_dps (F := nn H3) (dfs_ints z.2))) (ih fun y hy => h y (List.mem_cons_of_mem _ hy))
        refine k mm (rl.map Prod.snd) ps _ ⟨cs, R, md, km, upd_same, ⟨oc, keep _ _ (ne_of ec (b3 _ _ nmp f2) (fun y => nomatch y)) ec, dc⟩, .lst (.inl (.inl (keep _ _ nR e3))) (dps rl fun _ h => h), keep _ _ nmd e2', mk1.key⟩ (by rw [List.length_map]; exact rlen) ⟨by rw [List.length_map]; omega, by rw [List.length_map]; omega, fun r hr => ?_⟩ mk1.nd mk1.ok (Nat.le_trans mk1.len (by omega)) ?_ ?_
        · obtain ⟨z, hz, rfl⟩ := List.mem_map.mp hr
          obtain ⟨_, _, z3, z4⟩ := hrl z hz
          rw [List.length_map, rlen]
          exact ⟨z3, z4⟩
        · intro a u na e
          exact keep a u (old a u na e) (b3 _ _ na (b2 _ _ na e))
        · exact (P3.upd nmp nmc).more (by omega)
end
end Ag

set_option Elab.async false
set_option linter.all false
set_option maxRecDepth 100000
set_option maxHeartbeats 4000000
set_option pp.maxSteps 300
namespace Ag
open PySem PySem.Spec PyProof.Rows L2
/-! ### readings that give a tuple, or a live list, of known values -/
def VT (K : PySem.W.Frag) (te : TE) (σ : L2.St) (H : Hp) (xs : List V) : Prop := ∀ H1, Same H H1 → ∀ Q : VK, (∀ a H2, Same H1 H2 → SqT K H2 a xs → Q (.ref a) H2) → te σ H1 Q
def VL (te : TE) (σ : L2.St) (H : Hp) (xs : List V) : Prop := ∀ H1, Same H H1 → ∀ Q : VK, (∀ a H2, Same H1 H2 → H2 a = some (.lst xs) → Q (.ref a) H2) → te σ H1 Q
theorem cutV_all {xs : List V} {lo hi : Option Int} (h : HT.sIx xs.length 0 lo = 0 ∧ HT.sIx xs.length xs.length hi = xs.length) : cutV xs lo hi = xs := by
  unfold cutV; rw [h.1, h.2, List.drop_zero, Nat.sub_zero, List.take_length]
section
variable {K : PySem.W.Frag} {σ : L2.St} {H : Hp} {te ta tb : TE} {xs ys : List V}
theorem vt_at {H1 : Hp} (h : VT K te σ H xs) (s : Same H H1) : VT K te σ H1 xs := fun H2 s2 => h H2 (s.trans s2)
theorem vl_at {H1 : Hp} (h : VL te σ H xs) (s : Same H H1) : VL te σ H1 xs := fun H2 s2 => h H2 (s.trans s2)
theorem vt_var {i : Nat} {a : Addr} (h : σ[i]? = some (some (.ref a))) (ha : SqT K H a xs) : VT K (tVar i) σ H xs := fun H1 s Q q => ⟨_, h, q a H1 (Same.refl _) (s.stA ha)⟩
theorem vl_var {i : Nat} {a : Addr} (h : σ[i]? = some (some (.ref a))) (ha : H a = some (.lst xs)) : VL (tVar i) σ H xs := fun H1 s Q q => ⟨_, h, q a H1 (Same.refl _) (s _ _ ha)⟩
theorem vt_nil : VT K (tTup tNil) σ H [] := fun H1 s Q q => ⟨(by show 0 ≤ sizeLine; decide), fun p hp => q p _ (Same.newA hp) (.of upd_same)⟩
theorem vl_one {i : Nat} {v : V} (h : σ[i]? = some (some v)) : VL (tLst (tCons (tVar i) tNil)) σ H [v] := fun H1 s Q q => ⟨_, h, (by show 1 ≤ sizeLine; decide), fun p hp => q p _ (Same.newA hp) upd_same⟩
theorem vt_sl {tl th : TO} {lo hi : Option Int} (h : VT K te σ H xs) (hl : EO tl σ H lo) (hh : EO th σ H hi) : VT K (tSl (rSlA K) te tl th) σ H (cutV xs lo hi) := fun H1 s Q q =>
  h H1 s _ fun a H2 s2 ha => hl H2 (s.trans s2) _ fun H3 s3 => hh H3 ((s.trans s2).trans s3) _ fun H4 s4 => by
    have s34 := s3.trans s4
    refine ⟨_, _, rfl, s34.stA ha, fun z => ?_, fun _ p hp => q p _ ((s2.trans s34).trans (Same.newA hp)) (.of upd_same)⟩
    exact q a _ (s2.trans s34) (by rw [cutV_all z]; exact s34.stA ha)
theorem vl_listOf (h : VT K te σ H xs) : VL (tCB (fun xs H Q => ∃ p ys, xs = [.ref p] ∧ (SqL K H p ys ∨ SqT K H p ys) ∧ ∀ l, H l = none → Q (.ref l) (upd H l (.lst ys))) (tCons te tNil)) σ H xs := fun H1 s Q q =>
  h H1 s _ fun a H2 s2 ha => ⟨a, xs, rfl, .inr ha, fun l hl => q l _ (s2.trans (Same.newA hl)) upd_same⟩
theorem vt_tupleOf (h : VT K te σ H xs) : VT K (tCB (fun xs H Q => ∃ p ys, xs = [.ref p] ∧ ((SqL K H p ys ∧ ∀ l, H l = none → Q (.ref l) (upd H l (.tup ys))) ∨ (SqT K H p ys ∧ Q (.ref p) H))) (tCons te tNil)) σ H xs := fun H1 s Q q =>
  h H1 s _ fun a H2 s2 ha => ⟨a, xs, rfl, .inr ⟨ha, q a H2 s2 ha⟩⟩
theorem vt_tupleOfL (h : VL te σ H xs) : VT K (tCB (fun xs H Q => ∃ p ys, xs = [.ref p] ∧ ((SqL K H p ys ∧ ∀ l, H l = none → Q (.ref l) (upd H l (.tup ys))) ∨ (SqT K H p ys ∧ Q (.ref p) H))) (tCons te tNil)) σ H xs := fun H1 s Q q =>
  h H1 s _ fun a H2 s2 ha => ⟨a, xs, rfl, .inl ⟨SqL.of ha, fun l hl => q l _ (s2.trans (Same.newA hl)) (.of upd_same)⟩⟩
theorem vl_cat (h : VL ta σ H xs) (k : VL tb σ H ys) (le : xs.length + ys.length ≤ 100000) : VL (tOp rCat ta tb) σ H (xs ++ ys) := fun H1 s Q q =>
  h H1 s _ fun a H2 s2 ha => k H2 (s.trans s2) _ fun b H3 s3 hb => ⟨a, b, xs, ys, rfl, rfl, s3 _ _ ha, hb, small5 le, fun p hp => q p _ ((s2.trans s3).trans (Same.newA hp)) upd_same⟩
theorem vt_cat (h : VT K ta σ H xs) (k : VT K tb σ H ys) (le : xs.length + ys.length ≤ 100000) : VT K (tOp (rCatA K) ta tb) σ H (xs ++ ys) := fun H1 s Q q =>
  h H1 s _ fun a H2 s2 ha => k H2 (s.trans s2) _ fun b H3 s3 hb => by
    refine ⟨a, b, xs, ys, rfl, rfl, s3.stA ha, hb, small5 le, fun e => ?_, fun _ e => ?_, fun _ _ p hp => q p _ ((s2.trans s3).trans (Same.newA hp)) (.of upd_same)⟩
    · subst e; exact q b H3 (s2.trans s3) hb
    · subst e; exact q a H3 (s2.trans s3) (by rw [List.append_nil]; exact s3.stA ha)
theorem vt_rev (h : VT K te σ H xs) : VT K (tRevE K te) σ H xs.reverse := fun H1 s Q q =>
  h H1 s _ fun a H2 s2 ha => ⟨a, xs, rfl, ha, fun p hp => q p _ (s2.trans (Same.newA hp)) (.of upd_same)⟩
theorem run_vt {tr : TA} {Q : List V → Hp → Prop} (h : VT K te σ H xs) (k : ∀ a H1, Same H H1 → SqT K H1 a xs → tr σ H1 fun vs H2 => Q (V.ref a :: vs) H2) : tCons te tr σ H Q := h H (Same.refl _) _ k
theorem run_vl {tr : TA} {Q : List V → Hp → Prop} (h : VL te σ H xs) (k : ∀ a H1, Same H H1 → H1 a = some (.lst xs) → tr σ H1 fun vs H2 => Q (V.ref a :: vs) H2) : tCons te tr σ H Q := h H (Same.refl _) _ k
theorem cutV_to_len (k : Nat) : (cutV xs none (some (k : Int))).length ≤ k ∧ (cutV xs none (some (k : Int))).length ≤ xs.length := by
  unfold cutV
  rw [HT.sIx_none, HT.sIx_nat, List.drop_zero, Nat.sub_zero, List.length_take]
  omega
theorem cutV_from_len (k : Nat) : (cutV xs (some (k : Int)) none).length ≤ xs.length - k := by
  unfold cutV
  rw [HT.sIx_none, HT.sIx_nat, List.length_take, List.length_drop]
  omega
theorem run_sl {a : Addr} {lo hi : Option Int} {Q : VK} (ha : SqT K H a xs) (k : ∀ b H1, Same H H1 → SqT K H1 b (cutV xs lo hi) → Q (.ref b) H1) : rSlA K (.ref a) lo hi H Q :=
  ⟨_, _, rfl, ha, fun z => k a H (Same.refl _) (by rw [cutV_all z]; exact ha), fun _ p hp => k p _ (Same.newA hp) (.of upd_same)⟩
theorem cutV_mem {lo hi : Option Int} {u : V} (h : u ∈ cutV xs lo hi) : u ∈ xs := List.mem_of_mem_drop (List.mem_of_mem_take h)
theorem cutV_len {lo hi : Option Int} : (cutV xs lo hi).length ≤ xs.length := by
  unfold cutV; rw [List.length_take, List.length_drop]; omega
end
theorem But.freshA {p a : Addr} {H H' : Hp} (b : But p H H') (n : a ≠ p) (h : H' a = none) : H a = none := by
  cases e : H a with
  | none => rfl
  | some o => rw [b a o n e] at h; cases h
/-- what _law_bent gives -/
def BentV (K : PySem.W.Frag) (N : Addr → Prop) (H : Hp) (vs xs : List V) (y : V) : Prop := (∃ a ys, y = .ref a ∧ ((H a = some (.lst ys) ∧ N a) ∨ SqT K H a ys) ∧ (∀ u ∈ ys, u ∈ vs ∨ u ∈ xs) ∧ ys.length ≤ vs.length + 1) ∨ y = .non ∨ y = .int 5 ∨ y = .str "ab" ∨ ∃ a, y = .ref a ∧ H a = some (.dK [])
def spBent (K : PySem.W.Frag) : Sp := fun as H Q _ => ∃ (p c va sa : Addr) (n : Nat) (vs xs : List V), as = [.ref p, .ref va, .ref sa] ∧ Pen p c n H ∧ SqT K H va vs ∧ SqL K H sa xs ∧ 0 < xs.length ∧ xs.length < 100000 ∧ vs.length ≤ 1000 ∧ n ≤ 100000000 ∧
  ∀ y H', But p H H' → Pen p c (n + 5) H' → BentV K (fun a => H a = none) H' vs xs y → Q y H'
section
variable {P : Program} {w : World} {K : PySem.W.Frag} {mg : Str → Option Value} {base : Heap} (T : Txt w K mg)
theorem ok_bent : FnOk P w K mg base CX0 3 T.a_law_bent T.d_law_bent ["pen", "value", "some"] (spBent K) := by
  have G_law_draw := ok_draw (P := P) (base := base) T
  have G_law_pick := ok_pick (P := P) (base := base) T
  refine T.D_law_bent.fn.ok sc_law_bent (fun vs H Q E h => ?_) (fun cdv A outer s H vs Q E hr h => ?_)
  · obtain ⟨p, c, va, sa, n, vs, xs, rfl, _⟩ := h; rfl
  · obtain ⟨p, c, va, sa, n, vs, xs, rfl, P0, hv, hs, x0, x1, vl, hn, k⟩ := h
    refine ⟨_, (pss_cons (ps_par (i := 3) (j := 4) (by rfl) sc_law_bent.nd rfl rfl (by decide) rfl rfl (pa_cons (pe_call (G_law_draw) (hr.mono (by omega)) (by rfl) T.D_law_draw.mg T.D_law_draw.fn.kp T.D_law_draw.bd .nil pass0 (pa_cons (pv 0) (pa_cons (pe_op op_add (pe_callB call_len (by rfl) T.b_len bt_len (pa_cons (pv 1) pa_nil)) pe_int) pa_nil))) (pa_cons (pe_call (G_law_pick) (hr.mono (by omega)) (by rfl) T.D_law_pick.mg T.D_law_pick.fn.kp T.D_law_pick.bd .nil pass0 (pa_cons (pv 0) (pa_cons (pv 2) pa_nil))) pa_nil)) (by rfl))
      (pss_cons (ps_set (i := 5) sc_law_bent.nd rfl (by first | exact Or.inl rfl | exact Or.inr rfl) (pe_op op_cat (pe_op op_cat (pe_callTy call_list_of (by rfl) T.b_list bt_list (pa_cons (pe_slice sl_tupA (pv 1) po_none (po_some (pv 3))) pa_nil)) (pe_lst (pa_cons (pv 4) pa_nil))) (pe_callTy call_list_of (by rfl) T.b_list bt_list (pa_cons (pe_slice sl_tupA (pv 1) (po_some (pe_op op_add (pv 3) (pe_call (G_law_draw) (hr.mono (by omega)) (by rfl) T.D_law_draw.mg T.D_law_draw.fn.kp T.D_law_draw.bd .nil pass0 (pa_cons (pv 0) (pa_cons pe_int pa_nil))))) po_none) pa_nil))))
      (pss_one (ps_ret (pe_call (G_law_pick) (hr.mono (by omega)) (by rfl) T.D_law_pick.mg T.D_law_pick.fn.kp T.D_law_pick.bd .nil pass0 (pa_cons (pv 0) (pa_cons (pe_lst (pa_cons (pv 5) (pa_cons (pe_callTy call_tuple_of (by rfl) T.b_tuple bt_tuple (pa_cons (pv 5) pa_nil)) (pa_cons (pe_op op_catA (pe_callTy call_tuple_of (by rfl) T.b_tuple bt_tuple (pa_cons (pe_slice sl_tupA (pv 1) po_none (po_some (pv 3))) pa_nil)) (pe_callTy call_tuple_of (by rfl) T.b_tuple bt_tuple (pa_cons (pe_slice sl_tupA (pv 1) (po_some (pe_op op_add (pv 3) pe_int)) po_none) pa_nil))) (pa_cons (pe_op op_catA (pe_callTy call_tuple_of (by rfl) T.b_tuple bt_tuple (pa_cons (pv 1) pa_nil)) (pe_callTy call_tuple_of (by rfl) T.b_tuple bt_tuple (pa_cons (pe_slice sl_tupA (pv 1) po_none (po_some pe_int)) pa_nil))) (pa_cons (pe_callTy call_tuple_of (by rfl) T.b_tuple bt_tuple (pa_cons (pe_revE (pv 1)) pa_nil)) (pa_cons pe_non (pa_cons pe_int (pa_cons pe_str (pa_cons pe_dnewK (pa_cons (pe_tup pa_nil) pa_nil))))))))))) pa_nil))))))), ?_⟩
    refine ⟨_, rfl, _, rfl, _, vs.length, rfl, .inr ⟨vs, hv, rfl⟩, _, _, rfl, rfl, p, c, _, n, rfl, P0, by omega, by omega, by omega, fun a0 H1 a1 a2 b1 P1 => ?_⟩
    obtain ⟨at_, rfl⟩ : ∃ i : Nat, a0 = (i : Int) := ⟨a0.toNat, by omega⟩
    have hv1 := P0.st b1 hv
    have hs1 := P0.sl b1 hs
    refine ⟨_, rfl, _, rfl, p, c, sa, xs, _, rfl, P1, .inl hs1, x0, x1, by omega, fun i one H2 hone b2 P2 => ?_⟩
    have hv2 := P1.st b2 hv1
    refine ⟨_, _, rfl, ?_⟩
    have first : VL (tOp rCat (tCB (fun xs H Q => ∃ p ys, xs = [.ref p] ∧ (SqL K H p ys ∨ SqT K H p ys) ∧ ∀ l, H l = none → Q (.ref l) (upd H l (.lst ys))) (tCons (tSl (rSlA K) (tVar 1) tNoPart (tPart (tVar 3))) tNil)) (tLst (tCons (tVar 4) tNil))) [some (.ref p), some (.ref va), some (.ref sa), some (.int (at_ : Int)), some one, none] H2 (cutV vs none (some (at_ : Int)) ++ [one]) :=
      vl_cat (vl_listOf (vt_sl (vt_var rfl hv2) eo_none (eo_some (K := K) (F := nn H2) (ed_var (i := 3) rfl (.int _))))) (vl_one rfl) (by have := cutV_len (xs := vs) (lo := none) (hi := some (at_ : Int)); show _ + 1 ≤ 100000; omega)
    refine first H2 (Same.refl _) _ fun l1 H3 s3 e3 => ?_
    have P3 := P2.same s3
    have hv3 := s3.stA hv2
    refine ⟨_, rfl, _, rfl, _, rfl, p, c, 2, _, rfl, P3, by decide, by decide, by omega, fun d H4 d0 d1 b4 P4 => ⟨_, _, rfl, rfl, _, rfl, ?_⟩⟩
    dsimp only [tNoPart]
    refine run_sl (K := K) (P3.st b4 hv3) fun q5 H5 s5 h5 => ⟨q5, _, rfl, .inr h5, fun l6 hl6 => ?_⟩
    have s6 := Same.newA (o := .lst (cutV vs (some ((at_ : Int) + d)) none)) hl6
    have e4 := b4 _ _ (P3.ne e3 (fun _ z => nomatch z)) e3
    have lA := (cutV_to_len (xs := vs) at_).1
    have lA2 := (cutV_to_len (xs := vs) at_).2
    have lB : (cutV vs (some ((at_ : Int) + d)) none).length ≤ vs.length - at_ := by
      obtain ⟨dn, rfl⟩ : ∃ dn : Nat, d = (dn : Int) := ⟨d.toNat, by omega⟩
      have := cutV_from_len (xs := vs) (at_ + dn)
      rw [show ((at_ + dn : Nat) : Int) = (at_ : Int) + (dn : Int) by omega] at this
      omega
    refine ⟨l1, l6, _, _, rfl, rfl, s6 _ _ (s5 _ _ e4), upd_same, small5 (by rw [List.length_append]; show _ + 1 + _ ≤ 100000; omega), fun f hf => ?_⟩
    have s7 := Same.newA (o := .lst ((cutV vs none (some (at_ : Int)) ++ [one]) ++ cutV vs (some ((at_ : Int) + d)) none)) hf
    have ef : (upd (upd H5 l6 (.lst (cutV vs (some ((at_ : Int) + d)) none))) f (.lst ((cutV vs none (some (at_ : Int)) ++ [one]) ++ cutV vs (some ((at_ : Int) + d)) none))) f = some (.lst ((cutV vs none (some (at_ : Int)) ++ [one]) ++ cutV vs (some ((at_ : Int) + d)) none)) := upd_same
    have P7 := P4.same (s5.trans (s6.trans s7))
    have hv7 := (s5.trans (s6.trans s7)).stA (P3.st b4 hv3)
    have b7 : But p H _ := b1.trans (b2.trans ((But.of s3).trans (b4.trans (But.of (s5.trans (s6.trans s7))))))
    have one_in : one ∈ xs := List.mem_of_getElem? hone
    have nf : H f = none := But.freshA (b1.trans (b2.trans ((But.of s3).trans (b4.trans (But.of (s5.trans s6)))))) ((P4.same (s5.trans s6)).ne_p hf) hf
    generalize upd (upd H5 l6 (.lst (cutV vs (some ((at_ : Int) + d)) none))) f (.lst ((cutV vs none (some (at_ : Int)) ++ [one]) ++ cutV vs (some ((at_ : Int) + d)) none)) = A7 at ef P7 hv7 b7
    have inF : ∀ u ∈ (cutV vs none (some (at_ : Int)) ++ [one]) ++ cutV vs (some ((at_ : Int) + d)) none, u ∈ vs ∨ u ∈ xs := fun u hu => by
      rcases List.mem_append.mp hu with hu | hu
      · rcases List.mem_append.mp hu with hu | hu
        · exact .inl (cutV_mem hu)
        · rw [List.mem_singleton.mp hu]; exact .inr one_in
      · exact .inl (cutV_mem hu)
    have lnF : ((cutV vs none (some (at_ : Int)) ++ [one]) ++ cutV vs (some ((at_ : Int) + d)) none).length ≤ vs.length + 1 := by
      rw [List.length_append, List.length_append]; show _ + 1 + _ ≤ _; omega
    generalize (cutV vs none (some (at_ : Int)) ++ [one]) ++ cutV vs (some ((at_ : Int) + d)) none = fs at ef inF lnF
    clear s3 s5 s6 s7 e3 e4 first hv2 hv1 hv3 hs1 P1 P2 P3 P4 b1 b2 b4 h5 hl6 hf lA lA2 lB
    have cut1 := (cutV_to_len (xs := vs) at_).1
    have cut1b := (cutV_to_len (xs := vs) at_).2
    have cut2 : (cutV vs (some ((at_ : Int) + 1)) none).length ≤ vs.length - (at_ + 1) := cutV_from_len (xs := vs) (at_ + 1)
    have cut3 : (cutV vs none (some 1)).length ≤ 1 := (cutV_to_len (xs := vs) 1).1
    have cut3b : (cutV vs none (some 1)).length ≤ vs.length := (cutV_to_len (xs := vs) 1).2
    have vv : VT K (tVar 1) [some (.ref p), some (.ref va), some (.ref sa), some (.int (at_ : Int)), some one, some (.ref f)] A7 vs := vt_var rfl hv7
    refine ⟨_, rfl, _, rfl, run_vt (vt_tupleOfL (vl_var (i := 5) rfl ef)) fun t2 B2 s2 g2 => run_vt (vt_cat (vt_tupleOf (vt_sl (vt_at vv s2) eo_none (eo_some (K := K) (F := nn B2) (ed_var (i := 3) rfl (.int _))))) (vt_tupleOf (vt_sl (vt_at vv s2) (eo_some (K := K) (F := nn B2) (ed_add (ed_var (i := 3) rfl (.int _)) ed_int)) eo_none)) (by omega)) fun t3 B3 s3 g3 =>
      run_vt (vt_cat (vt_tupleOf (vt_at vv (s2.trans s3))) (vt_tupleOf (vt_sl (vt_at vv (s2.trans s3)) eo_none (eo_some (K := K) (F := nn B3) ed_int))) (by omega)) fun t4 B4 s4 g4 => run_vt (vt_tupleOf (vt_rev (vt_at vv (s2.trans (s3.trans s4))))) fun t5 B5 s5 g5 => fun t6 ht6 => run_vt (K := K) vt_nil fun t7 B7 s7 g7 => ⟨(by show 10 ≤ sizeLine; decide), fun t8 ht8 => ?_⟩⟩
    have sA := s2.trans (s3.trans (s4.trans s5))
    have s6 := Same.newA (o := .dK []) ht6
    have s8 := Same.newA (o := .lst [.ref f, .ref t2, .ref t3, .ref t4, .ref t5, .non, .int 5, .str "ab", .ref t6, .ref t7]) ht8
    have s68 := s6.trans (s7.trans s8)
    have PB := P7.same sA
    have n6 := PB.ne_p ht6
    have e6 : (upd B5 t6 (.dK [])) t6 = some (.dK []) := upd_same
    have PZ := P7.same (sA.trans s68)
    have bZ := b7.trans (But.of (sA.trans s68))
    have eF := (sA.trans s68) _ _ ef
    have k2 := (s3.trans (s4.trans (s5.trans s68))).stA g2
    have k3 := (s4.trans (s5.trans s68)).stA g3
    have k4 := (s5.trans s68).stA g4
    have k5 := s68.stA g5
    have k6 := (s7.trans s8) _ _ e6
    have k7 := s8.stA g7
    have e8 : (upd B7 t8 (.lst [.ref f, .ref t2, .ref t3, .ref t4, .ref t5, .non, .int 5, .str "ab", .ref t6, .ref t7])) t8 = some (.lst [.ref f, .ref t2, .ref t3, .ref t4, .ref t5, .non, .int 5, .str "ab", .ref t6, .ref t7]) := upd_same
    generalize upd B7 t8 (.lst [.ref f, .ref t2, .ref t3, .ref t4, .ref t5, .non, .int 5, .str "ab", .ref t6, .ref t7]) = Z at PZ bZ eF k2 k3 k4 k5 k6 k7 e8
    refine ⟨p, c, t8, _, _, rfl, PZ, .inl (.of e8), by show 0 < 10; decide, by show 10 < 100000; decide, by omega, fun y v9 H9 hv9 b9 P9 => k v9 H9 (bZ.trans b9) (P9.more (by omega)) ?_⟩
    match y, hv9 with
    | 0, h => cases h; exact .inl ⟨f, fs, rfl, .inl ⟨b9 _ _ (PZ.ne eF (fun _ z => nomatch z)) eF, nf⟩, inF, lnF⟩
    | 1, h => cases h; exact .inl ⟨t2, fs, rfl, .inr (PZ.st b9 k2), inF, lnF⟩
    | 2, h =>
      cases h
      refine .inl ⟨t3, _, rfl, .inr (PZ.st b9 k3), fun u hu => .inl ?_, by rw [List.length_append]; omega⟩
      exact (List.mem_append.mp hu).elim cutV_mem cutV_mem
    | 3, h =>
      cases h
      refine .inl ⟨t4, _, rfl, .inr (PZ.st b9 k4), fun u hu => .inl ?_, by rw [List.length_append]; omega⟩
      exact (List.mem_append.mp hu).elim id cutV_mem
    | 4, h =>
      cases h
      exact .inl ⟨t5, _, rfl, .inr (PZ.st b9 k5), fun u hu => .inl (List.mem_reverse.mp hu), by rw [List.length_reverse]; omega⟩
    | 5, h => cases h; exact .inr (.inl rfl)
    | 6, h => cases h; exact .inr (.inr (.inl rfl))
    | 7, h => cases h; exact .inr (.inr (.inr (.inl rfl)))
    | 8, h => cases h; exact .inr (.inr (.inr (.inr ⟨t6, rfl, b9 _ _ n6 k6⟩)))
    | 9, h => cases h; exact .inl ⟨t7, [], rfl, .inr (PZ.st b9 k7), fun u hu => (nomatch hu), Nat.zero_le _⟩
end
end Ag

set_option Elab.async false
set_option linter.all false
set_option maxRecDepth 100000
set_option maxHeartbeats 2000000
set_option pp.maxSteps 300
namespace Ag
open PySem PySem.Spec PyProof.Rows L2 LamX
abbrev tupR (K : PySem.W.Frag) : List V → Hp → VK → Prop := fun xs H Q => ∃ p ys, xs = [.ref p] ∧ ((SqL K H p ys ∧ ∀ l, H l = none → Q (.ref l) (upd H l (.tup ys))) ∨ (SqT K H p ys ∧ Q (.ref p) H))
/-- the one table, and the name that its code objects bear -/
def TB1 (tb : Addr) : List (Addr × Str) := [(tb, (envOfC "law" (defScope s_law) 0 0 (.ref 0)).qual ++ "<lambda>")]
/-- all is kept but the pen, the tables and the lists that F does not name -/
def KlF (F : Addr → Prop) (p : Addr) (H H' : Hp) : Prop := ∀ a o, a ≠ p → (∀ ps, o ≠ .tbl ps) → ((∀ xs, o ≠ .lst xs) ∨ F a) → H a = some o → H' a = some o
section
variable {F : Addr → Prop} {p : Addr} {H H1 : Hp}
theorem KlF.but (b : But p H H1) : KlF F p H H1 := fun x o n _ _ h => b x o n h
theorem KlF.of (b : Same H H1) : KlF F p H H1 := fun x o _ _ _ h => b x o h
theorem KlF.ext (b : ExtN H H1) : KlF F p H H1 := fun x o _ t _ h => b x o h t
theorem KlF.lst {l : Addr} {xs : List V} {o : HO} (h : H l = some (.lst xs)) (nf : ¬ F l) : KlF F p H (upd H l o) := fun x u n t nl e => by
  rw [upd_ne (fun z => ?_)]
  · exact e
  · subst z
    rw [h] at e
    rcases nl with nl | nl
    · exact nl _ (Option.some.inj e).symm
    · exact nf nl
end
section
variable {K : PySem.W.Frag} {F : Addr → Prop} {p c : Addr} {n : Nat} {H H' : Hp}
theorem Pen.stF {a : Addr} {xs : List V} (h : Pen p c n H) (k : KlF F p H H') (r : SqT K H a xs) : SqT K H' a xs := r.imp (fun z => by
  rcases z with z | ⟨o, z⟩
  · exact .inl (k _ _ (h.ne z (fun _ e => nomatch e)) (fun _ e => nomatch e) (.inl fun _ e => nomatch e) z)
  · exact .inr ⟨o, k _ _ (h.ne z (fun _ e => nomatch e)) (fun _ e => nomatch e) (.inl fun _ e => nomatch e) z⟩) id
theorem Pen.slF {a : Addr} {xs : List V} (h : Pen p c n H) (k : KlF F p H H') (r : (Rd H a (.lst xs) ∧ F a) ∨ KL K a xs) : (Rd H' a (.lst xs) ∧ F a) ∨ KL K a xs := r.imp (fun ⟨z, f⟩ => ⟨by
  rcases z with z | ⟨o, z⟩
  · exact .inl (k _ _ (h.ne z (fun _ e => nomatch e)) (fun _ e => nomatch e) (.inr f) z)
  · exact .inr ⟨o, k _ _ (h.ne z (fun _ e => nomatch e)) (fun _ e => nomatch e) (.inr f) z⟩, f⟩) id
mutual
theorem Pen.dfF (h : Pen p c n H) (k : KlF F p H H') : ∀ {v : V} {d : PyData}, Df K F H v d → Df K F H' v d
  | _, _, .non => .non
  | _, _, .bl b => .bl b
  | _, _, .int i => .int i
  | _, _, .str x => .str x
  | _, _, .lst q r => .lst (h.slF k q) (Pen.dfsF h k r)
  | _, _, .tup q r => .tup (h.stF k q) (Pen.dfsF h k r)
theorem Pen.dfsF (h : Pen p c n H) (k : KlF F p H H') : ∀ {vs : List V} {ds : List PyData}, DfAll K F H vs ds → DfAll K F H' vs ds
  | _, _, .nil => .nil
  | _, _, .cons q r => .cons (Pen.dfF h k q) (Pen.dfsF h k r)
end
end
theorem tabs_lst {T : List (Addr × Str)} {H : Hp} {l : Addr} {xs : List V} {o : HO} (h : H l = some (.lst xs)) (t : Tabs T H) : Tabs T (upd H l o) := fun q hq => by
  obtain ⟨ps, e, tr, co⟩ := t q hq
  refine ⟨ps, by rw [upd_ne (ne_of e h (fun z => nomatch z))]; exact e, tr, fun pos cv hcv => ?_⟩
  obtain ⟨cc, rfl, hc⟩ := co pos cv hcv
  exact ⟨cc, rfl, by rw [upd_ne (ne_of hc h (fun z => nomatch z))]; exact hc⟩
/-- the marks as a tuple of live tuples -/
def MkV (K : PySem.W.Frag) (ps : List Pr) (mv : V) (H : Hp) : Prop := ∃ (ma : Addr) (ks : List (Addr × List Key)), mv = .ref ma ∧ SqT K H ma (ks.map fun z => V.ref z.1) ∧ ks.map Prod.snd = ps.map pairK ∧ ∀ z ∈ ks, H z.1 = some (.tup (z.2.map kV))
/-- the law's machine, its lists where F allows -/
def McF (K : PySem.W.Frag) (F : Addr → Prop) (m : Addr) (ns : List Str) (rs : List (List Int)) (ps : List Pr) (H : Hp) : Prop :=
  ∃ (cs R md : Addr) (km : List (List Key × V)), H m = some (.dK (mcKV cs R md)) ∧ FzT H cs (ns.map V.str) ∧ Df K F H (.ref R) (rowsLL rs) ∧ H md = some (.dT km) ∧ km.map Prod.fst = ps.map pairK
theorem McF.at_ {K : PySem.W.Frag} {F : Addr → Prop} {m : Addr} {ns : List Str} {rs : List (List Int)} {ps : List Pr} {H : Hp} (h : McF K F m ns rs ps H) : McAt K m ns rs ps H := by
  obtain ⟨cs, R, md, km, h1, h2, h3, h4, h5⟩ := h
  exact ⟨cs, R, md, km, h1, h2, df_dp h3, h4, h5⟩
theorem McAt.f {K : PySem.W.Frag} {m : Addr} {ns : List Str} {rs : List (List Int)} {ps : List Pr} {H : Hp} (h : McAt K m ns rs ps H) : McF K (nn H) m ns rs ps H := by
  obtain ⟨cs, R, md, km, h1, h2, h3, h4, h5⟩ := h
  exact ⟨cs, R, md, km, h1, h2, dp_df h3, h4, h5⟩
/-- what stands through a lap -/
structure Lap (K : PySem.W.Frag) (F : Addr → Prop) (C p c b m cs tb : Addr) (rv mv : V) (ns : List Str) (rs : List (List Int)) (ps qs : List Pr) (n : Nat) (H : Hp) : Prop where
  pen : Pen p c n H
  tab : Tabs (TB1 tb) H
  cz : FzT H cs (ns.map V.str)
  rv : Df K F H rv (rowsD rs)
  mv : MkV K ps mv H
  mc : McF K F m ns rs qs H
  bk : MachN K C (fun a => a ≠ p) b ns rs ps H
section
variable {K : PySem.W.Frag} {F : Addr → Prop} {C p c b m cs tb : Addr} {rv mv : V} {ns : List Str} {rs : List (List Int)} {ps qs : List Pr} {n k : Nat} {H H' : Hp}
theorem dp_rows_st (f : ∀ a xs, SqT K H a xs → SqT K H' a xs) {v : V} {rs : List (List Int)} (h : Dp K H v (rowsD rs)) : Dp K H' v (rowsD rs) := by
  have all : ∀ (rs : List (List Int)) {vs : List V}, DpAll K H vs (rs.map fun r => .tuple (r.map .int)) → DpAll K H' vs (rs.map fun r => .tuple (r.map .int)) := by
    intro rs
    induction rs with
    | nil => intro vs h; cases h; exact .nil
    | cons r rs ih =>
      intro vs h
      cases h with
      | cons a t =>
        refine .cons ?_ (ih t)
        cases a with
        | tup hs hr =>
          have e := ints_dps hr
          subst e
          exact .tup (f _ _ hs) (dfs_dps (F := nn H') (dfs_ints r))
  cases h with
  | tup hs hr => exact .tup (f _ _ hs) (all rs hr)
theorem dp_marks_st (f : ∀ a xs, SqT K H a xs → SqT K H' a xs) {v : V} {ps : List Pr} (h : Dp K H v (.tuple (ps.map pairD))) : Dp K H' v (.tuple (ps.map pairD)) := by
  cases h with
  | tup hs hr =>
    obtain ⟨ks, rfl, e, hk⟩ := pairs_at hr
    have all : ∀ (ks : List (Addr × List Key)) (ps : List Pr), ks.map Prod.snd = ps.map pairK → (∀ z ∈ ks, SqT K H z.1 (z.2.map kV)) → DpAll K H' (ks.map fun z => V.ref z.1) (ps.map pairD) := by
      intro ks
      induction ks with
      | nil => intro ps e _; cases ps with
        | nil => exact .nil
        | cons p ps => cases e
      | cons z ks ih =>
        intro ps e h
        cases ps with
        | nil => cases e
        | cons p ps =>
          rw [List.map_cons, List.map_cons, List.cons.injEq] at e
          have hz := f _ _ (h z List.mem_cons_self)
          rw [e.1] at hz
          exact .cons (.tup hz (.cons (.int _) (.cons (.str _) .nil))) (ih ps e.2 fun y hy => h y (List.mem_cons_of_mem _ hy))
    exact .tup (f _ _ hs) (all ks ps e hk)
theorem Lap.kl (h : Lap K F C p c b m cs tb rv mv ns rs ps qs n H) (q : KlF F p H H') (P : Pen p c k H') (t : Tabs (TB1 tb) H') : Lap K F C p c b m cs tb rv mv ns rs ps qs k H' where
  pen := P
  tab := t
  cz := let ⟨o, e, d⟩ := h.cz; ⟨o, q _ _ (h.pen.ne e (fun _ z => nomatch z)) (fun _ z => nomatch z) (.inl fun _ z => nomatch z) e, d⟩
  rv := h.pen.dfF q h.rv
  mv := let ⟨ma, ks, e1, e2, e3, e4⟩ := h.mv; ⟨ma, ks, e1, h.pen.stF q e2, e3, fun z hz => q _ _ (h.pen.ne (e4 z hz) (fun _ z => nomatch z)) (fun _ z => nomatch z) (.inl fun _ z => nomatch z) (e4 z hz)⟩
  mc := by
    obtain ⟨cs, R, md, km, h1, ⟨o, e, d⟩, h3, h4, h5⟩ := h.mc
    have nm : m ≠ p := fun z => by
      subst z
      obtain ⟨ce, a', dd, k, f, hp, _⟩ := h.pen
      have z := HO.dK.inj (Option.some.inj (h1.symm.trans hp))
      have := congrArg List.length z
      unfold mcKV penKV at this
      cases this
    exact ⟨cs, R, md, km, q _ _ nm (fun _ z => nomatch z) (.inl fun _ z => nomatch z) h1, ⟨o, q _ _ (h.pen.ne e (fun _ z => nomatch z)) (fun _ z => nomatch z) (.inl fun _ z => nomatch z) e, d⟩, h.pen.dfF q h3, q _ _ (h.pen.ne h4 (fun _ z => nomatch z)) (fun _ z => nomatch z) (.inl fun _ z => nomatch z) h4, h5⟩
  bk := by
    obtain ⟨dx, ca, rv, mv, pd, md, kp, km, h1, h2, h3, h4, h5, h6, h7, h8, h9, h10⟩ := h.bk
    exact ⟨dx, ca, rv, mv, pd, md, kp, km, q _ _ (h.pen.ne h1 (fun _ e => nomatch e)) (fun _ e => nomatch e) (.inl fun _ e => nomatch e) h1, h.pen.stF q h2, dp_rows_st (fun _ _ => h.pen.stF q) h3, dp_marks_st (fun _ _ => h.pen.stF q) h4, q _ _ h9 (fun _ e => nomatch e) (.inl fun _ e => nomatch e) h5, h6,
      q _ _ (h.pen.ne h7 (fun _ e => nomatch e)) (fun _ e => nomatch e) (.inl fun _ e => nomatch e) h7, h8, h9, h10⟩
theorem Lap.but (h : Lap K F C p c b m cs tb rv mv ns rs ps qs n H) (q : But p H H') (P : Pen p c k H') : Lap K F C p c b m cs tb rv mv ns rs ps qs k H' := h.kl (.but q) P (tabs_but h.pen q h.tab)
theorem Lap.same (h : Lap K F C p c b m cs tb rv mv ns rs ps qs n H) (s : Same H H') : Lap K F C p c b m cs tb rv mv ns rs ps qs n H' := h.kl (.of s) (h.pen.same s) (fun q hq => (h.tab q hq).ext s)
theorem Lap.ext (h : Lap K F C p c b m cs tb rv mv ns rs ps qs n H) (e : ExtN H H') (t : Tabs (TB1 tb) H') : Lap K F C p c b m cs tb rv mv ns rs ps qs n H' := h.kl (.ext e) (h.pen.ext e) t
theorem Lap.more (h : Lap K F C p c b m cs tb rv mv ns rs ps qs n H) (l : n ≤ k) : Lap K F C p c b m cs tb rv mv ns rs ps qs k H := { h with pen := h.pen.more l }
/-- a list that F does not name and that is not the pen's is changed -/
theorem Lap.lst {l : Addr} {xs ys : List V} (h : Lap K F C p c b m cs tb rv mv ns rs ps qs n H) (hl : H l = some (.lst xs)) (nf : ¬ F l) (nc : l ≠ c) : Lap K F C p c b m cs tb rv mv ns rs ps qs n (upd H l (.lst ys)) :=
  h.kl (.lst hl nf) (h.pen.upd (h.pen.ne hl (fun _ e => nomatch e)) nc) (tabs_lst hl h.tab)
end
theorem Lap.cs {K : PySem.W.Frag} {F : Addr → Prop} {C p c b m q tb : Addr} {rv mv : V} {ns : List Str} {rs : List (List Int)} {ps qs : List Pr} {n : Nat} {H : Hp} (h : Lap K F C p c b m q tb rv mv ns rs ps qs n H) : SqT K H q (ns.map V.str) := h.cz.st
end Ag

set_option Elab.async false
set_option linter.all false
set_option maxRecDepth 100000
set_option maxHeartbeats 4000000
set_option pp.maxSteps 300
namespace Ag
open PySem PySem.Spec PyProof.Rows L2 LamX
section
variable {K : PySem.W.Frag} {σ : L2.St} {F : Addr → Prop} {H : Hp}
theorem asg_of {te : TE} {g : TG} {D : Ends} (h : te σ H fun v H1 => g v σ H1 D.nx) : tAsg te g D σ H := h
theorem ed_neg {i : Int} : ED K (tUn (rU fun i => .int (-i)) (tC (.int i))) σ F H (.int (-i)) := fun H1 s Q q => ⟨i, rfl, q _ H1 (Same.refl _) (.int _)⟩
/-- if left != right: .., both the same data -/
theorem if_same {tL tR : TE} {tu tw : TS} {D : Ends} {d e : PyData} (G : Hp → Prop) (hL : ∀ Q : VK, (∀ v H1, G H1 → Dp K H1 v d → Q v H1) → tL σ H Q) (hR : ∀ H1, G H1 → ∀ Q : VK, (∀ v H2, Same H1 H2 → Dp K H2 v e → Q v H2) → tR σ H1 Q)
    (sd : SeqAt.shaped d = true) (se : SeqAt.shaped e = true) (he : PyData.eqv d e = true) (k : ∀ H1 H2, G H1 → Same H1 H2 → tw D σ H2) : tIfS (tTest (tOp (rNeD K) tL tR)) tu tw D σ H := by
  refine hL _ fun v H1 g hv => hR H1 g _ fun u H2 s hu => ⟨d, e, dp_mono s hv, hu, sd, se, _, rfl, ?_⟩
  rw [he]; exact k H1 H2 g s
theorem lst_told {p : Addr} {a b x : Str} (h : H p = some (.lst [.str a, .str b, .str x])) : Dp K H (.ref p) (.list [.str a, .str b, .str x]) := .lst (.inl (.inl h)) (.cons (.str _) (.cons (.str _) (.cons (.str _) .nil)))
theorem told_eqv (a b x : Str) : PyData.eqv (.list [.str a, .str b, .str x]) (.list [.str a, .str b, .str x]) = true := by
  simp only [PyData.eqv, PyData.eqvAll]; simp
end
theorem shaped_bool (b : Bool) : SeqAt.shaped (.bool b) = true := shaped_of (nice_bool b) (by decide)
theorem flat_one (x : PyData) : ∀ k : Nat, (List.replicate k [x]).flatten = List.replicate k x
  | 0 => rfl
  | k + 1 => by rw [List.replicate_succ, List.flatten_cons, flat_one x k, List.replicate_succ]; rfl
theorem nice_neg1 : Nice 0 5 (.int (-1)) := nice_int (by decide +kernel)
/-! ### what may be handed in -/
theorem given_of {K : PySem.W.Frag} {H : Hp} {v : V} {d : PyData} {m n : Nat} (h : Nice m n d) (hd : Dp K H v d) (hm : m ≤ 50) (hn : n ≤ 100000) : Given K H v d := ⟨.inl hd, .inl h.gd, ⟨h.sh, Nat.le_trans h.dp hm, small5 (Nat.le_trans h.ln hn)⟩⟩
theorem due_shaped {dc dr dm : PyData} (h1 : Asc dc.shown) (h2 : Asc dr.shown) (h3 : Asc dm.shown) : SeqAt.shaped (dueD dc dr dm) = true ∧ PyData.eqv (dueD dc dr dm) (dueD dc dr dm) = true := by
  have a1 : Asc ("row" : Str) := asc_of (by decide +kernel)
  unfold dueD
  split
  · split
    · split
      · exact ⟨shaped_of nice_none (by decide), by simp only [PyData.eqv]⟩
      · exact ⟨told_shaped a1 (asc_of (by decide +kernel)) h3, told_eqv _ _ _⟩
    · exact ⟨told_shaped a1 (asc_of (by decide +kernel)) h2, told_eqv _ _ _⟩
  · exact ⟨told_shaped a1 (asc_of (by decide +kernel)) h1, told_eqv _ _ _⟩
theorem due_calls {dc dr dm : PyData} (h : isCalls dc = false) : dueD dc dr dm = .list [.str "row", .str "calls", .str dc.shown] := by unfold dueD; rw [h]; rfl
theorem due_rows {dc dr dm : PyData} (h : isCalls dc = true) (k : isRows dr (lenP dc) = false) : dueD dc dr dm = .list [.str "row", .str "rows", .str dr.shown] := by unfold dueD; rw [h, k]; rfl
theorem due_marks {dc dr dm : PyData} {ns : List Str} (h : isCalls dc = true) (k : isRows dr (lenP dc) = true) (e : partsD dc = ns.map .str) (m : isMarks ns (lenP dr) dm = false) : dueD dc dr dm = .list [.str "row", .str "marks", .str dm.shown] := by
  rw [← namesD_of e] at m
  unfold dueD; rw [h, k, m]; rfl
theorem due_ok {dc dr dm : PyData} {ns : List Str} (h : isCalls dc = true) (k : isRows dr (lenP dc) = true) (e : partsD dc = ns.map .str) (m : isMarks ns (lenP dr) dm = true) : dueD dc dr dm = .none := by
  rw [← namesD_of e] at m
  unfold dueD; rw [h, k, m]; rfl
section
variable {K : PySem.W.Frag} {σ : L2.St} {F : Addr → Prop} {H H' : Hp} {p c : Addr} {n : Nat}
theorem dx_but {v : V} {d : PyData} (P : Pen p c n H) (b : But p H H') (h : Dx K H v d) : Dx K H' v d := h.imp (P.dp b) fun ⟨e, a, ev, ha⟩ => ⟨e, a, ev, b _ _ (fun z => by
  subst z
  obtain ⟨ce, a', dd, k, f, hp, _⟩ := P
  have z := HO.dK.inj (Option.some.inj (ha.symm.trans hp))
  unfold penKV at z
  cases z) ha⟩
theorem dx_ext {v : V} {d : PyData} (P : Pen p c n H) (e : ExtN H H') (h : Dx K H v d) : Dx K H' v d := h.imp (P.dpK (Kp.ext e)) fun ⟨z, a, ev, ha⟩ => ⟨z, a, ev, e _ _ ha (fun _ z => nomatch z)⟩
/-- arguments, all data -/
theorem run_ea {ta : TA} {ds : List PyData} {Q : List V → Hp → Prop} (h : EA K ta σ F H ds) (k : ∀ vs H1, Same H H1 → DfAll K (Fr F H) H1 vs ds → Q vs H1) : ta σ H Q := h H (Same.refl _) _ k
theorem ED.at_ {te : TE} {d : PyData} {H1 : Hp} (h : ED K te σ F H d) (s : Same H H1) : ED K te σ F H1 d := fun H2 s2 Q q => h H2 (s.trans s2) Q q
/-- a list of data, the only argument left -/
theorem run_lstA {ta : TA} {ds : List PyData} {Q : List V → Hp → Prop} (h : EA K ta σ F H ds) (k : ∀ vs H1, Same H H1 → DfAll K (Fr F H) H1 vs ds → vs.length ≤ sizeLine ∧ ∀ l, H1 l = none → Q [.ref l] (upd H1 l (.lst vs))) : tCons (tLst ta) tNil σ H Q := h H (Same.refl _) _ k
end
/-! ### machines made -/
section
variable {P : Program} {w : World} {K : PySem.W.Frag} {mg : Str → Option Value} {base : Heap}
theorem mk_mach {C B : Addr} {vc vr vm : V} {dc dr dm : PyData} {ns : List Str} {rs : List (List Int)} {ps : List Pr} {H : Hp} {Q : VK} {E : XK} (hc : Dp K H vc dc) (gc : gd dc = true) (hr : Dp K H vr dr) (gr : gd dr = true) (hm : Dp K H vm dm) (gm : gd dm = true) (lv : Live K H vm dm)
    (okc : isCalls dc = true) (okr : isRows dr (lenP dc) = true) (okm : isMarks ns (lenP dr) dm = true) (pc : partsD dc = ns.map .str) (pr : rowsT dr = rowsD rs) (pm : partsD dm = ps.map pairD)
    {x dx : Addr} (hx : H x = none) (hdx : H dx = none) (n : dx ≠ x) (k : ∀ H', Same H H' → MachN K C (fun a => H a = none) x ns rs ps H' → Q .non H') : spMach K C B [.ref x, vc, vr, vm] (upd (upd H dx (.own x)) x (.ins C dx [])) Q E := by
  have s1 : Same H (upd (upd H dx (.own x)) x (.ins C dx [])) := (Same.newA hdx).trans (Same.newA (by rw [upd_ne (Ne.symm n)]; exact hx))
  have names_eq : ∀ ms : List Str, partsD dc = ms.map .str → ms = ns := fun ms e => by rw [← namesD_of e, namesD_of pc]
  refine ⟨x, dx, vc, vr, vm, dc, dr, dm, rfl, upd_same, ⟨.inl (dp_mono s1 hc), .inl gc⟩, ⟨.inl (dp_mono s1 hr), .inl gr⟩, ⟨.inl (dp_mono s1 hm), .inl gm, lv.same s1⟩, (fun h => by rw [okc] at h; cases h), (fun _ h => by rw [okr] at h; cases h), (fun ms _ _ e h => by rw [names_eq ms e, okm] at h; cases h), fun ms ts qs H' _ _ _ e1 e2 e3 _ bt bk => ?_⟩
  have em := names_eq ms e1
  have et : ts = rs := by
    have e := eqv_rows ts rs
    rw [← e2, pr] at e
    have e4 := eqv_rows rs rs
    rw [e4, decide_eq_true rfl] at e
    exact of_decide_eq_true e.symm
  have eq : qs = ps := by
    have e := eqv_marks qs ps
    rw [← e3, pm] at e
    have e4 := eqv_marks ps ps
    rw [e4, decide_eq_true rfl] at e
    exact of_decide_eq_true e.symm
  subst em et eq
  refine k H' (fun a o e => bt _ _ (ne_of_none e hx) (s1 _ _ e)) ?_
  obtain ⟨dx', ca, rv, mv, pd, md, kp, km, h1, h2, h3, h4, h5, h6, h7, h8, h9, h10⟩ := bk
  exact ⟨dx', ca, rv, mv, pd, md, kp, km, h1, h2, h3, h4, h5, h6, h7, h8, s1.freshA h9, s1.freshA h10⟩
end
/-! ### the law's marks, listed and sorted -/
theorem keys_zip {H : Hp} : ∀ {km : List (List Key × V)} {bs : List Addr}, IsKeys H km bs → ∀ z ∈ (bs.map V.ref).zip (km.map fun q => keyD q.1), ∃ b k, z = (V.ref b, keyD k) ∧ H b = some (.tup (k.map kV)) ∧ k ∈ km.map Prod.fst := by
  intro km bs h
  unfold IsKeys at h
  induction h with
  | nil => exact fun z hz => (nomatch hz)
  | @cons q b km bs hq _ ih =>
    intro z hz
    rw [List.map_cons, List.map_cons, List.zip_cons_cons] at hz
    rcases List.mem_cons.mp hz with rfl | hz
    · exact ⟨b, q.1, rfl, hq, List.mem_cons_self⟩
    · obtain ⟨b2, k, e, l, m⟩ := ih z hz
      exact ⟨b2, k, e, l, List.mem_cons_of_mem _ m⟩
theorem marks_mk {H : Hp} {km : List (List Key × V)} {bs : List Addr} {zs : List (V × PyData)} {qs : List Pr} (hk : IsKeys H km bs) (e : km.map Prod.fst = qs.map pairK) (pz : zs.Perm ((bs.map V.ref).zip (km.map fun q => keyD q.1))) (ez : zs.map Prod.snd = (km.map fun q => keyD q.1).mergeSort leD) :
    ∃ ks : List (Addr × List Key), zs.map Prod.fst = ks.map (fun z => V.ref z.1) ∧ ks.map Prod.snd = (qs.mergeSort leP).map pairK ∧ ∀ z ∈ ks, H z.1 = some (.tup (z.2.map kV)) := by
  have all : ∀ l : List (V × PyData), (∀ z ∈ l, z ∈ (bs.map V.ref).zip (km.map fun q => keyD q.1)) → ∃ (ks : List (Addr × List Key)) (ps : List Pr), l.map Prod.fst = ks.map (fun z => V.ref z.1) ∧ l.map Prod.snd = ps.map pairD ∧ ks.map Prod.snd = ps.map pairK ∧ ∀ z ∈ ks, H z.1 = some (.tup (z.2.map kV)) := by
    intro l
    induction l with
    | nil => exact fun _ => ⟨[], [], rfl, rfl, rfl, fun z hz => (nomatch hz)⟩
    | cons z l ih =>
      intro h
      obtain ⟨ks, ps, e1, e2, e3, e4⟩ := ih fun y hy => h y (List.mem_cons_of_mem _ hy)
      obtain ⟨b, k, rfl, hb, mk⟩ := keys_zip hk z (h z List.mem_cons_self)
      rw [e] at mk
      obtain ⟨q, _, rfl⟩ := List.mem_map.mp mk
      refine ⟨(b, pairK q) :: ks, q :: ps, by rw [List.map_cons, e1]; rfl, by rw [List.map_cons, e2]; rfl, by rw [List.map_cons, e3]; rfl, fun y hy => ?_⟩
      rcases List.mem_cons.mp hy with rfl | hy
      · exact hb
      · exact e4 y hy
  obtain ⟨ks, ps, e1, e2, e3, e4⟩ := all zs fun z hz => pz.mem_iff.mp hz
  have ed : (km.map fun q => keyD q.1) = qs.map pairD := by
    have : (km.map Prod.fst).map keyD = (qs.map pairK).map keyD := by rw [e]
    rwa [List.map_map, List.map_map] at this
  rw [ed, sort_pairs, e2] at ez
  have ep : ps = qs.mergeSort leP := by
    have inj : ∀ (xs ys : List Pr), xs.map pairD = ys.map pairD → xs = ys := by
      intro xs
      induction xs with
      | nil => intro ys h; cases ys with
        | nil => rfl
        | cons y ys => cases h
      | cons x xs ih =>
        intro ys h
        cases ys with
        | nil => cases h
        | cons y ys =>
          rw [List.map_cons, List.map_cons, List.cons.injEq] at h
          rw [pairD_inj h.1, ih ys h.2]
    exact inj _ _ ez
  exact ⟨ks, e1, by rw [e3, ep], e4⟩
/-! ### steps of the law -/
section
variable {K : PySem.W.Frag} {σ : L2.St} {F : Addr → Prop} {H : Hp} {E : XK}
theorem ed_goM {C B b : Addr} {ns : List Str} {rs : List (List Int)} {ps : List Pr} {i j l : Nat} {s : Str} {n : Nat} (h1 : σ[i]? = some (some (.ref b))) (h2 : σ[j]? = some (some (.int (n : Int)))) (h3 : σ[l]? = some (some (.str s))) (hn : n < rs.length) (bk : MachAt K C b ns rs ps H) (ok : OkR ns.length rs) (nd : ns.Nodup) :
    ED K (tMeth C "go" (spGo K C B) [] E (tVar i) (tCons (tVar j) (tCons (tVar l) tNil))) σ F H (.int ((goP ns rs n s : Nat) : Int)) := fun H1 s1 Q q => by
  obtain ⟨dx, ca, rv, mv, pd, md, kp, km, hb, _⟩ := id bk
  refine ⟨_, h1, b, dx, _, rfl, s1 _ _ hb, bf_no no_go, _, h2, _, h3, b, _, _, s, ns, rs, ps, rfl, bk.same s1, ok, .int _, fun h => ?_, fun m r e hr => ?_⟩
  · rw [whole_of.mpr ⟨by omega, by omega⟩] at h; cases h
  · have e : (n : Int) = (m : Int) := PyData.int.inj e
    have e : n = m := by omega
    subst e
    refine ⟨fun hx H' s' => ?_, fun k z H' hk hz s' => ?_⟩
    · have : goP ns rs n s = n := by unfold goP; rw [if_neg hx]
      rw [this] at q
      exact q _ H' s' (.int _)
    · rw [(goP_in nd ok hr hk hz).1]
      exact q _ H' s' (.int _)
theorem ed_isM {C B b : Addr} {ns : List Str} {rs : List (List Int)} {ps : List Pr} {i j l : Nat} {s : Str} {n : Nat} (h1 : σ[i]? = some (some (.ref b))) (h2 : σ[j]? = some (some (.int (n : Int)))) (h3 : σ[l]? = some (some (.str s))) (hn : n < rs.length) (bk : MachAt K C b ns rs ps H) :
    ED K (tMeth C "is_marked" (spIsM K C B) [] E (tVar i) (tCons (tVar j) (tCons (tVar l) tNil))) σ F H (.bool (decide (((n : Int), s) ∈ ps))) := fun H1 s1 Q q => by
  obtain ⟨dx, ca, rv, mv, pd, md, kp, km, hb, _⟩ := id bk
  refine ⟨_, h1, b, dx, _, rfl, s1 _ _ hb, bf_no no_is_marked, _, h2, _, h3, b, _, _, s, ns, rs, ps, rfl, bk.same s1, .int _, fun h => ?_, fun m e hm H' s' => ?_⟩
  · rw [whole_of.mpr ⟨by omega, by omega⟩] at h; cases h
  · have e : (n : Int) = (m : Int) := PyData.int.inj e
    rw [← e]
    exact q _ H' s' (.bl _)
theorem ed_lgo {m : Addr} {ns : List Str} {rs : List (List Int)} {ps : List Pr} {i j l : Nat} {s : Str} {n : Nat} (h1 : σ[i]? = some (some (.ref m))) (h2 : σ[j]? = some (some (.int (n : Int)))) (h3 : σ[l]? = some (some (.str s))) (hn : n < rs.length) (mc : McAt K m ns rs ps H) (ok : OkR ns.length rs) (nd : ns.Nodup) :
    ED K (tCall (spLGo K) [] E (tCons (tVar i) (tCons (tVar j) (tCons (tVar l) tNil)))) σ F H (.int ((goP ns rs n s : Nat) : Int)) := fun H1 s1 Q q =>
  ⟨_, h1, _, h2, _, h3, m, n, s, ns, rs, ps, rfl, mc.same s1, ok, nd, hn, fun H' s' => q _ H' s' (.int _)⟩
theorem ed_lmk {m : Addr} {ns : List Str} {rs : List (List Int)} {ps : List Pr} {i j l : Nat} {s : Str} {n : Nat} (h1 : σ[i]? = some (some (.ref m))) (h2 : σ[j]? = some (some (.int (n : Int)))) (h3 : σ[l]? = some (some (.str s))) (mc : McAt K m ns rs ps H) :
    ED K (tCall (spLMk K) [] E (tCons (tVar i) (tCons (tVar j) (tCons (tVar l) tNil)))) σ F H (.bool (decide (((n : Int), s) ∈ ps))) := fun H1 s1 Q q =>
  ⟨_, h1, _, h2, _, h3, m, n, s, ns, rs, ps, rfl, mc.same s1, fun H' s' => q _ H' s' (.bl _)⟩
theorem rdc_same {d : PyData} (l : leafD d = true) (s : SeqAt.shaped d = true) : RDC K (fun vs H Q => spSame K vs H Q E) [d, d] (.bool true) := fun F vs H1 hv Q q => by
  cases hv with
  | cons a r =>
    cases r with
    | cons b r => cases r; exact ⟨_, _, d, rfl, df_dp a, df_dp b, l, s, fun H' s' => q _ H' s' (.bl _)⟩
end
end Ag

set_option Elab.async false
set_option linter.all false
set_option maxRecDepth 100000
set_option maxHeartbeats 4000000
namespace Ag
open PySem PySem.Spec PyProof.Rows L2 LamX
theorem rows_all {n : Nat} {rs : List (List Int)} (h : OkR n rs) : rowsB (rowsL rs) (n : Int) = true := by
  have ll : (rowsL rs).length = rs.length := List.length_map _
  have h1 := h.pos
  unfold rowsB
  rw [ll, Bool.and_eq_true]
  refine ⟨by rw [decide_eq_false (show ¬ ((rs.length : Int) = 0) by omega)]; rfl, List.all_eq_true.mpr fun y hy => ?_⟩
  obtain ⟨r, hr, rfl⟩ := List.mem_map.mp hy
  obtain ⟨l, b⟩ := h.row r hr
  unfold rowB
  rw [Bool.and_eq_true]
  refine ⟨decide_eq_true (by rw [List.length_map]; omega), List.all_eq_true.mpr fun z hz => ?_⟩
  obtain ⟨i, hi, rfl⟩ := List.mem_map.mp hz
  exact whole_of.mpr (b i hi)
theorem rows_is {n : Nat} {rs : List (List Int)} {d : PyData} (h : OkR n rs) (e : d = .list (rowsL rs) ∨ d = .tuple (rowsL rs)) : isRows d (n : Int) = true := by
  unfold isRows
  rcases e with rfl | rfl
  · show (true && rowsB (rowsL rs) n) = true
    rw [rows_all h]; rfl
  · show (true && rowsB (rowsL rs) n) = true
    rw [rows_all h]; rfl
theorem gds_map {α : Type} {f : α → PyData} {xs : List α} (h : ∀ x ∈ xs, gd (f x) = true) : gds (xs.map f) = true := gds_of fun y hy => by
  obtain ⟨x, hx, rfl⟩ := List.mem_map.mp hy
  exact h x hx
theorem gd_lst {ds : List PyData} (h : gds ds = true) (l : ds.length ≤ 1000) : gd (.list ds) = true := by
  simp only [Ag.gd, Bool.and_eq_true]; exact ⟨h, decide_eq_true l⟩
theorem gd_of_tup {ds : List PyData} (h : gd (.tuple ds) = true) : gd (.list ds) = true := by
  simp only [Ag.gd, Bool.and_eq_true] at h ⊢; exact h
theorem marks_is {ns : List Str} {ps : List Pr} {M : Nat} {d : PyData} (h : ∀ p ∈ ps, 0 ≤ p.1 ∧ p.1 < (M : Int) ∧ p.2 ∈ ns) (u : upP ps = true) (e : d = .list (ps.map pairD) ∨ d = .tuple (ps.map pairD)) : isMarks ns (M : Int) d = true := by
  have a : marksB ns (M : Int) (ps.map pairD) = true := by
    unfold marksB
    rw [upD_pairs, u, Bool.and_true]
    refine List.all_eq_true.mpr fun y hy => ?_
    obtain ⟨p, hp, rfl⟩ := List.mem_map.mp hy
    obtain ⟨h0, h1, h2⟩ := h p hp
    have w : wholeB (.int p.1) 0 ((M : Int) - 1) = true := whole_of.mpr ⟨h0, h1⟩
    simp [stepB, pairD, keyD, pairK, itmD, w, h2]
  unfold isMarks
  rcases e with rfl | rfl
  · show (true && marksB ns M (ps.map pairD)) = true
    rw [a]; rfl
  · show (true && marksB ns M (ps.map pairD)) = true
    rw [a]; rfl
theorem sorted_up {qs : List Pr} (nd : qs.Nodup) : upP (qs.mergeSort leP) = true := by
  have pm : (qs.mergeSort leP).Perm qs := List.mergeSort_perm _ _
  rw [← up_sorted (ps := qs.mergeSort leP) nd fun z => pm.mem_iff.symm]
  exact decide_eq_true rfl
end Ag

set_option Elab.async false
set_option linter.all false
set_option maxRecDepth 100000
set_option maxHeartbeats 4000000
namespace Ag
open PySem PySem.Spec PyProof.Rows L2 LamX
/-- row.append(row[0] if row != [] else (0, calls[0])) -/
theorem app_body {K : PySem.W.Frag} {σ : L2.St} {H : Hp} {D : Ends} {cs l : Addr} {ns : List Str} {xs : List V} {ds : List PyData} (h8 : σ[8]? = some (some (.ref l))) (h3 : σ[3]? = some (some (.ref cs))) (hl : H l = some (.lst xs)) (hd : DpAll K H xs ds) (cl : PyData.canLayAll0 ds = true) (sz : xs.length < sizeLine) (hc : SqT K H cs (ns.map V.str)) (n0 : 1 ≤ ns.length)
    (k : ∀ y H', Same H H' → D.nx σ (upd H' l (.lst (xs ++ [y])))) :
    tDrop (tBM K "list" rAppend (tVar 8) (tCons (tIf (tTest (tOp (rNeE K) (tVar 8) (tLst tNil))) (tOp (rIx K) (tVar 8) (tC (.int 0))) (tTup (tCons (tC (.int 0)) (tCons (tOp (rIx K) (tVar 3) (tC (.int 0))) tNil)))) tNil)) D σ H := by
  refine ⟨_, h8, .inl ⟨rfl, _, SqL.of hl⟩, _, h8, (by show 0 ≤ sizeLine; decide), fun q hq => ?_⟩
  have s1 := Same.newA (o := .lst []) hq
  refine ⟨ds, .lst (SqL.of (s1 _ _ hl)) (dps_mono s1 hd), .lst (SqL.of upd_same) .nil, cl, _, rfl, ?_⟩
  cases xs with
  | nil =>
    cases hd
    obtain ⟨n, ms, rfl⟩ : ∃ n ms, ns = n :: ms := by
      cases ns with
      | nil => exact absurd n0 (by decide)
      | cons n ms => exact ⟨n, ms, rfl⟩
    rw [if_neg (by decide)]
    refine ⟨_, h3, .inr (.inl ⟨_, _, _, _, rfl, rfl, s1.stA hc, atI_nat (j := 0) rfl, (by show 2 ≤ sizeLine; decide), fun t ht => ?_⟩)⟩
    have s2 := Same.newA (o := .tup [.int 0, .str n]) ht
    exact ⟨l, [], _, rfl, rfl, s2 _ _ (s1 _ _ hl), sz, k _ _ (s1.trans s2)⟩
  | cons x xs =>
    cases hd with
    | cons a r =>
      rw [if_pos (show (!(List.isEmpty (_ :: _))) = true from rfl)]
      exact ⟨_, h8, .inl ⟨_, _, _, _, rfl, rfl, SqL.of (s1 _ _ hl), atI_nat (j := 0) rfl, l, x :: xs, _, rfl, rfl, s1 _ _ hl, sz, k _ _ s1⟩⟩
end Ag

set_option Elab.async false
set_option linter.all false
set_option maxRecDepth 100000
set_option maxHeartbeats 4000000
set_option pp.maxSteps 300
namespace Ag
open PySem PySem.Spec PyProof.Rows L2 LamX
theorem keys_dps {K : PySem.W.Frag} {H : Hp} : ∀ {km : List (List Key × V)} {bs : List Addr}, IsKeys H km bs → DpAll K H (bs.map V.ref) (km.map fun q => keyD q.1) := by
  intro km bs h
  unfold IsKeys at h
  induction h with
  | nil => exact .nil
  | cons hq _ ih => exact .cons (.tup (SqT.of hq) (dps_key _)) ih
theorem ks_dps {K : PySem.W.Frag} {H : Hp} : ∀ {ks : List (Addr × List Key)} {ps : List Pr}, ks.map Prod.snd = ps.map pairK → (∀ z ∈ ks, H z.1 = some (.tup (z.2.map kV))) → DpAll K H (ks.map fun z => V.ref z.1) (ps.map pairD)
  | [], [], _, _ => .nil
  | [], _ :: _, e, _ => nomatch e
  | _ :: _, [], e, _ => nomatch e
  | z :: ks, p :: ps, e, h => by
    rw [List.map_cons, List.map_cons, List.cons.injEq] at e
    have hz := h z List.mem_cons_self
    rw [e.1] at hz
    exact .cons (.tup (SqT.of hz) (dps_key (pairK p))) (ks_dps e.2 fun y hy => h y (List.mem_cons_of_mem _ hy))
theorem pairs_inj : ∀ {xs ys : List Pr}, xs.map pairD = ys.map pairD → xs = ys
  | [], [], _ => rfl
  | [], _ :: _, h => nomatch h
  | _ :: _, [], h => nomatch h
  | x :: xs, y :: ys, h => by
    rw [List.map_cons, List.map_cons, List.cons.injEq] at h
    rw [pairD_inj h.1, pairs_inj h.2]
theorem live_of {K : PySem.W.Frag} {H : Hp} {v : V} {d : PyData} {ps : List Pr} (e : partsD d = ps.map pairD) (h : ∃ (ma : Addr) (ks : List (Addr × List Key)), v = .ref ma ∧ (SqL K H ma (ks.map fun z => V.ref z.1) ∨ SqT K H ma (ks.map fun z => V.ref z.1)) ∧ ks.map Prod.snd = ps.map pairK ∧ ∀ z ∈ ks, H z.1 = some (.tup (z.2.map kV))) : Live K H v d := fun qs _ e2 => by
  have e3 := pairs_inj (e.symm.trans e2)
  subst e3; exact h
theorem layL {ds : List PyData} (h : gd (.list ds) = true) : PyData.canLayAll0 ds = true := by
  simp only [Ag.gd, Bool.and_eq_true] at h; exact gds_lay h.1
section
variable {K : PySem.W.Frag} {F : Addr → Prop} {H H' : Hp} {mv : V} {ps : List Pr}
theorem mkv_dp (h : MkV K ps mv H) : Dp K H mv (.tuple (ps.map pairD)) := by
  obtain ⟨ma, ks, rfl, h1, h2, h3⟩ := h
  exact .tup h1 (ks_dps h2 h3)
theorem mkv_live (h : MkV K ps mv H) : Live K H mv (.tuple (ps.map pairD)) := by
  obtain ⟨ma, ks, rfl, h1, h2, h3⟩ := h
  exact live_of rfl ⟨ma, ks, rfl, .inr h1, h2, h3⟩
theorem mkv_same (s : Same H H') (h : MkV K ps mv H) : MkV K ps mv H' := by
  obtain ⟨ma, ks, e, h1, h2, h3⟩ := h
  exact ⟨ma, ks, e, s.stA h1, h2, fun z hz => s _ _ (h3 z hz)⟩
theorem dfs_pairsK : ∀ {ks : List (Addr × List Key)} {ps : List Pr}, ks.map Prod.snd = ps.map pairK → (∀ z ∈ ks, H z.1 = some (.tup (z.2.map kV))) → DfAll K F H (ks.map fun z => V.ref z.1) (ps.map pairD)
  | [], [], _, _ => .nil
  | [], _ :: _, e, _ => nomatch e
  | _ :: _, [], e, _ => nomatch e
  | z :: ks, p :: ps, e, h => by
    rw [List.map_cons, List.map_cons, List.cons.injEq] at e
    have hz := h z List.mem_cons_self
    rw [e.1] at hz
    exact .cons (.tup (SqT.of hz) (.cons (.int _) (.cons (.str _) .nil))) (dfs_pairsK e.2 fun y hy => h y (List.mem_cons_of_mem _ hy))
theorem mkv_df (h : MkV K ps mv H) : Df K F H mv (.tuple (ps.map pairD)) := by
  obtain ⟨ma, ks, rfl, h1, h2, h3⟩ := h
  exact .tup h1 (dfs_pairsK h2 h3)
theorem dfs_rowsF : ∀ {vs : List V} {rs : List (List Int)}, DpAll K H vs (rs.map fun r => .tuple (r.map .int)) → DfAll K F H vs (rs.map fun r => .tuple (r.map .int))
  | _, [], h => by cases h; exact .nil
  | _, r :: rs, h => by
    cases h with
    | cons a t =>
      refine .cons ?_ (dfs_rowsF t)
      cases a with
      | tup hs hr =>
        have e := ints_dps hr
        subst e
        exact .tup hs (dfs_ints r)
theorem df_rowsF {v : V} {rs : List (List Int)} (h : Dp K H v (rowsD rs)) : Df K F H v (rowsD rs) := by
  cases h with
  | tup hs hr => exact .tup hs (dfs_rowsF hr)
end
theorem stepP_mem {ns : List Str} {rs : List (List Int)} {ps qs : List Pr} (h : ∀ z, z ∈ ps ↔ z ∈ qs) : stepP ns rs ps = stepP ns rs qs := by
  funext q x; unfold stepP; simp only [h]
theorem cutV_one {xs : List V} : cutV xs (some 1) none = xs.drop 1 := by
  unfold cutV
  rw [show (1 : Int) = ((1 : Nat) : Int) from rfl, HT.sIx_none, HT.sIx_nat]
  cases xs with
  | nil => rfl
  | cons x xs =>
    rw [show min 1 (x :: xs).length = 1 by rw [List.length_cons]; omega]
    show xs.take ((x :: xs).length - 1) = xs
    rw [List.length_cons]; exact List.take_of_length_le (by omega)
section
variable {K : PySem.W.Frag} {σ : L2.St} {F : Addr → Prop} {H : Hp} {E1 E2 : XK}
theorem ed_eqM {C B b cs : Addr} {rv mv : V} {ns : List Str} {rs : List (List Int)} {ps qs : List Pr} {i j l m : Nat} (h10 : σ[i]? = some (some (.ref b))) (h3 : σ[j]? = some (some (.ref cs))) (h5 : σ[l]? = some (some rv)) (h6 : σ[m]? = some (some mv)) (bk : MachAt K C b ns rs ps H) (hc : SqT K H cs (ns.map V.str)) (hr : Dp K H rv (rowsD rs)) (hm : MkV K qs mv H)
    (gc : gd (.tuple (ns.map .str)) = true) (gr : gd (rowsD rs) = true) (gm : gd (.tuple (qs.map pairD)) = true) (isc : isCalls (.tuple (ns.map .str)) = true) (isr : isRows (rowsD rs) (lenP (.tuple (ns.map PyData.str))) = true) (ism : isMarks ns (lenP (rowsD rs)) (.tuple (qs.map pairD)) = true)
    (n1 : Nice 4 60000 (.tuple [.tuple (ns.map .str), rowsD rs, .tuple (ps.map pairD)])) (n2 : Nice 4 60000 (.tuple [.tuple (ns.map .str), rowsD rs, .tuple (qs.map pairD)])) :
    ED K (tOp (rEqO K C (spOr (spEqMach K C) (spEqTup K C)) E1) (tVar i) (tMake C (spMach K C B) [] E2 (tCons (tVar j) (tCons (tVar l) (tCons (tVar m) tNil))))) σ F H (.bool (decide (ps = qs))) := fun H1 s1 Q q => by
  obtain ⟨dx, ca, rv', mv', pd, md, kp, km, hb, _⟩ := id bk
  refine ⟨_, h10, _, h3, _, h5, _, h6, ?_⟩
  intro x dx' hx hdx n
  refine mk_mach (ns := ns) (rs := rs) (ps := qs) (.tup (s1.stA hc) (dps_strs ns)) gc (dp_mono s1 hr) gr (dp_mono s1 (mkv_dp hm)) gm ((mkv_live hm).same s1) isc isr ism rfl (rowsT_of (.inr rfl)) rfl hx hdx n fun H' s' bk2 => ⟨rfl, ?_⟩
  obtain ⟨dy, cy, ry, my, py, wy, ky, kz, hy, _⟩ := id bk2
  refine ⟨b, dx, _, rfl, s' _ _ (s1 _ _ hb), ⟨x, rfl, .inl ⟨_, _, hy⟩⟩, .inl ⟨b, x, ns, rs, ps, ns, rs, qs, rfl, (bk.same s1).same s', bk2.at_, n1, n2, fun H'' s'' => ⟨_, rfl, ?_⟩⟩⟩
  rw [decide_eq_true (show ns = ns from rfl), decide_eq_true (show rs = rs from rfl), Bool.true_and, Bool.true_and]
  exact q _ H'' (s'.trans s'') (.bl _)
theorem ed_eqMT {C b cs : Addr} {rv mv : V} {ns : List Str} {rs : List (List Int)} {ps : List Pr} {i j l m : Nat} (h10 : σ[i]? = some (some (.ref b))) (h3 : σ[j]? = some (some (.ref cs))) (h5 : σ[l]? = some (some rv)) (h6 : σ[m]? = some (some mv)) (bk : MachAt K C b ns rs ps H) (st : PySem.W.subIn K (.type "tuple") (.ref C) = some false) :
    ED K (tOp (rEqO K C (spOr (spEqMach K C) (spEqTup K C)) E1) (tVar i) (tTup (tCons (tVar j) (tCons (tVar l) (tCons (tVar m) tNil))))) σ F H (.bool false) := fun H1 s1 Q q => by
  obtain ⟨dx, ca, rv', mv', pd, md, kp, km, hb, _⟩ := id bk
  refine ⟨_, h10, _, h3, _, h5, _, h6, (by show 3 ≤ sizeLine; decide), fun t ht => ?_⟩
  have s2 := Same.newA (o := .tup [.ref cs, rv, mv]) ht
  exact ⟨b, dx, _, rfl, s2 _ _ (s1 _ _ hb), ⟨t, rfl, .inr ⟨⟨_, .of upd_same⟩, st⟩⟩, .inr ⟨b, t, _, rfl, .of upd_same, fun H' s' => ⟨false, rfl, q _ H' (s2.trans s') (.bl _)⟩⟩⟩
theorem ed_along {C B b wv : Addr} {ns ws : List Str} {rs : List (List Int)} {ps : List Pr} {i j l : Nat} {n : Nat} (h1 : σ[i]? = some (some (.ref b))) (h2 : σ[j]? = some (some (.int (n : Int)))) (h3 : σ[l]? = some (some (.ref wv))) (hn : n < rs.length) (bk : MachAt K C b ns rs ps H) (ok : OkR ns.length rs) (nd : ns.Nodup) (hw : SqT K H wv (ws.map V.str)) (wl : ws.length ≤ 100000) :
    ED K (tMeth C "marks_along" (spAlong K C B) [] E1 (tVar i) (tCons (tVar j) (tCons (tVar l) tNil))) σ F H (.int (((ws.foldl (stepP ns rs ps) (n, 0)).2 : Nat) : Int)) := fun H1 s1 Q q => by
  obtain ⟨dx, ca, rv, mv, pd, md, kp, km, hb, _⟩ := id bk
  refine ⟨_, h1, b, dx, _, rfl, s1 _ _ hb, bf_no no_marks_along, _, h2, _, h3, b, _, _, _, _, ws, ns, rs, ps, rfl, bk.same s1, ok, nd, .int _, .tup (s1.stA hw) (dps_strs ws), .inr rfl, wl, fun h => ?_, fun m e hm H' s' => ?_⟩
  · rw [whole_of.mpr ⟨by omega, by omega⟩] at h; cases h
  · have e : (n : Int) = (m : Int) := PyData.int.inj e
    have e : n = m := by omega
    subst e; exact q _ H' s' (.int _)
theorem ed_lmade {m wv : Addr} {ns ws : List Str} {rs : List (List Int)} {ps : List Pr} {i j l : Nat} {n : Nat} (h1 : σ[i]? = some (some (.ref m))) (h2 : σ[j]? = some (some (.int (n : Int)))) (h3 : σ[l]? = some (some (.ref wv))) (hn : n < rs.length) (mc : McAt K m ns rs ps H) (ok : OkR ns.length rs) (nd : ns.Nodup) (hw : SqT K H wv (ws.map V.str)) (wl : ws.length ≤ 100000) :
    ED K (tCall (spLMade K) [] E1 (tCons (tVar i) (tCons (tVar j) (tCons (tVar l) tNil)))) σ F H (.int (((ws.foldl (stepP ns rs ps) (n, 0)).2 : Nat) : Int)) := fun H1 s1 Q q =>
  ⟨_, h1, _, h2, _, h3, m, n, _, _, ws, ns, rs, ps, rfl, mc.same s1, ok, nd, hn, .tup (s1.stA hw) (dps_strs ws), .inr rfl, wl, fun H' s' => q _ H' s' (.int _)⟩
/-- marks[1:] if marks != () else ((0, calls[0]),) -/
theorem run_other {i j : Nat} {cs : Addr} {mv : V} {ns : List Str} {ps : List Pr} {Q : VK} (h6 : σ[j]? = some (some mv)) (h3 : σ[i]? = some (some (.ref cs))) (hc : SqT K H cs (ns.map V.str)) (n1 : 1 ≤ ns.length) (hm : MkV K ps mv H) (sh : SeqAt.shaped (.tuple (ps.map pairD)) = true)
    (k : ∀ ov qs H1, Same H H1 → MkV K qs ov H1 → ps ≠ qs → (∀ z ∈ qs, z ∈ ps ∨ (z.1 = 0 ∧ z.2 ∈ ns)) → (upP ps = true → upP qs = true) → qs.length ≤ ps.length + 1 → Q ov H1) :
    tIf (tTest (tOp (rNeD K) (tVar j) (tTup tNil))) (tSl (rSlA K) (tVar j) (tPart (tC (.int 1))) tNoPart) (tTup (tCons (tTup (tCons (tC (.int 0)) (tCons (tOp (rIx K) (tVar i) (tC (.int 0))) tNil))) tNil)) σ H Q := by
  refine ⟨_, h6, (by show 0 ≤ sizeLine; decide), fun t ht => ?_⟩
  have s1 := Same.newA (o := .tup []) ht
  refine ⟨.tuple (ps.map pairD), .tuple [], dp_mono s1 (mkv_dp hm), .tup (.of upd_same) .nil, sh, by decide +kernel, _, rfl, ?_⟩
  cases ps with
  | nil =>
    rw [if_neg (by simp [PyData.eqv, PyData.eqvAll])]
    obtain ⟨n, ms, rfl⟩ : ∃ n ms, ns = n :: ms := by
      cases ns with
      | nil => exact absurd n1 (by decide)
      | cons n ms => exact ⟨n, ms, rfl⟩
    refine ⟨_, h3, .inr (.inl ⟨_, _, _, _, rfl, rfl, s1.stA hc, atI_nat (j := 0) rfl, (by show 2 ≤ sizeLine; decide), fun a ha => ⟨(by show 1 ≤ sizeLine; decide), fun b hb => ?_⟩⟩)⟩
    have s2 := Same.newA (o := .tup [.int 0, .str n]) ha
    have s3 := Same.newA (o := .tup [.ref a]) hb
    refine k (.ref b) [(0, n)] _ (s1.trans (s2.trans s3)) ⟨b, [(a, pairK (0, n))], rfl, .of upd_same, rfl, fun z hz => ?_⟩ (fun z => nomatch z) (fun z hz => ?_) (fun _ => rfl) (Nat.le_refl _)
    · rw [List.mem_singleton.mp hz]; exact s3 _ _ upd_same
    · rw [List.mem_singleton.mp hz]; exact .inr ⟨rfl, List.mem_cons_self⟩
  | cons p ps =>
    rw [if_pos (by simp [PyData.eqv, PyData.eqvAll])]
    obtain ⟨ma, ks, rfl, hma, e, hk⟩ := hm
    refine vt_sl (K := K) (vt_var h6 (s1.stA hma)) (eo_some (K := K) (F := nn H) ed_int) eo_none _ (Same.refl _) _ fun b H5 s5 h5 => ?_
    rw [cutV_one] at h5
    cases ks with
    | nil => cases e
    | cons z ks =>
      rw [List.map_cons, List.map_cons, List.cons.injEq] at e
      refine k (.ref b) ps H5 (s1.trans s5) ⟨b, ks, rfl, h5, e.2, fun y hy => (s1.trans s5) _ _ (hk y (List.mem_cons_of_mem _ hy))⟩ (fun z => ?_) (fun y hy => .inl (List.mem_cons_of_mem _ hy)) (fun u => ?_) (by rw [List.length_cons]; omega)
      · have := congrArg List.length z
        rw [List.length_cons] at this; omega
      · exact upP_pw.mpr (List.pairwise_cons.mp (upP_pw.mp u)).2
end
/-! ### what stands in bent -/
def BX (K : PySem.W.Frag) (l : Addr) (H : Hp) (x : V) (d : PyData) : Prop := Df K (fun a => a ≠ l) H x d ∨ (d = .dict [] ∧ ∃ a, x = .ref a ∧ H a = some (.dK []))
def LvB (K : PySem.W.Frag) (l : Addr) (H : Hp) (x : V) (d : PyData) : Prop := ∀ ps : List Pr, listB d = true → partsD d = ps.map pairD → ∃ (ma : Addr) (ks : List (Addr × List Key)), x = .ref ma ∧ ((H ma = some (.lst (ks.map fun z => V.ref z.1)) ∧ ma ≠ l) ∨ SqT K H ma (ks.map fun z => V.ref z.1)) ∧ ks.map Prod.snd = ps.map pairK ∧ ∀ z ∈ ks, H z.1 = some (.tup (z.2.map kV))
structure OkD (d : PyData) : Prop where
  g : gd d = true ∨ d = .dict []
  sh : Shown d
  as : Asc d.shown
  pl : (partsD d).length < 64
theorem okD_of {m n : Nat} {d : PyData} (h : Nice m n d) (hm : m ≤ 50) (hn : n ≤ 100000) (pl : (partsD d).length < 64) : OkD d := ⟨.inl h.gd, ⟨h.sh, Nat.le_trans h.dp hm, small5 (Nat.le_trans h.ln hn)⟩, h.as, pl⟩
theorem okD_dict : OkD (.dict []) := ⟨.inr rfl, ⟨by simp [PyData.showable, PyData.showableKv], by simp [PyData.depth, PyData.depthKv], Nat.le_trans (show (PyData.dict []).shown.length ≤ 5 by decide +kernel) (small5 (by decide))⟩, asc_of (by decide +kernel), by decide⟩
section
variable {K : PySem.W.Frag} {l p c : Addr} {n : Nat} {H H' : Hp} {x : V} {d : PyData}
theorem BX.dx (h : BX K l H x d) : Dx K H x d := h.imp df_dp id
theorem BX.kl (P : Pen p c n H) (k : KlF (fun a => a ≠ l) p H H') (h : BX K l H x d) : BX K l H' x d := h.imp (P.dfF k) fun ⟨e, a, ev, ha⟩ => ⟨e, a, ev, k _ _ (fun z => by
  subst z
  obtain ⟨ce, a', dd, k, f, hp, _⟩ := P
  have z := HO.dK.inj (Option.some.inj (ha.symm.trans hp))
  unfold penKV at z
  cases z) (fun _ z => nomatch z) (.inl fun _ z => nomatch z) ha⟩
theorem LvB.live (h : LvB K l H x d) : Live K H x d := fun ps b e => let ⟨ma, ks, e1, e2, e3, e4⟩ := h ps b e; ⟨ma, ks, e1, e2.imp (fun z => SqL.of z.1) id, e3, e4⟩
theorem LvB.kl (P : Pen p c n H) (k : KlF (fun a => a ≠ l) p H H') (h : LvB K l H x d) : LvB K l H' x d := fun ps b e => let ⟨ma, ks, e1, e2, e3, e4⟩ := h ps b e; ⟨ma, ks, e1, e2.imp (fun ⟨z, n⟩ => ⟨k _ _ (P.ne z (fun _ e => nomatch e)) (fun _ e => nomatch e) (.inr n) z, n⟩) (P.stF k), e3, fun z hz => k _ _ (P.ne (e4 z hz) (fun _ e => nomatch e)) (fun _ e => nomatch e) (.inl fun _ e => nomatch e) (e4 z hz)⟩
end
/-- items that are pairs are live tuples -/
def LvJ (H : Hp) (vs : List V) (ds : List PyData) : Prop := ∀ (i : Nat) (u : V) (q : Pr), vs[i]? = some u → ds[i]? = some (pairD q) → ∃ a, u = .ref a ∧ H a = some (.tup ((pairK q).map kV))
def EAL (K : PySem.W.Frag) (ta : TA) (σ : L2.St) (F : Addr → Prop) (H : Hp) (ds : List PyData) : Prop := ∀ H1, Same H H1 → ∀ Q : List V → Hp → Prop, (∀ vs H2, Same H1 H2 → DfAll K (Fr F H1) H2 vs ds → LvJ H2 vs ds → Q vs H2) → ta σ H1 Q
section
variable {K : PySem.W.Frag} {σ : L2.St} {F : Addr → Prop} {H : Hp} {te t1 t2 : TE} {tr : TA} {ds : List PyData} {d : PyData}
theorem eal_nil : EAL K tNil σ F H [] := fun H1 _ _ q => q [] H1 (Same.refl _) .nil fun i u q h => nomatch h
theorem eal_cons (h : ED K te σ F H d) (np : ∀ q, d ≠ pairD q) (r : EAL K tr σ F H ds) : EAL K (tCons te tr) σ F H (d :: ds) := fun H1 s Q q =>
  h H1 s _ fun v H2 s2 hv => r H2 (s.trans s2) _ fun vs H3 s3 hvs lv => q (v :: vs) H3 (s2.trans s3) (.cons (df_mono s3 (fun _ z => z) hv) (dfs_mono (Same.refl _) (Fr.to s2) hvs)) fun i u q h e => by
    cases i with
    | zero => exact absurd (Option.some.inj e) (np q)
    | succ i => exact lv i u q h e
theorem eal_pair {i : Int} {x : Str} (h1 : ED K t1 σ F H (.int i)) (h2 : ED K t2 σ F H (.str x)) (r : EAL K tr σ F H ds) : EAL K (tCons (tTup (tCons t1 (tCons t2 tNil))) tr) σ F H (pairD (i, x) :: ds) := fun H1 s Q q =>
  h1 H1 s _ fun v H2 s2 hv => h2 H2 (s.trans s2) _ fun w H3 s3 hw => by
    cases hv
    cases hw
    refine ⟨(by show 2 ≤ sizeLine; decide), fun p hp => ?_⟩
    have s4 := Same.newA (o := .tup [.int i, .str x]) hp
    have s24 := s2.trans (s3.trans s4)
    refine r _ (s.trans s24) _ fun vs H5 s5 hvs lv => q (.ref p :: vs) H5 (s24.trans s5) (.cons (.tup (.of (s5 _ _ upd_same)) (.cons (.int _) (.cons (.str _) .nil))) (dfs_mono (Same.refl _) (Fr.to s24) hvs)) fun i u q h e => ?_
    cases i with
    | zero =>
      cases h
      have e := pairD_inj (Option.some.inj e)
      subst e
      exact ⟨p, rfl, s5 _ _ upd_same⟩
    | succ i => exact lv i u q h e
theorem run_some3 {ta tb tc : TA} {d0 d1 d2 : List PyData} {Q : VK} (h0 : EA K ta σ F H d0) (h1 : EA K tb σ F H d1) (h2 : EAL K tc σ F H d2) (l0 : d0.length ≤ 1000) (l1 : d1.length ≤ 1000) (l2 : d2.length ≤ 1000)
    (k : ∀ s s0 s1 s2 v0 v1 v2 H', Same H H' → H' s = some (.lst [.ref s0, .ref s1, .ref s2]) → H' s0 = some (.lst v0) → H' s1 = some (.lst v1) → H' s2 = some (.lst v2) → DfAll K (Fr F H) H' v0 d0 → DfAll K (Fr F H) H' v1 d1 → DfAll K (Fr F H) H' v2 d2 → LvJ H' v2 d2 → Q (.ref s) H') :
    tLst (tCons (tLst ta) (tCons (tLst tb) (tCons (tLst tc) tNil))) σ H Q := by
  refine h0 H (Same.refl _) _ fun v0 H1 e1 a0 => ⟨by rw [dfs_len a0]; exact small5 (by omega), fun s0 hs0 => ?_⟩
  have f0 : (upd H1 s0 (.lst v0)) s0 = some (.lst v0) := upd_same
  have g0 := e1.trans (Same.newA (o := .lst v0) hs0)
  have a0 := dfs_mono (Same.newA (o := .lst v0) hs0) (fun _ z => z) a0
  revert f0 g0 a0
  generalize upd H1 s0 (.lst v0) = G0
  intro f0 g0 a0
  refine h1 G0 g0 _ fun v1 H2 e2 a1 => ⟨by rw [dfs_len a1]; exact small5 (by omega), fun s1 hs1 => ?_⟩
  have f1 : (upd H2 s1 (.lst v1)) s1 = some (.lst v1) := upd_same
  have g1 := e2.trans (Same.newA (o := .lst v1) hs1)
  have a1 := dfs_mono (Same.newA (o := .lst v1) hs1) (Fr.to g0) a1
  revert f1 g1 a1
  generalize upd H2 s1 (.lst v1) = G1
  intro f1 g1 a1
  refine h2 G1 (g0.trans g1) _ fun v2 H3 e3 a2 lv => ⟨by rw [dfs_len a2]; exact small5 (by omega), fun s2 hs2 => ⟨(by show 3 ≤ sizeLine; decide), fun s hs => ?_⟩⟩
  have g2 := Same.newA (o := .lst v2) hs2
  have g3 := Same.newA (o := .lst [.ref s0, .ref s1, .ref s2]) hs
  have g23 := g2.trans g3
  have all := g1.trans (e3.trans g23)
  have a2 := dfs_mono g23 (Fr.to (g0.trans g1)) a2
  exact k s s0 s1 s2 v0 v1 v2 _ (g0.trans all) upd_same (all _ _ f0) ((e3.trans g23) _ _ f1) (g3 _ _ upd_same) (dfs_mono all (fun _ z => z) a0) (dfs_mono (e3.trans g23) (fun _ z => z) a1) a2 fun i u q h e => let ⟨a, ea, ha⟩ := lv i u q h e; ⟨a, ea, g23 _ _ ha⟩
end
theorem items_of {K : PySem.W.Frag} {F : Addr → Prop} {H : Hp} {m n : Nat} {b : Bool} : ∀ (ys : List V), (∀ u ∈ ys, ∃ d, Df K F H u d ∧ Nice m n d ∧ (b = true → ∀ q, d = pairD q → ∃ a, u = .ref a ∧ H a = some (.tup ((pairK q).map kV)))) →
    ∃ ds, DfAll K F H ys ds ∧ (∀ d ∈ ds, Nice m n d) ∧ (b = true → ∀ ps : List Pr, ds = ps.map pairD → ∃ ks : List (Addr × List Key), ys = ks.map (fun z => V.ref z.1) ∧ ks.map Prod.snd = ps.map pairK ∧ ∀ z ∈ ks, H z.1 = some (.tup (z.2.map kV)))
  | [], _ => ⟨[], .nil, fun d hd => (nomatch hd), fun _ ps e => by
    cases ps with
    | nil => exact ⟨[], rfl, rfl, fun z hz => nomatch hz⟩
    | cons p ps => cases e⟩
  | u :: ys, h => by
    obtain ⟨d, hd, nd, ld⟩ := h u List.mem_cons_self
    obtain ⟨ds, i1, i2, i3⟩ := items_of ys fun y hy => h y (List.mem_cons_of_mem _ hy)
    refine ⟨d :: ds, .cons hd i1, fun y hy => (List.mem_cons.mp hy).elim (fun e => e ▸ nd) (i2 y), fun hb ps e => ?_⟩
    cases ps with
    | nil => cases e
    | cons q ps =>
      rw [List.map_cons, List.cons.injEq] at e
      obtain ⟨a, ea, ha⟩ := ld hb q e.1
      obtain ⟨ks, e1, e2, e3⟩ := i3 hb ps e.2
      refine ⟨(a, pairK q) :: ks, by rw [List.map_cons, ← e1, ea], by rw [List.map_cons, List.map_cons, e2], fun z hz => ?_⟩
      rcases List.mem_cons.mp hz with rfl | hz
      · exact ha
      · exact e3 z hz
theorem bent_of {K : PySem.W.Frag} {l : Addr} {N : Addr → Prop} {vs xs : List V} {y : V} {H : Hp} {m n : Nat} (b : Bool) (nl : ¬ N l) (hB : BentV K N H vs xs y)
    (hv : ∀ u, u ∈ vs ∨ u ∈ xs → ∃ d, Df K (fun a => a ≠ l) H u d ∧ Nice m n d ∧ (b = true → ∀ q, d = pairD q → ∃ a, u = .ref a ∧ H a = some (.tup ((pairK q).map kV)))) (hm : m ≤ 40) (hn : n ≤ 1000) (ln : vs.length + 1 ≤ 63) :
    ∃ d, BX K l H y d ∧ OkD d ∧ (b = true → LvB K l H y d) := by
  rcases hB with ⟨a, ys, rfl, hy, hin, hl⟩ | rfl | rfl | rfl | ⟨a, rfl, ha⟩
  · obtain ⟨ds, h1, h2, h3⟩ := items_of (b := b) ys fun u hu => hv u (hin u hu)
    have le : ds.length = ys.length := (dfs_len h1).symm
    have big : ds.length * (n + 2) ≤ 63 * 1002 := Nat.mul_le_mul (by omega) (by omega)
    rcases hy with ⟨hy, ny⟩ | hy
    · have ne : a ≠ l := fun z => nl (z ▸ ny)
      refine ⟨.list ds, .inl (.lst (.inl ⟨.inl hy, ne⟩) h1), okD_of (nice_lst h2 (by omega)) (by omega) (by omega) (by show ds.length < 64; omega), fun hb ps _ e => ?_⟩
      obtain ⟨ks, e1, e2, e3⟩ := h3 hb ps e
      subst e1
      exact ⟨a, ks, rfl, .inl ⟨hy, ne⟩, e2, e3⟩
    · refine ⟨.tuple ds, .inl (.tup hy h1), okD_of (nice_tup h2 (by omega)) (by omega) (by omega) (by show ds.length < 64; omega), fun hb ps _ e => ?_⟩
      obtain ⟨ks, e1, e2, e3⟩ := h3 hb ps e
      subst e1
      exact ⟨a, ks, rfl, .inr hy, e2, e3⟩
  · exact ⟨.none, .inl .non, okD_of nice_none (by decide) (by decide) (by decide), fun _ ps h => nomatch h⟩
  · exact ⟨.int 5, .inl (.int _), okD_of (nice_nat (by decide)) (by decide) (by decide) (by decide), fun _ ps h => nomatch h⟩
  · exact ⟨.str "ab", .inl (.str _), okD_of (nice_str (k := 2) (as_of (by decide +kernel)) (by decide)) (by decide) (by decide) (by decide), fun _ ps h => nomatch h⟩
  · exact ⟨.dict [], .inr ⟨rfl, a, rfl, ha⟩, okD_dict, fun _ ps h => nomatch h⟩
end Ag

set_option Elab.async false
set_option linter.all false
set_option maxRecDepth 100000
set_option maxHeartbeats 4000000
set_option pp.maxSteps 300
namespace Ag
open PySem PySem.Spec PyProof.Rows L2 LamX
theorem atI_last {α : Type} {xs : List α} {v : α} (h1 : 1 ≤ xs.length) (h : xs[xs.length - 1]? = some v) : atI xs (-1) = some v := by
  have e : ixN xs.length (-1) = some (xs.length - 1) := by
    unfold ixN
    rw [if_neg (by decide), if_pos (by omega)]
    congr 1; omega
  unfold atI; rw [e]; exact h
theorem ed_ixTm {K : PySem.W.Frag} {σ : L2.St} {F : Addr → Prop} {H : Hp} {ta tb : TE} {ds : List PyData} {d : PyData} (ha : ED K ta σ F H (.tuple ds)) (hb : ED K tb σ F H (.int (-1))) (h1 : 1 ≤ ds.length) (h : ds[ds.length - 1]? = some d) : ED K (tOp (rIx K) ta tb) σ F H d :=
  ed_op ha hb fun F a b H1 hx hy Q q => by
    cases hy
    cases hx with
    | tup hs r =>
      have le := dfs_len r
      obtain ⟨v, e, hv⟩ := dfs_get r h
      exact .inr (.inl ⟨_, _, _, v, rfl, rfl, hs, atI_last (by omega) (by rw [le]; exact e), q _ _ (Same.refl _) (df_mono (Same.refl _) (fun _ z => .inl z) hv)⟩)
theorem shaped_int (i : Int) : SeqAt.shaped (.int i) = true := by
  unfold SeqAt.shaped; simp [PyData.canLay0, PyData.depth]
theorem pair_eq (q : Pr) : pairD q = .tuple [.int q.1, .str q.2] := rfl
theorem nice_t7 {ds : List PyData} (h : ∀ x ∈ ds, Nice 0 5 x) (hl : ds.length ≤ 7) : Nice 1 60 (.tuple ds) := (nice_tup (m := 0) (n := 5) h (by omega)).more (Nat.le_refl _) (by omega)
theorem nice_l7 {ds : List PyData} (h : ∀ x ∈ ds, Nice 0 5 x) (hl : ds.length ≤ 7) : Nice 1 60 (.list ds) := (nice_lst (m := 0) (n := 5) h (by omega)).more (Nat.le_refl _) (by omega)
theorem nice_rep {x : PyData} {k : Nat} (h : Nice 0 5 x) (hk : k ≤ 7) : Nice 1 60 (.tuple (List.replicate k [x]).flatten) := by
  rw [flat_one]
  exact nice_t7 (fun y hy => by rw [(List.mem_replicate.mp hy).2]; exact h) (by rw [List.length_replicate]; exact hk)
theorem nice_2 {a b : PyData} (ha : Nice 0 122 a) (hb : Nice 0 122 b) : Nice 1 260 (.tuple [a, b]) := (nice_tup (m := 0) (n := 122) (ds := [a, b]) (fun y hy => by
  rcases List.mem_cons.mp hy with rfl | hy
  · exact ha
  · rw [List.mem_singleton.mp hy]; exact hb) (by show 2 ≤ 1000; decide)).more (Nat.le_refl _) (by show 2 * 124 + 3 ≤ 260; decide)
theorem nice_2l {a b : PyData} (ha : Nice 0 122 a) (hb : Nice 0 122 b) : Nice 1 260 (.list [a, b]) := (nice_lst (m := 0) (n := 122) (ds := [a, b]) (fun y hy => by
  rcases List.mem_cons.mp hy with rfl | hy
  · exact ha
  · rw [List.mem_singleton.mp hy]; exact hb) (by show 2 ≤ 1000; decide)).more (Nat.le_refl _) (by show 2 * 124 + 3 ≤ 260; decide)
theorem nice_1 {a : PyData} (ha : Nice 0 5 a) : Nice 1 60 (.tuple [a]) := nice_t7 (fun x hx => by rw [List.mem_singleton.mp hx]; exact ha) (by show 1 ≤ 7; decide)
theorem nice_marks49 {ps : List Pr} (h : ∀ p ∈ ps, 0 ≤ p.1 ∧ p.1 < 64 ∧ As 12 p.2) (hl : ps.length ≤ 49) : Nice 2 12400 (.tuple (ps.map pairD)) := by
  have := nice_tup (m := 1) (n := 251) (ds := ps.map pairD) (fun y hy => by
    obtain ⟨p, hp, rfl⟩ := List.mem_map.mp hy
    obtain ⟨a, b, c⟩ := h p hp
    exact nice_pair a b c) (by rw [List.length_map]; omega)
  refine this.more (Nat.le_refl _) ?_
  rw [List.length_map]; omega
theorem nice_three {a b c : PyData} (ha : Nice 1 1000 a) (hb : Nice 2 1000 b) (hc : Nice 2 12400 c) : Nice 4 60000 (.tuple [a, b, c]) := (nice_tup (m := 2) (n := 12400) (ds := [a, b, c]) (fun y hy => by
  rcases List.mem_cons.mp hy with rfl | hy
  · exact ha.more (by decide) (by decide)
  · rcases List.mem_cons.mp hy with rfl | hy
    · exact hb.more (by decide) (by decide)
    · rw [List.mem_singleton.mp hy]; exact hc) (by show 3 ≤ 1000; decide)).more (by decide) (by show 3 * 12402 + 3 ≤ 60000; decide)
/-- the three values in bent, beside what is due -/
def BS (K : PySem.W.Frag) (bl dl cs : Addr) (rv mv : V) (H : Hp) : Prop := ∃ x0 x1 x2 d0 d1 d2, H bl = some (.lst [x0, x1, x2]) ∧ H dl = some (.lst [.ref cs, rv, mv]) ∧ bl ≠ dl ∧ (BX K bl H x0 d0 ∧ OkD d0) ∧ (BX K bl H x1 d1 ∧ OkD d1) ∧ (BX K bl H x2 d2 ∧ OkD d2 ∧ LvB K bl H x2 d2)
theorem lvb_of {K : PySem.W.Frag} {H : Hp} {l : Addr} {mv : V} {ps : List Pr} (h : MkV K ps mv H) : LvB K l H mv (.tuple (ps.map pairD)) := fun qs _ e => by
  have := pairs_inj e
  subst this
  obtain ⟨ma, ks, rfl, h1, h2, h3⟩ := h
  exact ⟨ma, ks, rfl, .inr h1, h2, h3⟩
section
variable {K : PySem.W.Frag} {F : Addr → Prop} {C p c b m cs tb bl dl : Addr} {rv mv : V} {ns : List Str} {rs : List (List Int)} {ps qs : List Pr} {n k : Nat} {H H' : Hp}
theorem Lap.base (h : Lap K F C p c b m cs tb rv mv ns rs ps qs n H) : Lap K (nn H) C p c b m cs tb rv mv ns rs ps qs n H := { h with rv := dp_df (df_dp h.rv), mc := h.mc.at_.f }
theorem BS.kl (P : Pen p c n H) (k : KlF (fun a => a ≠ bl) p H H') (hb : ∀ xs, H bl = some (.lst xs) → H' bl = some (.lst xs)) (h : BS K bl dl cs rv mv H) : BS K bl dl cs rv mv H' := by
  obtain ⟨x0, x1, x2, d0, d1, d2, h1, h2, nd, ⟨a0, b0⟩, ⟨a1, b1⟩, a2, b2, l2⟩ := h
  exact ⟨x0, x1, x2, d0, d1, d2, hb _ h1, k _ _ (P.ne h2 (fun _ e => nomatch e)) (fun _ e => nomatch e) (.inr (Ne.symm nd)) h2, nd, ⟨a0.kl P k, b0⟩, ⟨a1.kl P k, b1⟩, a2.kl P k, b2, l2.kl P k⟩
theorem BS.but (P : Pen p c n H) (q : But p H H') (h : BS K bl dl cs rv mv H) : BS K bl dl cs rv mv H' := h.kl P (.but q) fun xs e => q _ _ (P.ne e (fun _ z => nomatch z)) e
theorem BS.same (P : Pen p c n H) (s : Same H H') (h : BS K bl dl cs rv mv H) : BS K bl dl cs rv mv H' := h.kl P (.of s) fun xs e => s _ _ e
theorem BS.ext (P : Pen p c n H) (s : ExtN H H') (h : BS K bl dl cs rv mv H) : BS K bl dl cs rv mv H' := h.kl P (.ext s) fun xs e => s _ _ e (fun _ z => nomatch z)
theorem BS.init (L : Lap K F C p c b m cs tb rv mv ns rs ps qs n H) (h1 : H bl = some (.lst [.ref cs, rv, mv])) (h2 : H dl = some (.lst [.ref cs, rv, mv])) (nd : bl ≠ dl) (okc : OkD (.tuple (ns.map .str))) (okr : OkD (rowsD rs)) (okm : OkD (.tuple (ps.map pairD))) : BS K bl dl cs rv mv H :=
  ⟨.ref cs, rv, mv, _, _, _, h1, h2, nd, ⟨.inl (.tup L.cs (dfs_strs ns)), okc⟩, ⟨.inl (df_rowsF (df_dp L.rv)), okr⟩, .inl (mkv_df L.mv), okm, lvb_of L.mv⟩
/-- one of the three is set -/
theorem BS.set {x0 x1 x2 y0 y1 y2 : V} {e0 e1 e2 : PyData} (P : Pen p c n H) (h1 : H bl = some (.lst [x0, x1, x2])) (h2 : H dl = some (.lst [.ref cs, rv, mv])) (nd : bl ≠ dl) (a0 : BX K bl H y0 e0) (b0 : OkD e0) (a1 : BX K bl H y1 e1) (b1 : OkD e1) (a2 : BX K bl H y2 e2) (b2 : OkD e2) (l2 : LvB K bl H y2 e2) : BS K bl dl cs rv mv (upd H bl (.lst [y0, y1, y2])) := by
  have k : KlF (fun a => a ≠ bl) p H (upd H bl (.lst [y0, y1, y2])) := .lst h1 (fun z => z rfl)
  exact ⟨y0, y1, y2, e0, e1, e2, upd_same, by rw [upd_ne (Ne.symm nd)]; exact h2, nd, ⟨a0.kl P k, b0⟩, ⟨a1.kl P k, b1⟩, a2.kl P k, b2, l2.kl P k⟩
end
end Ag

set_option Elab.async false
set_option linter.all false
set_option maxRecDepth 100000
set_option maxHeartbeats 4000000
set_option pp.maxSteps 300
namespace Ag
open PySem PySem.Spec PyProof.Rows L2 LamX
section
variable {K : PySem.W.Frag} {F : Addr → Prop} {H H' : Hp} {m n : Nat} {vs xs : List V} {es ds : List PyData}
theorem dfs_of_mem (h : DfAll K F H vs ds) {u : V} (hu : u ∈ vs) : ∃ (i : Nat) (d : PyData), vs[i]? = some u ∧ ds[i]? = some d ∧ Df K F H u d := by
  obtain ⟨i, hi⟩ := List.getElem?_of_mem hu
  obtain ⟨d, hd, hv⟩ := dfs_get' h hi
  exact ⟨i, d, hi, hd, hv⟩
theorem its_plain (h1 : DfAll K F H vs es) (h2 : DfAll K F H xs ds) (n1 : ∀ d ∈ es, Nice m n d) (n2 : ∀ d ∈ ds, Nice m n d) : ∀ u, u ∈ vs ∨ u ∈ xs → ∃ d, Df K F H u d ∧ Nice m n d ∧ (false = true → ∀ q : Pr, d = pairD q → ∃ a, u = .ref a ∧ H a = some (.tup ((pairK q).map kV))) := fun u hu => by
  rcases hu with hu | hu
  · obtain ⟨i, d, _, hd, hv⟩ := dfs_of_mem h1 hu
    exact ⟨d, hv, n1 d (List.mem_of_getElem? hd), fun h => nomatch h⟩
  · obtain ⟨i, d, _, hd, hv⟩ := dfs_of_mem h2 hu
    exact ⟨d, hv, n2 d (List.mem_of_getElem? hd), fun h => nomatch h⟩
theorem its_live {ks : List (Addr × List Key)} {ps : List Pr} (hks : ks.map Prod.snd = ps.map pairK) (hka : ∀ z ∈ ks, H z.1 = some (.tup (z.2.map kV))) (h2 : DfAll K F H xs ds) (lv : LvJ H xs ds) (n1 : ∀ p ∈ ps, Nice m n (pairD p)) (n2 : ∀ d ∈ ds, Nice m n d) :
    ∀ u, u ∈ (ks.map fun z => V.ref z.1) ∨ u ∈ xs → ∃ d, Df K F H u d ∧ Nice m n d ∧ (true = true → ∀ q : Pr, d = pairD q → ∃ a, u = .ref a ∧ H a = some (.tup ((pairK q).map kV))) := fun u hu => by
  rcases hu with hu | hu
  · obtain ⟨z, hz, rfl⟩ := List.mem_map.mp hu
    have hm : z.2 ∈ ps.map pairK := by rw [← hks]; exact List.mem_map_of_mem hz
    obtain ⟨p, hp, e⟩ := List.mem_map.mp hm
    have ha := hka z hz
    rw [← e] at ha
    refine ⟨pairD p, .tup (SqT.of ha) (.cons (.int _) (.cons (.str _) .nil)), n1 p hp, fun _ q eq => ?_⟩
    have := pairD_inj eq
    subst this
    exact ⟨z.1, rfl, ha⟩
  · obtain ⟨i, d, hi, hd, hv⟩ := dfs_of_mem h2 hu
    exact ⟨d, hv, n2 d (List.mem_of_getElem? hd), fun _ q e => lv i u q hi (by rw [hd, e])⟩
theorem LvJ.but {p c : Addr} {k : Nat} (P : Pen p c k H) (b : But p H H') (lv : LvJ H vs ds) : LvJ H' vs ds := fun i u q h e => let ⟨a, ea, ha⟩ := lv i u q h e; ⟨a, ea, b _ _ (P.ne ha (fun _ z => nomatch z)) ha⟩
end
end Ag

set_option Elab.async false
set_option linter.all false
set_option maxRecDepth 100000
set_option maxHeartbeats 4000000
set_option pp.maxSteps 400
namespace Ag
open PySem PySem.Spec PyProof.Rows L2 LamX
theorem calls_good {m : Nat} {ns : List Str} (h : Nms m ns) (s : sortedS ns = true) (h1 : 1 ≤ m) (h6 : m ≤ 6) : ns.Nodup ∧ 1 ≤ ns.length ∧ ns.length ≤ 6 ∧ (∀ x ∈ ns, nameB x = true) ∧ isCalls (.tuple (ns.map .str)) = true := by
  have nd := nms_nodup (by omega) h
  have ln := nms_len h
  have nb : ∀ x ∈ ns, nameB x = true := fun x hx => by
    obtain ⟨j, hj, hn⟩ := nms_mem h hx
    exact nm_name (by omega) hn
  refine ⟨nd, by omega, by omega, nb, ?_⟩
  have e : (ns.map PyData.str).all isName = true := List.all_eq_true.mpr fun y hy => by
    obtain ⟨x, hx, rfl⟩ := List.mem_map.mp hy
    exact nb x hx
  show (true && callsB (ns.map .str)) = true
  unfold callsB
  rw [e, up_of s nd, List.length_map, decide_eq_true (show (1 : Int) ≤ (ns.length : Int) by omega), decide_eq_true (show (ns.length : Int) ≤ 6 by omega)]; rfl

theorem par3_of {i j k : Nat} {t : TA} {D : Ends} {σ : L2.St} {H : Hp} (h : t σ H fun vs H1 => ∃ x y z, vs = [x, y, z] ∧ D.nx (((σ.set i (some x)).set j (some y)).set k (some z)) H1) : tPar3 i j k t D σ H := h
theorem rows_map (rs : List (List Int)) : (((rs.map fun r => PyData.list (r.map .int)).filter fun _ => true).map fun d => PyData.tuple (seqOf d)) = rs.map fun r => .tuple (r.map .int) := by
  rw [List.filter_eq_self.mpr (fun _ _ => rfl), List.map_map]; rfl
section
variable {P : Program} {w : World} {K : PySem.W.Frag} {mg : Str → Option Value} {base : Heap} (T : Txt w K mg)
theorem law_runs {cc tb a : Addr} {zs : List Int} {s : Shared} {H : Hp} (hcode : T.d_law.code = .ref cc) (hTB : TabB base mg cc tb) (hT : H tb = some (.tbl #[])) (hs : SqL K H a (zs.map V.int)) (hl : zs.length ≤ 63) (e0 : Env0 P w K mg base callerA [] s H) :
    codeAny (model P w) callerA (.call (.ref T.a_law) ⟨[.ref a], []⟩) (CR CX0 [] P w H s (fun v _ => v = .bl true) fun _ _ _ => False) s := by
  have G_law_pen := ok_law_pen (P := P) (base := base) T
  have G_law_calls := ok_calls (P := P) (base := base) T
  have G_law_draw := ok_draw (P := P) (base := base) T
  have G_law_pick := ok_pick (P := P) (base := base) T
  have G_law_some_word := ok_some_word (P := P) (base := base) T
  have G_law_wide_machine := ok_wide (P := P) (base := base) T
  have G_law_go := ok_law_go (P := P) (base := base) T
  have G_law_is_marked := ok_law_is_marked (P := P) (base := base) T
  have G_law_marks_made := ok_law_marks_made (P := P) (base := base) T
  have G_law_same := ok_law_same (P := P) (base := base) T
  have G_law_bent := ok_bent (P := P) (base := base) T
  have G_law_due := ok_law_due (P := P) (base := base) T
  have G_Machine___init__ := ok_Machine_init (P := P) (base := base) T
  have G_Machine___eq__ := ok_eq (P := P) (base := base) T
  have G_Machine_go := ok_go (P := P) (base := base) T
  have G_Machine_is_marked := ok_is_marked (P := P) (base := base) T
  have G_Machine_behind := ok_behind (P := P) (base := base) T
  have G_Machine_marks_along := ok_marks_along (P := P) (base := base) T
  obtain ⟨oc, od, kV, doc, pm, an, cdv, ct, osl, efd, lk, hcd⟩ := T.D_law.fn.ex
  obtain ⟨oc', od', kV', doc', pm', an', cdv', ct', osl', efw, lkw, hcw⟩ := T.D_law_why.fn.ex
  have LK := lkw
  rw [efw] at LK
  have BW := T.D_law_why.bd
  rw [efw] at BW
  have BL := T.D_law.bd
  rw [efd] at BL lk hcode
  have hcode : cdv = .ref cc := hcode
  subst hcode
  have kIn : K.In s.heap := e0.mod.kin.keeps fun b o e => (e0.bs b o e).1
  have rm : Room 12 callerA := ⟨rfl, by decide +kernel, by decide +kernel⟩
  refine run_ofS (N := ["script", "pen", "lap", "calls", "machine", "rows", "marks", "many", "row", "handed", "made", "other", "turn", "word", "state", "at", "call", "odd", "bent", "due", "way", "some"]) (vs := [.ref a]) (us := [.ref a]) lk hcd sc_law rm e0 (BL s [.ref a] kIn rfl) (.cons rfl .nil) rfl fun hr => ?_
  refine ⟨_, (pss_cons (ps_set (i := 1) sc_law.nd rfl (by first | exact Or.inl rfl | exact Or.inr rfl) (pe_call (G_law_pen) (hr.mono (by omega)) (by rfl) T.D_law_pen.mg T.D_law_pen.fn.kp T.D_law_pen.bd .nil pass0 (pa_cons (pv 0) pa_nil)))
      (pss_cons (ps_for (passes_of rfl) rfl (pi_range1 (by rfl) T.b_range (pa_cons pe_int pa_nil)) (pg_name (i := 2) sc_law.nd rfl (by first | exact Or.inl rfl | exact Or.inr rfl)) (pss_cons (ps_set (i := 3) sc_law.nd rfl (by first | exact Or.inl rfl | exact Or.inr rfl) (pe_call (G_law_calls) (hr.mono (by omega)) (by rfl) T.D_law_calls.mg T.D_law_calls.fn.kp T.D_law_calls.bd .nil pass0 (pa_cons (pv 1) (pa_cons (pe_call (G_law_pick) (hr.mono (by omega)) (by rfl) T.D_law_pick.mg T.D_law_pick.fn.kp T.D_law_pick.bd .nil pass0 (pa_cons (pv 1) (pa_cons (pe_lst (pa_cons pe_int (pa_cons pe_int (pa_cons pe_int (pa_cons pe_int pa_nil))))) pa_nil))) pa_nil))))
      (pss_cons (ps_set (i := 4) sc_law.nd rfl (by first | exact Or.inl rfl | exact Or.inr rfl) (pe_call (G_law_wide_machine) (hr.mono (by omega)) (by rfl) T.D_law_wide_machine.mg T.D_law_wide_machine.fn.kp T.D_law_wide_machine.bd .nil pass0 (pa_cons (pv 1) (pa_cons (pv 3) (pa_cons (pe_op op_add pe_int (pe_call (G_law_draw) (hr.mono (by omega)) (by rfl) T.D_law_draw.mg T.D_law_draw.fn.kp T.D_law_draw.bd .nil pass0 (pa_cons (pv 1) (pa_cons pe_int pa_nil)))) pa_nil)))))
      (pss_cons (ps_par3 (i := 5) (j := 6) (l := 7) (by rfl) sc_law.nd rfl rfl rfl (by decide) (by decide) (by decide) rfl rfl rfl (pa_cons (pe_callTy call_tuple_of (by rfl) T.b_tuple bt_tuple (pa_cons (pe_lc (own := [("row", 8)]) rfl sc_law.nd (pi_list (pe_dget (hu_of hr) (pv 4) pe_str (fun _ _ => rfl))) (blkOk_by (own := [("row", 8)]) (N := ["script", "pen", "lap", "calls", "machine", "rows", "marks", "many", "row", "handed", "made", "other", "turn", "word", "state", "at", "call", "odd", "bent", "due", "way", "some"]) (sc := defScope s_law) (by decide +kernel)) (fun _ _ _ _ _ => (pg_name (i := 8) sc_law.nd rfl (by first | exact Or.inl rfl | exact Or.inr rfl))) (fun _ _ _ _ _ => pts_nil) (fun _ _ _ _ _ => (pe_callTy (r := tupR K) call_tuple_of (by rfl) T.b_tuple bt_tuple (pa_cons (pv 8) pa_nil)))) pa_nil)) (pa_cons (pe_callTy call_tuple_of (by rfl) T.b_tuple bt_tuple (pa_cons (pe_callB (cr_sortD hr.units) (by rfl) T.b_sorted bt_sorted (pa_cons (pe_callTy (call_list_dT rfl) (by rfl) T.b_list bt_list (pa_cons (pe_dget (hu_of hr) (pv 4) pe_str (fun _ _ => rfl)) pa_nil)) pa_nil)) pa_nil)) (pa_cons (pe_callB call_len (by rfl) T.b_len bt_len (pa_cons (pe_dget (hu_of hr) (pv 4) pe_str (fun _ _ => rfl)) pa_nil)) pa_nil))) (by rfl))
      (pss_cons (ps_set (i := 9) sc_law.nd rfl (by first | exact Or.inl rfl | exact Or.inr rfl) (pe_lst (pa_cons (pe_callTy call_list_of (by rfl) T.b_list bt_list (pa_cons (pv 3) pa_nil)) (pa_cons (pe_callTy call_list_of (by rfl) T.b_list bt_list (pa_cons (pv 5) pa_nil)) (pa_cons (pe_callTy call_list_of (by rfl) T.b_list bt_list (pa_cons (pv 6) pa_nil)) pa_nil)))))
      (pss_cons (ps_set (i := 10) sc_law.nd rfl (by first | exact Or.inl rfl | exact Or.inr rfl) (pe_make T.mk_Machine (G_Machine___init__) (hr.mono (by omega)) (by rfl) T.g_Machine T.D_Machine___init__.bd .nil (passes_call LamX.takes0 fun _ _ _ _ z => z) (pa_cons (pe_ix ix_seq (pv 9) pe_int (fun _ _ => rfl)) (pa_cons (pe_ix ix_seq (pv 9) pe_int (fun _ _ => rfl)) (pa_cons (pe_ix ix_seq (pv 9) pe_int (fun _ _ => rfl)) pa_nil)))))
      (pss_cons (ps_for (passes_of rfl) rfl (pi_list (pv 9)) (pg_name (i := 8) sc_law.nd rfl (by first | exact Or.inl rfl | exact Or.inr rfl)) (pss_one (ps_expr (pe_bm PySem.F.plainAttrs_list PySem.F.slot_list_append PySem.F.type_list_append mt_append (pv 8) (pa_cons (pe_ifExp (pt_cmpR (op_neE hr.units) (pv 8) (pe_lst pa_nil) (nomark _)) (pe_ix ix_seq (pv 8) pe_int (fun _ _ => rfl)) (pe_tup (pa_cons pe_int (pa_cons (pe_ix ix_seq (pv 3) pe_int (fun _ _ => rfl)) pa_nil)))) pa_nil)))))
      (pss_cons (ps_if (PW.pt (pw_or (pt_cmpR op_ne (pe_callB (cr_repr rfl hr.units) (by rfl) T.b_repr bt_repr (pa_cons (pe_tup (pa_cons (pe_fld (pv 10) rfl) (pa_cons (pe_fld (pv 10) rfl) (pa_cons (pe_fld (pv 10) rfl) pa_nil)))) pa_nil)) (pe_callB (cr_repr rfl hr.units) (by rfl) T.b_repr bt_repr (pa_cons (pe_tup (pa_cons (pv 3) (pa_cons (pv 5) (pa_cons (pv 6) pa_nil)))) pa_nil)) (nomark _)) (pw_or (pt_not (pt_cmpR (op_eqO (G_Machine___eq__) T.mt_Machine___eq__ (hr.mono (by omega)) T.D_Machine___eq__.bd pass0) (pv 10) (pe_make T.mk_Machine (G_Machine___init__) (hr.mono (by omega)) (by rfl) T.g_Machine T.D_Machine___init__.bd .nil (passes_call LamX.takes0 fun _ _ _ _ z => z) (pa_cons (pv 3) (pa_cons (pv 5) (pa_cons (pv 6) pa_nil)))) (nomark _))) (pw_or1 (pt_cmpR (op_eqO (G_Machine___eq__) T.mt_Machine___eq__ (hr.mono (by omega)) T.D_Machine___eq__.bd pass0) (pv 10) (pe_tup (pa_cons (pv 3) (pa_cons (pv 5) (pa_cons (pv 6) pa_nil)))) (nomark _)))))) (pss_one (ps_ret pe_bl)) pss_nil)
      (pss_cons (ps_set (i := 11) sc_law.nd rfl (by first | exact Or.inl rfl | exact Or.inr rfl) (pe_ifExp (pt_cmpR (op_neD hr.units) (pv 6) (pe_tup pa_nil) (nomark _)) (pe_slice sl_tupA (pv 6) (po_some pe_int) po_none) (pe_tup (pa_cons (pe_tup (pa_cons pe_int (pa_cons (pe_ix ix_seq (pv 3) pe_int (fun _ _ => rfl)) pa_nil))) pa_nil))))
      (pss_cons (ps_if (pt_cmpR (op_eqO (G_Machine___eq__) T.mt_Machine___eq__ (hr.mono (by omega)) T.D_Machine___eq__.bd pass0) (pv 10) (pe_make T.mk_Machine (G_Machine___init__) (hr.mono (by omega)) (by rfl) T.g_Machine T.D_Machine___init__.bd .nil (passes_call LamX.takes0 fun _ _ _ _ z => z) (pa_cons (pv 3) (pa_cons (pv 5) (pa_cons (pv 11) pa_nil)))) (nomark _)) (pss_one (ps_ret pe_bl)) pss_nil)
      (pss_cons (ps_for (passes_of rfl) rfl (pi_range1 (by rfl) T.b_range (pa_cons pe_int pa_nil)) (pg_name (i := 12) sc_law.nd rfl (by first | exact Or.inl rfl | exact Or.inr rfl)) (pss_cons (ps_par3 (i := 13) (j := 14) (l := 15) (by rfl) sc_law.nd rfl rfl rfl (by decide) (by decide) (by decide) rfl rfl rfl (pa_cons (pe_call (G_law_some_word) (hr.mono (by omega)) (by rfl) T.D_law_some_word.mg T.D_law_some_word.fn.kp T.D_law_some_word.bd .nil pass0 (pa_cons (pv 1) (pa_cons (pe_op op_catA (pv 3) (pe_tup (pa_cons pe_str pa_nil))) (pa_cons pe_int pa_nil)))) (pa_cons pe_int (pa_cons (pe_call (G_law_draw) (hr.mono (by omega)) (by rfl) T.D_law_draw.mg T.D_law_draw.fn.kp T.D_law_draw.bd .nil pass0 (pa_cons (pv 1) (pa_cons (pv 7) pa_nil))) pa_nil))) (by rfl))
      (pss_cons (ps_for (passes_of rfl) rfl (pi_tup (pv 13)) (pg_name (i := 16) sc_law.nd rfl (by first | exact Or.inl rfl | exact Or.inr rfl)) (pss_cons (ps_if (PW.pt (pw_or (pt_cmpR op_ne (pe_callB (cr_repr rfl hr.units) (by rfl) T.b_repr bt_repr (pa_cons (pe_meth (pv 10) T.cl_Machine T.mt_Machine_go (G_Machine_go) (hr.mono (by omega)) T.D_Machine_go.bd .nil (passes_call LamX.takes0 fun _ _ _ _ z => z) (pa_cons (pv 14) (pa_cons (pv 16) pa_nil))) pa_nil)) (pe_callB (cr_repr rfl hr.units) (by rfl) T.b_repr bt_repr (pa_cons (pe_call (G_law_go) (hr.mono (by omega)) (by rfl) T.D_law_go.mg T.D_law_go.fn.kp T.D_law_go.bd .nil pass0 (pa_cons (pv 4) (pa_cons (pv 14) (pa_cons (pv 16) pa_nil)))) pa_nil)) (nomark _)) (pw_or1 (pt_not (pt_val (pe_call (G_law_same) (hr.mono (by omega)) (by rfl) T.D_law_same.mg T.D_law_same.fn.kp T.D_law_same.bd .nil pass0 (pa_cons (pe_meth (pv 10) T.cl_Machine T.mt_Machine_is_marked (G_Machine_is_marked) (hr.mono (by omega)) T.D_Machine_is_marked.bd .nil (passes_call LamX.takes0 fun _ _ _ _ z => z) (pa_cons (pv 14) (pa_cons (pv 16) pa_nil))) (pa_cons (pe_call (G_law_is_marked) (hr.mono (by omega)) (by rfl) T.D_law_is_marked.mg T.D_law_is_marked.fn.kp T.D_law_is_marked.bd .nil pass0 (pa_cons (pv 4) (pa_cons (pv 14) (pa_cons (pv 16) pa_nil)))) pa_nil)))))))) (pss_one (ps_ret pe_bl)) pss_nil)
      (pss_one (ps_set (i := 14) sc_law.nd rfl (by first | exact Or.inl rfl | exact Or.inr rfl) (pe_call (G_law_go) (hr.mono (by omega)) (by rfl) T.D_law_go.mg T.D_law_go.fn.kp T.D_law_go.bd .nil pass0 (pa_cons (pv 4) (pa_cons (pv 14) (pa_cons (pv 16) pa_nil))))))))
      (pss_one (ps_if (PW.pt (pw_or (pt_cmpR op_ne (pe_callB (cr_repr rfl hr.units) (by rfl) T.b_repr bt_repr (pa_cons (pe_meth (pv 10) T.cl_Machine T.mt_Machine_behind (G_Machine_behind) (hr.mono (by omega)) T.D_Machine_behind.bd .nil (passes_call LamX.takes0 fun _ _ _ _ z => z) (pa_cons (pe_call (G_law_pick) (hr.mono (by omega)) (by rfl) T.D_law_pick.mg T.D_law_pick.fn.kp T.D_law_pick.bd .nil pass0 (pa_cons (pv 1) (pa_cons (pe_lst (pa_cons (pv 13) (pa_cons (pe_callTy call_list_of (by rfl) T.b_list bt_list (pa_cons (pv 13) pa_nil)) pa_nil))) pa_nil))) pa_nil)) pa_nil)) (pe_callB (cr_repr rfl hr.units) (by rfl) T.b_repr bt_repr (pa_cons (pv 14) pa_nil)) (nomark _)) (pw_or1 (pt_not (pt_val (pe_call (G_law_same) (hr.mono (by omega)) (by rfl) T.D_law_same.mg T.D_law_same.fn.kp T.D_law_same.bd .nil pass0 (pa_cons (pe_meth (pv 10) T.cl_Machine T.mt_Machine_marks_along (G_Machine_marks_along) (hr.mono (by omega)) T.D_Machine_marks_along.bd .nil (passes_call LamX.takes0 fun _ _ _ _ z => z) (pa_cons (pv 15) (pa_cons (pv 13) pa_nil))) (pa_cons (pe_call (G_law_marks_made) (hr.mono (by omega)) (by rfl) T.D_law_marks_made.mg T.D_law_marks_made.fn.kp T.D_law_marks_made.bd .nil pass0 (pa_cons (pv 4) (pa_cons (pv 15) (pa_cons (pv 13) pa_nil)))) pa_nil)))))))) (pss_one (ps_ret pe_bl)) pss_nil)))))
      (pss_cons (ps_set (i := 17) sc_law.nd rfl (by first | exact Or.inl rfl | exact Or.inr rfl) (pe_call (G_law_pick) (hr.mono (by omega)) (by rfl) T.D_law_pick.mg T.D_law_pick.fn.kp T.D_law_pick.bd .nil pass0 (pa_cons (pv 1) (pa_cons (pe_lst (pa_cons (pe_un un_neg pe_int) (pa_cons (pv 7) (pa_cons pe_non (pa_cons pe_bl (pa_cons pe_str (pa_cons (pe_tup (pa_cons pe_int pa_nil)) (pa_cons (pe_op op_pow pe_int pe_int) pa_nil)))))))) pa_nil))))
      (pss_cons (ps_if (pt_cmpR (op_neD hr.units) (pe_lamcall (T := TB1 tb) (P := tb) (c := cc) (k := 6) (by rfl) T.D_law_why.mg T.D_law_why.fn.kp LK hcw BW sc_law_why rfl (.inl rfl) (why_gives T rfl (by show callerA.units + 3 + 400 < cLine; decide +kernel)) hTB rfl (List.mem_singleton.mpr rfl) (fun q hq _ => by rw [List.mem_singleton.mp hq]; rfl) (hr.mono (by omega)) (lamS_by (sc := defScope s_law) (by decide +kernel)) rfl (fun _ _ _ _ _ => rfl) (fun A outer s H E f c' hr => pe_meth (pv 10) T.cl_Machine T.mt_Machine_go (G_Machine_go) (hr.mono (by omega)) T.D_Machine_go.bd .nil (passes_call (takes_of rfl rfl rfl rfl) fun _ _ _ _ z => z) (pa_cons (pv 17) (pa_cons pe_str pa_nil)))) (pe_lst (pa_cons pe_str (pa_cons pe_str (pa_cons (pe_callB (cr_repr rfl hr.units) (by rfl) T.b_repr bt_repr (pa_cons (pv 17) pa_nil)) pa_nil)))) (nomark _)) (pss_one (ps_ret pe_bl)) pss_nil)
      (pss_cons (ps_if (pt_cmpR (op_neD hr.units) (pe_lamcall (T := TB1 tb) (P := tb) (c := cc) (k := 6) (by rfl) T.D_law_why.mg T.D_law_why.fn.kp LK hcw BW sc_law_why rfl (.inl rfl) (why_gives T rfl (by show callerA.units + 3 + 400 < cLine; decide +kernel)) hTB rfl (List.mem_singleton.mpr rfl) (fun q hq _ => by rw [List.mem_singleton.mp hq]; rfl) (hr.mono (by omega)) (lamS_by (sc := defScope s_law) (by decide +kernel)) rfl (fun _ _ _ _ _ => rfl) (fun A outer s H E f c' hr => pe_meth (pv 10) T.cl_Machine T.mt_Machine_is_marked (G_Machine_is_marked) (hr.mono (by omega)) T.D_Machine_is_marked.bd .nil (passes_call (takes_of rfl rfl rfl rfl) fun _ _ _ _ z => z) (pa_cons (pv 17) (pa_cons pe_str pa_nil)))) (pe_lst (pa_cons pe_str (pa_cons pe_str (pa_cons (pe_callB (cr_repr rfl hr.units) (by rfl) T.b_repr bt_repr (pa_cons (pv 17) pa_nil)) pa_nil)))) (nomark _)) (pss_one (ps_ret pe_bl)) pss_nil)
      (pss_cons (ps_if (pt_cmpR (op_neD hr.units) (pe_lamcall (T := TB1 tb) (P := tb) (c := cc) (k := 6) (by rfl) T.D_law_why.mg T.D_law_why.fn.kp LK hcw BW sc_law_why rfl (.inl rfl) (why_gives T rfl (by show callerA.units + 3 + 400 < cLine; decide +kernel)) hTB rfl (List.mem_singleton.mpr rfl) (fun q hq _ => by rw [List.mem_singleton.mp hq]; rfl) (hr.mono (by omega)) (lamS_by (sc := defScope s_law) (by decide +kernel)) rfl (fun _ _ _ _ _ => rfl) (fun A outer s H E f c' hr => pe_meth (pv 10) T.cl_Machine T.mt_Machine_marks_along (G_Machine_marks_along) (hr.mono (by omega)) T.D_Machine_marks_along.bd .nil (passes_call (takes_of rfl rfl rfl rfl) fun _ _ _ _ z => z) (pa_cons (pv 17) (pa_cons (pe_tup pa_nil) pa_nil)))) (pe_lst (pa_cons pe_str (pa_cons pe_str (pa_cons (pe_callB (cr_repr rfl hr.units) (by rfl) T.b_repr bt_repr (pa_cons (pv 17) pa_nil)) pa_nil)))) (nomark _)) (pss_one (ps_ret pe_bl)) pss_nil)
      (pss_cons (ps_asg (pe_tup (pa_cons (pe_lst (pa_cons (pv 3) (pa_cons (pv 5) (pa_cons (pv 6) pa_nil)))) (pa_cons (pe_lst (pa_cons (pv 3) (pa_cons (pv 5) (pa_cons (pv 6) pa_nil)))) pa_nil))) (pg_tup rfl (pgs_cons (pg_name (i := 18) sc_law.nd rfl (by first | exact Or.inl rfl | exact Or.inr rfl)) (pgs_cons (pg_name (i := 19) sc_law.nd rfl (by first | exact Or.inl rfl | exact Or.inr rfl)) pgs_nil))))
      (pss_one (ps_for (passes_of rfl) rfl (pi_range1 (by rfl) T.b_range (pa_cons pe_int pa_nil)) (pg_name (i := 12) sc_law.nd rfl (by first | exact Or.inl rfl | exact Or.inr rfl)) (pss_cons (ps_set (i := 20) sc_law.nd rfl (by first | exact Or.inl rfl | exact Or.inr rfl) (pe_call (G_law_draw) (hr.mono (by omega)) (by rfl) T.D_law_draw.mg T.D_law_draw.fn.kp T.D_law_draw.bd .nil pass0 (pa_cons (pv 1) (pa_cons pe_int pa_nil))))
      (pss_cons (ps_set (i := 21) sc_law.nd rfl (by first | exact Or.inl rfl | exact Or.inr rfl) (pe_lst (pa_cons (pe_lst (pa_cons pe_str (pa_cons pe_str (pa_cons pe_non (pa_cons (pe_ix ix_seq (pv 3) pe_int (fun _ _ => rfl)) (pa_cons pe_str (pa_cons pe_int pa_nil))))))) (pa_cons (pe_lst (pa_cons (pe_ix ix_seq (pv 5) pe_int (fun _ _ => rfl)) (pa_cons (pe_callTy call_list_of (by rfl) T.b_list bt_list (pa_cons (pe_ix ix_seq (pv 5) pe_int (fun _ _ => rfl)) pa_nil)) (pa_cons (pe_tup (pa_cons pe_int pa_nil)) (pa_cons (pe_op op_repN (pe_tup (pa_cons (pv 7) pa_nil)) (pe_callB call_len (by rfl) T.b_len bt_len (pa_cons (pv 3) pa_nil))) (pa_cons (pe_op op_repN (pe_tup (pa_cons pe_bl pa_nil)) (pe_callB call_len (by rfl) T.b_len bt_len (pa_cons (pv 3) pa_nil))) (pa_cons pe_non (pa_cons pe_int pa_nil)))))))) (pa_cons (pe_lst (pa_cons (pe_tup (pa_cons pe_int (pa_cons (pe_ix ix_seq (pv 3) pe_int (fun _ _ => rfl)) pa_nil))) (pa_cons (pe_tup (pa_cons (pv 7) (pa_cons (pe_ix ix_seq (pv 3) pe_int (fun _ _ => rfl)) pa_nil))) (pa_cons (pe_tup (pa_cons pe_int (pa_cons pe_str pa_nil))) (pa_cons (pe_lst (pa_cons pe_int (pa_cons (pe_ix ix_seq (pv 3) pe_int (fun _ _ => rfl)) pa_nil))) (pa_cons (pe_tup (pa_cons pe_bl (pa_cons (pe_ix ix_seq (pv 3) pe_int (fun _ _ => rfl)) pa_nil))) (pa_cons (pe_tup (pa_cons pe_int pa_nil)) (pa_cons pe_non (pa_cons (pe_tup (pa_cons pe_int (pa_cons pe_non pa_nil))) (pa_cons (pe_tup (pa_cons (pe_op op_sub (pv 7) pe_int) (pa_cons (pe_ix ix_seq (pv 3) (pe_un un_neg pe_int) (fun _ _ => rfl)) pa_nil))) pa_nil)))))))))) pa_nil)))))
      (C8.pss_cut (ps_asg (pe_call (G_law_bent) (hr.mono (by omega)) (by rfl) T.D_law_bent.mg T.D_law_bent.fn.kp T.D_law_bent.bd .nil pass0 (pa_cons (pv 1) (pa_cons (pe_ix ix_seq (pv 19) (pv 20) (fun _ _ => rfl)) (pa_cons (pe_ix ix_seq (pv 21) (pv 20) (fun _ _ => rfl)) pa_nil)))) (pg_sub (pv 18) (pv 20) set_list))
      (pss_cons (ps_if (pt_cmpR (op_neD hr.units) (pe_lamcall (t := fun E => tMake T.C_Machine (spMach K T.C_Machine T.C_BadRow) [] E (tCons (tOp (rIx K) (tVar 18) (tC (.int 0))) (tCons (tOp (rIx K) (tVar 18) (tC (.int 1))) (tCons (tOp (rIx K) (tVar 18) (tC (.int 2))) tNil)))) (T := TB1 tb) (P := tb) (c := cc) (k := 6) (by rfl) T.D_law_why.mg T.D_law_why.fn.kp LK hcw BW sc_law_why rfl (.inl rfl) (why_gives T rfl (by show callerA.units + 3 + 400 < cLine; decide +kernel)) hTB rfl (List.mem_singleton.mpr rfl) (fun q hq _ => by rw [List.mem_singleton.mp hq]; rfl) (hr.mono (by omega)) (lamS_by (sc := defScope s_law) (by decide +kernel)) rfl (fun _ _ _ _ _ => rfl) (fun A outer s H E f c' hr => pe_make T.mk_Machine (G_Machine___init__) (hr.mono (by omega)) (by rfl) T.g_Machine T.D_Machine___init__.bd .nil (passes_call (takes_of rfl rfl rfl rfl) fun _ _ _ _ z => z) (pa_cons (pe_ix ix_seq (pv 18) pe_int (fun _ _ => rfl)) (pa_cons (pe_ix ix_seq (pv 18) pe_int (fun _ _ => rfl)) (pa_cons (pe_ix ix_seq (pv 18) pe_int (fun _ _ => rfl)) pa_nil))))) (pe_callG (G_law_due) rfl (hr.mono (by omega)) (by rfl) T.D_law_due.mg T.D_law_due.fn.kp T.D_law_due.bd pass0 (pa_cons (pe_ix ix_seq (pv 18) pe_int (fun _ _ => rfl)) (pa_cons (pe_ix ix_seq (pv 18) pe_int (fun _ _ => rfl)) (pa_cons (pe_ix ix_seq (pv 18) pe_int (fun _ _ => rfl)) pa_nil)))) (nomark _)) (pss_one (ps_ret pe_bl)) pss_nil)
      (pss_one (ps_set (i := 18) sc_law.nd rfl (by first | exact Or.inl rfl | exact Or.inr rfl) (pe_ifExp (pt_cmpR op_eq (pe_call (G_law_draw) (hr.mono (by omega)) (by rfl) T.D_law_draw.mg T.D_law_draw.fn.kp T.D_law_draw.bd .nil pass0 (pa_cons (pv 1) (pa_cons pe_int pa_nil))) pe_int (nomark _)) (pv 18) (pe_lst (pa_cons (pv 3) (pa_cons (pv 5) (pa_cons (pv 6) pa_nil)))))))))))))))))))))))))))))
      (pss_one (ps_ret pe_bl)))), ?_⟩
  refine ⟨_, rfl, a, zs, rfl, hs, hl, fun p c H1 s1 P1 => ?_⟩
  have T1 : Tabs (TB1 tb) H1 := fun q hq => by
    rw [List.mem_singleton.mp hq]; exact (TabS.nil hT).ext s1
  refine ⟨3, rfl, by decide, by decide, for_range (n := 3) (fun i σ' H' => ∃ (o2 o3 o4 o5 o6 o7 o8 o9 o10 o11 o12 o13 o14 o15 o16 o17 o18 o19 o20 o21 : Option V), σ' = [some (.ref a), some (.ref p), o2, o3, o4, o5, o6, o7, o8, o9, o10, o11, o12, o13, o14, o15, o16, o17, o18, o19, o20, o21] ∧ Pen p c (100000 * i) H' ∧ Tabs (TB1 tb) H')
    ⟨none, none, none, none, none, none, none, none, none, none, none, none, none, none, none, none, none, none, none, none, rfl, P1, T1⟩ ?_ ?_⟩
  · rintro i σ' H' hi ⟨o2, o3, o4, o5, o6, o7, o8, o9, o10, o11, o12, o13, o14, o15, o16, o17, o18, o19, o20, o21, rfl, P2, T2⟩
    clear P1 T1 s1 hs hT e0 lk hcd BL kIn
    -- the calls
    refine ⟨_, rfl, _, rfl, (by show 4 ≤ sizeLine; decide), fun l hl1 => ⟨p, c, l, [.int 1, .int 2, .int 3, .int 6], _, rfl, (P2.upd (P2.ne_p hl1) (P2.ne_c hl1)), .inl (.of upd_same), by show 0 < 4; decide, by show 4 < 100000; decide, by omega, fun y v H3 hv b3 P3 => ?_⟩⟩
    obtain ⟨m, rfl, m1, m6⟩ : ∃ m : Nat, v = .int (m : Int) ∧ 1 ≤ m ∧ m ≤ 6 := by
      match y, hv with
      | 0, hv => cases hv; exact ⟨1, rfl, by decide, by decide⟩
      | 1, hv => cases hv; exact ⟨2, rfl, by decide, by decide⟩
      | 2, hv => cases hv; exact ⟨3, rfl, by decide, by decide⟩
      | 3, hv => cases hv; exact ⟨6, rfl, by decide, by decide⟩
    have T3 := tabs_but P2 ((But.of (Same.newA hl1)).trans b3) T2
    refine ⟨p, c, m, _, rfl, P3, by omega, by omega, fun cs ns H4 hn sn ecs b4 P4 => ?_⟩
    obtain ⟨nd, nl1, nl6, nb, isc⟩ := calls_good hn sn m1 m6
    have nA : ∀ x ∈ ns, As 12 x := fun x hx => nameB_as (nb x hx)
    have T4 := tabs_but P3 b4 T3
    have st4 := ecs
    clear hn sn P3 P2 T3 T2 b3 b4 ecs hv hl1
    -- the machine
    refine ⟨_, rfl, _, rfl, _, rfl, p, c, 8, _, rfl, P4, by decide, by decide, by omega, fun d H5 d0 d8 b5 P5 => ?_⟩
    obtain ⟨M, hM, M1, M8⟩ : ∃ M : Nat, 1 + d = (M : Int) ∧ 1 ≤ M ∧ M ≤ 8 := ⟨(1 + d).toNat, by omega, by omega, by omega⟩
    refine ⟨_, _, rfl, rfl, p, c, cs, _, M, ns, by show [V.ref p, V.ref cs, V.int (1 + d)] = _; rw [hM], P5, P4.fzT b5 st4, M1, M8, nl6, by omega, fun mm rs qs H6 hmc rl ok ndq okq lq b6 P6 => ?_⟩
    have st6 := P5.fzT b6 (P4.fzT b5 st4)
    have T6 := tabs_but P5 b6 (tabs_but P4 b5 T4)
    clear P4 P5 st4 T4 b5 b6
    dsimp only [gName]
    -- rows, marks, many
    have nR : (rs.map fun r : List Int => PyData.list (r.map PyData.int)).length ≤ 50000 := by rw [List.length_map]; omega
    have mR : ∀ d2, d2 ∈ (rs.map fun r : List Int => PyData.list (r.map PyData.int)) → ∃ r : List Int, d2 = .list (r.map .int) := fun d2 h => by
      obtain ⟨r, _, e⟩ := List.mem_map.mp h
      exact ⟨r, e.symm⟩
    obtain ⟨cs2, R, md, km, hm1, hm2, hm3, hm4, hm5⟩ := id hmc
    refine par3_of (run_edc (K := K) (F := nn H6) (d := rowsD rs) (ed_is (ed_tupleOf (ed_lc (f := fun _ => true) (m := fun d => .tuple (seqOf d)) (ei_list (ds := rs.map fun r : List Int => PyData.list (r.map PyData.int)) (fun H1 s1 Q q => ⟨_, rfl, mm, _, rfl, mg_rows (s1 _ _ hm1), q _ H1 (Same.refl _) (df_mono s1 Fr.base (dp_df hm3))⟩)) nR fun F2 H2 e2 v2 d2 hd2 hv2 => ⟨_, fun Q k => k, rfl, et_yes, fun _ => ?_⟩) rfl) (by rw [rows_map]; rfl)) fun rv H7 s7 hrv => ?_)
    · obtain ⟨r, rfl⟩ := mR d2 hd2
      exact ed_tupleOf (ed_var (i := 8) rfl hv2) rfl
    refine ⟨_, rfl, mm, _, rfl, mg_marks (s7 _ _ hm1), md, km, rfl, .inl (s7 _ _ hm4), fun pL bs hpL hk => ?_⟩
    have ed : (km.map fun q => keyD q.1) = qs.map pairD := by
      have : (km.map Prod.fst).map keyD = (qs.map pairK).map keyD := by rw [hm5]
      rwa [List.map_map, List.map_map] at this
    have pD : ∀ y ∈ (km.map fun q => keyD q.1), ∃ q, y = pairD q := fun y hy => by
      rw [ed] at hy
      obtain ⟨q, _, e⟩ := List.mem_map.mp hy
      exact ⟨q, e.symm⟩
    have s8 := Same.newA (o := .lst (bs.map V.ref)) hpL
    refine ⟨pL, bs.map V.ref, km.map (fun q => keyD q.1), rfl, SqL.of upd_same, dps_mono s8 (keys_dps hk), fun x hx y hy => ?_, .inl fun y hy => ?_, fun y hy => ?_, fun zs q pz ez hq => ?_⟩
    · obtain ⟨q, rfl⟩ := pD x hx
      obtain ⟨q2, rfl⟩ := pD y hy
      exact alike_pair q q2
    · obtain ⟨q, rfl⟩ := pD y hy
      exact ⟨_, _, rfl⟩
    · obtain ⟨q, rfl⟩ := pD y hy
      exact Nat.le_trans (pair_depth q) (by decide)
    obtain ⟨ks, hz, hks, hka⟩ := marks_mk hk hm5 pz ez
    rw [hz]
    have s9 := Same.newA (o := .lst (ks.map fun z => V.ref z.1)) hq
    refine ⟨q, _, rfl, .inl ⟨SqL.of upd_same, fun mk hmk => ?_⟩⟩
    have s10 := Same.newA (o := .tup (ks.map fun z => V.ref z.1)) hmk
    have mv9 : MkV K (qs.mergeSort leP) (.ref mk) (upd (upd (upd H7 pL (.lst (bs.map V.ref))) q (.lst (ks.map fun z => V.ref z.1))) mk (.tup (ks.map fun z => V.ref z.1))) := ⟨mk, ks, rfl, SqT.of upd_same, hks, fun z hz => s10 _ _ (s9 _ _ (s8 _ _ (hka z hz)))⟩
    have s69 := s7.trans (s8.trans (s9.trans s10))
    have rv9 := dp_mono (s8.trans (s9.trans s10)) (df_dp hrv)
    revert mv9 s69 rv9
    generalize upd (upd (upd H7 pL (.lst (bs.map V.ref))) q (.lst (ks.map fun z => V.ref z.1))) mk (.tup (ks.map fun z => V.ref z.1)) = H9
    intro mv9 s69 rv9
    clear s8 s9 s10 hmk hq hz hks hka pz ez hk hpL hrv s7 ks zs q bs pL
    refine run_edc (K := K) (F := nn H9) (d := .int (M : Int)) (ed_is (ed_len (d := rowsLL rs) (fun H1 s1 Q q => ⟨_, rfl, mm, _, rfl, mg_rows (s1 _ _ (s69 _ _ hm1)), q _ H1 (Same.refl _) (df_mono s1 Fr.base (dp_df (dp_mono s69 hm3)))⟩) rfl) (by show PyData.int ((rs.map _).length : Nat) = _; rw [List.length_map, rl])) fun v H10 s10 hv10 => ?_
    cases hv10
    refine ⟨_, _, _, rfl, ?_⟩
    have mv10 : MkV K (qs.mergeSort leP) (.ref mk) H10 := by
      obtain ⟨ma, ks, e1, e2, e3, e4⟩ := mv9
      exact ⟨ma, ks, e1, s10.stA e2, e3, fun z hz => s10 _ _ (e4 z hz)⟩
    have s610 := s69.trans s10
    have rv10 := dp_mono s10 rv9
    have P10 := P6.same s610
    have T10 : Tabs (TB1 tb) H10 := fun q hq => (T6 q hq).ext s610
    have st10 := FzT.same s610 st6
    have mc10 := (hmc.same s610).f
    clear mv9 s69 rv9 s10 s610 P6 T6 st6 hmc hm1 hm2 hm3 hm4 hm5
    dsimp only [tNext]
    clear nR mR ed pD md km cs2 R H9 H7 H6 H5 H3 hM
    obtain ⟨ra, rvs, rfl, hra, hrs⟩ : ∃ ra vs, rv = .ref ra ∧ SqT K H10 ra vs ∧ DpAll K H10 vs (rs.map fun r => .tuple (r.map .int)) := by
      cases rv10 with
      | tup h1 h2 => exact ⟨_, _, rfl, h1, h2⟩
    obtain ⟨ma, ks, e1, hma, hks, hka⟩ := id mv10
    cases e1
    have pairsD := ks_dps (K := K) hks hka
    refine ⟨_, rfl, cs, _, rfl, .inr st10.st, fun lc hlc => ?_⟩
    have s11 := Same.newA (o := .lst (ns.map V.str)) hlc
    refine ⟨_, rfl, ra, _, rfl, .inr (s11.stA hra), fun lr hlr => ?_⟩
    have s12 := Same.newA (o := .lst rvs) hlr
    refine ⟨_, rfl, mk, _, rfl, .inr (s12.stA (s11.stA hma)), fun lm hlm => ?_⟩
    have s13 := Same.newA (o := .lst (ks.map fun z => V.ref z.1)) hlm
    refine ⟨(by show 3 ≤ sizeLine; decide), fun lh hlh => ?_⟩
    have s14 := Same.newA (o := .lst [V.ref lc, V.ref lr, V.ref lm]) hlh
    dsimp only [gName]
    have fc : H10 lc = none := hlc
    have fr : H10 lr = none := s11.freshA hlr
    have fm : H10 lm = none := s11.freshA (s12.freshA hlm)
    have fh : H10 lh = none := s11.freshA (s12.freshA (s13.freshA hlh))
    have n12 : lc ≠ lr := ne_of_none upd_same hlr
    have n13 : lc ≠ lm := ne_of_none (s12 _ _ upd_same) hlm
    have n23 : lr ≠ lm := ne_of_none upd_same hlm
    have n1h : lc ≠ lh := ne_of_none (s13 _ _ (s12 _ _ upd_same)) hlh
    have n2h : lr ≠ lh := ne_of_none (s13 _ _ upd_same) hlh
    have n3h : lm ≠ lh := ne_of_none upd_same hlh
    have nc1 := P10.ne_c fc
    have nc2 := P10.ne_c fr
    have nc3 := P10.ne_c fm
    have gc := s14 _ _ (s13 _ _ (s12 _ _ (upd_same (H := H10) (a := lc) (o := .lst (ns.map V.str)))))
    have gr := s14 _ _ (s13 _ _ (upd_same (H := upd H10 lc (.lst (ns.map V.str))) (a := lr) (o := .lst rvs)))
    have gm := s14 _ _ (upd_same (H := upd (upd H10 lc (.lst (ns.map V.str))) lr (.lst rvs)) (a := lm) (o := .lst (ks.map fun z => V.ref z.1)))
    have gh := upd_same (H := upd (upd (upd H10 lc (.lst (ns.map V.str))) lr (.lst rvs)) lm (.lst (ks.map fun z => V.ref z.1))) (a := lh) (o := .lst [V.ref lc, V.ref lr, V.ref lm])
    have sA := s11.trans (s12.trans (s13.trans s14))
    revert gc gr gm gh sA
    generalize upd (upd (upd (upd H10 lc (.lst (ns.map V.str))) lr (.lst rvs)) lm (.lst (ks.map fun z => V.ref z.1))) lh (.lst [V.ref lc, V.ref lr, V.ref lm]) = H14
    intro gc gr gm gh sA
    clear s11 s12 s13 s14 hlc hlr hlm hlh
    have live : Live K H14 (.ref lm) (.list ((qs.mergeSort leP).map pairD)) := live_of rfl ⟨lm, ks, rfl, .inl (SqL.of gm), hks, fun z hz => sA _ _ (hka z hz)⟩
    have lnn : lenP (.list (ns.map .str)) = ns.length := by show (ns.map _).length = _; rw [List.length_map]
    have lnr : lenP (.list (rowsL rs)) = rs.length := by show (rs.map _).length = _; rw [List.length_map]
    have pm : (qs.mergeSort leP).Perm qs := List.mergeSort_perm _ _
    have okp : ∀ z ∈ qs.mergeSort leP, 0 ≤ z.1 ∧ z.1 < (M : Int) ∧ z.2 ∈ ns := fun z hz => okq z (pm.mem_iff.mp hz)
    have nicem : Nice 2 25303 (.tuple ((qs.mergeSort leP).map pairD)) := nice_marks (fun z hz => by
      obtain ⟨h0, h1, h2⟩ := okp z hz
      exact ⟨h0, by omega, nA _ h2⟩) (by rw [pm.length_eq]; omega)
    have nicer : Nice 2 1000 (rowsD rs) := nice_rows ok nl6 (by omega)
    have gdc : gd (.list (ns.map .str)) = true := gd_lst (gds_map fun y hy => (nice_str (nA y hy) (by decide)).gd) (by rw [List.length_map]; omega)
    refine ⟨_, rfl, .inl ⟨_, _, _, _, rfl, rfl, SqL.of gh, atI_nat (j := 0) rfl, ⟨_, rfl, .inl ⟨_, _, _, _, rfl, rfl, SqL.of gh, atI_nat (j := 1) rfl, ⟨_, rfl, .inl ⟨_, _, _, _, rfl, rfl, SqL.of gh, atI_nat (j := 2) rfl, fun b dx hb hdx nb2 => ?_⟩⟩⟩⟩⟩⟩
    refine mk_mach (K := K) (dc := .list (ns.map .str)) (dr := .list (rowsL rs)) (dm := .list ((qs.mergeSort leP).map pairD)) (ns := ns) (rs := rs) (ps := qs.mergeSort leP) (.lst (SqL.of gc) (dps_strs ns)) gdc (.lst (SqL.of gr) (dps_mono sA hrs)) (gd_of_tup nicer.gd) (.lst (SqL.of gm) (dps_mono sA pairsD)) (gd_of_tup nicem.gd) live
      (show (true && callsB (ns.map .str)) = true from isc) (by rw [lnn]; exact rows_is ok (.inl rfl)) (by rw [lnr, rl]; exact marks_is okp (sorted_up ndq) (.inl rfl)) rfl (rowsT_of (.inl rfl)) rfl hb hdx nb2 fun H15 s15 mn => ⟨rfl, ?_⟩
    have P14 := P10.same sA
    have mn2 : MachN K T.C_Machine (fun a => a ≠ p) b ns rs (qs.mergeSort leP) H15 := by
      obtain ⟨dx', ca, rv, mv, pd, md, kp, km, h1, h2, h3, h4, h5, h6, h7, h8, h9, h10⟩ := mn
      obtain ⟨ce, a', dd, k, f, hp, _⟩ := id P14
      exact ⟨dx', ca, rv, mv, pd, md, kp, km, h1, h2, h3, h4, h5, h6, h7, h8, (fun z => by
        have h : H14 pd = none := h9
        rw [z, hp] at h; cases h), (fun z => by
        have h : H14 md = none := h10
        rw [z, hp] at h; cases h)⟩
    have lap : Lap K (nn H10) T.C_Machine p c b mm cs tb (.ref ra) (.ref mk) ns rs (qs.mergeSort leP) qs (100000 * i + 1 + 400 + 1 + 100) H15 := {
      pen := P14.same s15
      tab := fun q hq => ((T10 q hq).ext sA).ext s15
      cz := FzT.same s15 (FzT.same sA st10)
      rv := df_mono (sA.trans s15) (fun _ z => z) (dp_df rv10)
      mv := ⟨mk, ks, rfl, (sA.trans s15).stA hma, hks, fun z hz => s15 _ _ (sA _ _ (hka z hz))⟩
      mc := by
        obtain ⟨cs', R', md', km', h1, h2, h3, h4, h5⟩ := mc10
        exact ⟨cs', R', md', km', s15 _ _ (sA _ _ h1), FzT.same s15 (FzT.same sA h2), df_mono (sA.trans s15) (fun _ z => z) h3, s15 _ _ (sA _ _ h4), h5⟩
      bk := mn2 }
    replace gc := s15 _ _ gc
    replace gr := s15 _ _ gr
    replace gm := s15 _ _ gm
    replace gh := s15 _ _ gh
    have dr := dfs_mono (sA.trans s15) (fun _ z => z) (dps_dfs hrs)
    have dm := dfs_mono (sA.trans s15) (fun _ z => z) (dps_dfs pairsD)
    clear mn mn2 P14 live sA s15 hb hdx nb2 P10 T10 st10 mc10 rv10 mv10 hra hrs hma hka pairsD
    dsimp only [gName]
    have ks48 : ks.length ≤ 48 := by
      have := congrArg List.length hks
      rw [List.length_map, List.length_map, pm.length_eq] at this; omega
    have rv8 : rvs.length ≤ 8 := by
      have := dfs_len dr
      rw [List.length_map] at this; omega
    refine ⟨_, rfl, _, rfl, ⟨_, SqL.of gh⟩, for_list (K := K) (a := lh) (xs := [V.ref lc, V.ref lr, V.ref lm]) (fun j σ' H' => ∃ o8, σ' = [some (.ref a), some (.ref p), some (.int (0 + (i : Nat))), some (.ref cs), some (.ref mm), some (.ref ra), some (.ref mk), some (.int (M : Int)), o8, some (.ref lh), some (.ref b), o11, o12, o13, o14, o15, o16, o17, o18, o19, o20, o21] ∧ Lap K (nn H10) T.C_Machine p c b mm cs tb (.ref ra) (.ref mk) ns rs (qs.mergeSort leP) qs (100000 * i + 1 + 400 + 1 + 100) H' ∧ H' lh = some (.lst [V.ref lc, V.ref lr, V.ref lm]) ∧ (j ≤ 0 → H' lc = some (.lst (ns.map V.str))) ∧ (j ≤ 1 → H' lr = some (.lst rvs) ∧ DfAll K (nn H10) H' rvs (rs.map fun r : List Int => .tuple (r.map .int))) ∧ (j ≤ 2 → H' lm = some (.lst (ks.map fun z : Addr × List Key => V.ref z.1)) ∧ DfAll K (nn H10) H' (ks.map fun z : Addr × List Key => V.ref z.1) ((qs.mergeSort leP).map pairD))) ⟨o8, rfl, lap, gh, fun _ => gc, fun _ => ⟨gr, dr⟩, fun _ => ⟨gm, dm⟩⟩ ?_ ?_ ?_⟩
    · rintro j σ' H' _ ⟨o8, rfl, lp, h, _⟩
      exact SqL.of h
    · rintro j v σ' H' hv ⟨o8, rfl, lp, eh, i0, i1, i2⟩
      dsimp only [gName]
      match j, hv with
      | 0, hv =>
        cases hv
        have e0 := i0 (Nat.le_refl _)
        obtain ⟨e1, d1⟩ := i1 (by decide)
        obtain ⟨e2, d2⟩ := i2 (by decide)
        refine app_body (K := K) (l := lc) (cs := cs) (ns := ns) (ds := ns.map .str) rfl rfl e0 (dps_strs ns) (layL gdc) (lt5 (by rw [List.length_map]; omega)) lp.cs nl1 fun y H16 s => ?_
        have ls := lp.same s
        have kl : KlF (nn H10) p H16 (upd H16 lc (.lst (ns.map V.str ++ [y]))) := .lst (s _ _ e0) (fun z => z fc)
        exact ⟨_, rfl, ls.lst (s _ _ e0) (fun z => z fc) nc1, by rw [upd_ne (Ne.symm n1h)]; exact s _ _ eh, (fun h => absurd h (by decide)), (fun _ => ⟨by rw [upd_ne (Ne.symm n12)]; exact s _ _ e1, ls.pen.dfsF kl (dfs_mono s (fun _ z => z) d1)⟩), fun _ => ⟨by rw [upd_ne (Ne.symm n13)]; exact s _ _ e2, ls.pen.dfsF kl (dfs_mono s (fun _ z => z) d2)⟩⟩
      | 1, hv =>
        cases hv
        obtain ⟨e1, d1⟩ := i1 (Nat.le_refl _)
        obtain ⟨e2, d2⟩ := i2 (by decide)
        refine app_body (K := K) (l := lr) (cs := cs) (ns := ns) (ds := rs.map fun r : List Int => .tuple (r.map .int)) rfl rfl e1 (dfs_dps d1) (layL (gd_of_tup nicer.gd)) (lt5 (by omega)) lp.cs nl1 fun y H16 s => ?_
        have ls := lp.same s
        have kl : KlF (nn H10) p H16 (upd H16 lr (.lst (rvs ++ [y]))) := .lst (s _ _ e1) (fun z => z fr)
        exact ⟨_, rfl, ls.lst (s _ _ e1) (fun z => z fr) nc2, by rw [upd_ne (Ne.symm n2h)]; exact s _ _ eh, (fun h => absurd h (by decide)), (fun h => absurd h (by decide)), fun _ => ⟨by rw [upd_ne (Ne.symm n23)]; exact s _ _ e2, ls.pen.dfsF kl (dfs_mono s (fun _ z => z) d2)⟩⟩
      | 2, hv =>
        cases hv
        obtain ⟨e2, d2⟩ := i2 (Nat.le_refl _)
        refine app_body (K := K) (l := lm) (cs := cs) (ns := ns) (ds := (qs.mergeSort leP).map pairD) rfl rfl e2 (dfs_dps d2) (layL (gd_of_tup nicem.gd)) (lt5 (by rw [List.length_map]; omega)) lp.cs nl1 fun y H16 s => ?_
        have ls := lp.same s
        exact ⟨_, rfl, ls.lst (s _ _ e2) (fun z => z fm) nc3, by rw [upd_ne (Ne.symm n3h)]; exact s _ _ eh, (fun h => absurd h (by decide)), (fun h => absurd h (by decide)), fun h => absurd h (by decide)⟩
    · rintro σ' H16 ⟨o8, rfl, L, _⟩
      clear lap gc gr gm gh dr dm fc fr fm fh n12 n13 n23 n1h n2h n3h nc1 nc2 nc3 hks ks48 rv8
      -- what is told of the data
      have nicec : Nice 1 1000 (.tuple (ns.map .str)) := (nice_names nA (by omega)).more (Nat.le_refl _) (by omega)
      have isr : isRows (rowsD rs) (lenP (.tuple (ns.map PyData.str))) = true := by
        rw [show lenP (.tuple (ns.map PyData.str)) = ns.length by show (ns.map _).length = _; rw [List.length_map]]
        exact rows_is ok (.inr rfl)
      have lrs : lenP (rowsD rs) = M := by show (rs.map _).length = _; rw [List.length_map, rl]
      have up := sorted_up ndq
      have pml := pm.length_eq
      generalize qs.mergeSort leP = ps at L pm okp nicem up pml
      have ism : isMarks ns (lenP (rowsD rs)) (.tuple (ps.map pairD)) = true := by
        rw [lrs]; exact marks_is okp up (.inr rfl)
      have nm : Nice 2 12400 (.tuple (ps.map pairD)) := nice_marks49 (fun z hz => by
        obtain ⟨h0, h1, h2⟩ := okp z hz
        exact ⟨h0, by omega, nA _ h2⟩) (by omega)
      have nthree := nice_three nicec nicer nm
      have fit : ∀ {n : Nat}, n ≤ 100000 → n ≤ sizeLine := fun h => small5 h
      clear nicem
      obtain ⟨dx, ca, rv', mv', pd, md, kp, km, hb, hca, hrv', hmv', _⟩ := L.bk.at_
      refine s_if (b := false) (et_is (et_or (et_test (ed_neS (F := nn H16) (ed_repr (ed_tup (ea_cons (ed_fldI (d := .tuple (ns.map .str)) (i := 10) rfl hb T.cl_Machine T.na_Machine_calls bf_calls (dp_df (.tup hca (dps_strs ns)))) (ea_cons (ed_fldI (i := 10) rfl hb T.cl_Machine T.na_Machine_rows bf_rows (dp_df hrv')) (ea_cons (ed_fldI (i := 10) rfl hb T.cl_Machine T.na_Machine_marks bf_marks (dp_df hmv')) ea_nil))) (by show 3 ≤ 100000; decide)) nthree.sh (by have := nthree.dp; omega) (fit (by have := nthree.ln; omega)))
          (ed_repr (ed_tup (ea_cons (ed_var (d := .tuple (ns.map .str)) (i := 3) rfl (dp_df (.tup L.cs (dps_strs ns)))) (ea_cons (ed_var (i := 5) rfl (dp_df (df_dp L.rv))) (ea_cons (ed_var (i := 6) rfl (dp_df (mkv_dp L.mv))) ea_nil))) (by show 3 ≤ 100000; decide)) nthree.sh (by have := nthree.dp; omega) (fit (by have := nthree.ln; omega)))))
          fun _ => et_or (et_not (et_test (ed_eqM (F := nn H16) (i := 10) (j := 3) (l := 5) (m := 6) rfl rfl rfl rfl L.bk.at_ L.cs (df_dp L.rv) L.mv nicec.gd nicer.gd nm.gd isc isr ism nthree nthree))) fun _ => et_test (ed_eqMT (F := nn H16) (i := 10) (j := 3) (l := 5) (m := 6) rfl rfl rfl rfl L.bk.at_ T.st_Machine)) ?_) (fun h => nomatch h) (fun _ H17 s17 => ?_)
      · rw [decide_eq_true (show (PyData.tuple [.tuple (ns.map .str), rowsD rs, .tuple (ps.map pairD)]).shown = _ from rfl), decide_eq_true (show ps = ps from rfl)]; rfl
      have L2 := L.same s17
      clear L s17 hb hca hrv' hmv'
      dsimp only [tNext]
      -- other marks
      refine asg_of (run_other (K := K) (i := 3) (j := 6) rfl rfl L2.cs nl1 L2.mv (shaped_of nm (by decide)) fun ov ts H18 s18 hov net min upt lent => ?_)
      dsimp only [gName]
      have L3 := L2.same s18
      have okt : ∀ z ∈ ts, 0 ≤ z.1 ∧ z.1 < (M : Int) ∧ z.2 ∈ ns := fun z hz => (min z hz).elim (okp z) fun ⟨h0, h1⟩ => ⟨by omega, by omega, h1⟩
      have nt : Nice 2 12400 (.tuple (ts.map pairD)) := nice_marks49 (fun z hz => by
        obtain ⟨h0, h1, h2⟩ := okt z hz
        exact ⟨h0, by omega, nA _ h2⟩) (by omega)
      have ist : isMarks ns (lenP (rowsD rs)) (.tuple (ts.map pairD)) = true := by rw [lrs]; exact marks_is okt (upt up) (.inr rfl)
      refine s_if (b := false) (et_is (et_test (ed_eqM (F := nn H18) (i := 10) (j := 3) (l := 5) (m := 11) rfl rfl rfl rfl L3.bk.at_ L3.cs (df_dp L3.rv) hov nicec.gd nicer.gd nt.gd isc isr ist nthree (nice_three nicec nicer nt))) (by rw [decide_eq_false net])) (fun h => nomatch h) (fun _ H19 s19 => ?_)
      have L4 := (L3.same s19).more (k := 100000 * i + 1000) (by omega)
      clear L2 L3 s18 hov net min upt lent okt nt ist s19 nthree
      dsimp only [tNext]
      -- words
      refine ⟨3, rfl, by decide, by decide, for_range (n := 3) (fun j σ' H' => ∃ o12 o13 o14 o15 o16, σ' = [some (.ref a), some (.ref p), some (.int (0 + (i : Nat))), some (.ref cs), some (.ref mm), some (.ref ra), some (.ref mk), some (.int (M : Int)), o8, some (.ref lh), some (.ref b), some (ov), o12, o13, o14, o15, o16, o17, o18, o19, o20, o21] ∧ Lap K (nn H10) T.C_Machine p c b mm cs tb (.ref ra) (.ref mk) ns rs ps qs (100000 * i + 1000 + 100 * j) H') ⟨o12, o13, o14, o15, o16, rfl, L4⟩ ?_ ?_⟩
      · rintro j σ' H20 hj ⟨o12, o13, o14, o15, o16, rfl, L5⟩
        clear L4
        have zA : ∀ x ∈ ns ++ (["zz"] : List Str), As 12 x := fun x hx => by
          rcases List.mem_append.mp hx with hx | hx
          · exact nA x hx
          · rw [List.mem_singleton.mp hx]; exact as_of (by decide +kernel)
        refine par3_of ⟨_, rfl, _, rfl, (by show 1 ≤ sizeLine; decide), fun t0 ht0 => ?_⟩
        refine run_catT (K := K) (F := nn (upd H20 t0 (.tup [.str "zz"]))) (xs := ns.map .str) (ys := (["zz"] : List Str).map .str) (dp_df (.tup ((Same.newA ht0).stA L5.cs) (dps_strs ns))) (dp_df (.tup (.of upd_same) (dps_strs ["zz"]))) (by rw [List.length_map, List.length_map]; have : (["zz"] : List Str).length = 1 := rfl; omega) fun z H21 s21 hz => ?_
        rw [← List.map_append] at hz
        cases hz with
        | tup hz r =>
          rename_i zv _
          have e := strs_dps (dfs_dps r)
          subst e
          clear r
          have L6 := L5.same ((Same.newA (o := .tup [.str "zz"]) ht0).trans s21)
          clear L5 s21 ht0
          refine ⟨p, c, zv, ns ++ (["zz"] : List Str), _, 8, rfl, by decide, L6.pen, hz, by simp, by rw [List.length_append]; show ns.length + 1 ≤ 10; omega, by omega, fun wv ws H22 hws wl hnone ewv b22 P22 => ?_⟩
          have L7 := L6.but b22 P22
          clear L6 hz hws hnone b22 P22
          refine ⟨_, rfl, _, rfl, p, c, _, _, rfl, L7.pen, by omega, by omega, by omega, fun d H23 d0 dM b23 P23 => ⟨_, _, _, rfl, ?_⟩⟩
          have L8 := L7.but b23 P23
          have ewv := b23 _ _ (L7.pen.ne ewv (fun _ z => nomatch z)) ewv
          obtain ⟨at0, rfl⟩ : ∃ q : Nat, d = (q : Int) := ⟨d.toNat, by omega⟩
          have hat : at0 < rs.length := by omega
          have M0 : 0 < rs.length := by omega
          clear L7 b23 P23
          dsimp only [tNext]
          refine ⟨_, rfl, wv, rfl, ⟨_, .of ewv⟩, for_tup (K := K) (a := wv) (xs := ws.map V.str) (fun m σ' H' => ∃ o16, σ' = [some (.ref a), some (.ref p), some (.int (0 + (i : Nat))), some (.ref cs), some (.ref mm), some (.ref ra), some (.ref mk), some (.int (M : Int)), o8, some (.ref lh), some (.ref b), some (ov), some (.int (0 + (j : Nat))), some (.ref wv), some (.int (((ws.take m).foldl (goP ns rs) 0 : Nat) : Int)), some (.int (at0 : Int)), o16, o17, o18, o19, o20, o21] ∧ Same H23 H') ⟨o16, rfl, Same.refl _⟩ (fun m σ' H' _ ⟨_, _, s⟩ => .of (s _ _ ewv)) ?_ ?_⟩
          · rintro m v σ' H24 hv ⟨o16, rfl, s24⟩
            dsimp only [gName]
            obtain ⟨x, hx, rfl⟩ := str_at hv
            have L9 := L8.same s24
            have lt := goAll_lt nd ok (ws.take m) M0
            have lt2 := goP_lt nd ok lt x
            have st : (ws.take (m + 1)).foldl (goP ns rs) 0 = goP ns rs ((ws.take m).foldl (goP ns rs) 0) x := by rw [take_snoc hx, List.foldl_append]; rfl
            generalize (ws.take m).foldl (goP ns rs) 0 = n0 at lt lt2 st ⊢
            have nz := nice_nat (i := ((goP ns rs n0 x : Nat) : Int)) (by omega)
            refine s_if (b := false) (et_is (et_or (et_test (ed_neS (F := nn H24) (ed_repr (ed_goM (i := 10) (j := 14) (l := 16) rfl rfl rfl lt L9.bk.at_ ok nd) nz.sh (by have := nz.dp; omega) (fit (by have := nz.ln; omega))) (ed_repr (ed_lgo (i := 4) (j := 14) (l := 16) rfl rfl rfl lt L9.mc.at_ ok nd) nz.sh (by have := nz.dp; omega) (fit (by have := nz.ln; omega)))))
              fun _ => et_not (et_B (ed_call (ea_cons (ed_isM (F := nn H24) (i := 10) (j := 14) (l := 16) rfl rfl rfl lt L9.bk.at_) (ea_cons (ed_is (ed_lmk (i := 4) (j := 14) (l := 16) rfl rfl rfl L9.mc.at_) (congrArg PyData.bool (decide_eq_decide.mpr pm.mem_iff.symm))) ea_nil)) (rdc_same rfl (shaped_bool _))))) ?_) (fun h => nomatch h) (fun _ H25 s25 => ?_)
            · rw [decide_eq_true (show (PyData.int ((goP ns rs n0 x : Nat) : Int)).shown = _ from rfl)]; rfl
            dsimp only [tNext]
            refine s_set (K := K) (F := nn H25) (ed_lgo (i := 4) (j := 14) (l := 16) rfl rfl rfl lt (L9.same s25).mc.at_ ok nd) fun v H26 s26 hv => ?_
            cases hv
            refine ⟨some (.str x), ?_, s24.trans (s25.trans s26)⟩
            rw [st]; rfl
          · rintro σ' H24 ⟨o16, rfl, s24⟩
            rw [List.length_map, List.take_length]
            have L9 := L8.same s24
            have ew := s24 _ _ ewv
            clear L8 s24 ewv
            obtain ⟨dx, ca, rv', mv', pd, md, kp, km, hb, _⟩ := id L9.bk
            refine ⟨_, rfl, b, dx, _, rfl, hb, bf_no no_behind, _, rfl, _, rfl, _, rfl, wv, _, rfl, .inr (.of ew), fun q1 hq1 => ⟨(by show 2 ≤ sizeLine; decide), fun q2 hq2 => ?_⟩⟩
            generalize hA1 : upd H24 q1 (HO.lst (ws.map V.str)) = A1 at hq2 ⊢
            have f1 : A1 q1 = some (.lst (ws.map V.str)) := by rw [← hA1]; exact upd_same
            have sA1 : Same H24 A1 := by rw [← hA1]; exact Same.newA hq1
            clear hA1
            generalize hA2 : upd A1 q2 (HO.lst [V.ref wv, V.ref q1]) = A2
            have f2 : A2 q2 = some (.lst [V.ref wv, V.ref q1]) := by rw [← hA2]; exact upd_same
            have sA2 : Same A1 A2 := by rw [← hA2]; exact Same.newA hq2
            clear hA2
            have LA := L9.same (sA1.trans sA2)
            have e1 := sA2 _ _ f1
            have e2 := (sA1.trans sA2) _ _ ew
            clear L9 hb f1 sA1 sA2 ew hq1 hq2
            refine ⟨p, c, q2, [.ref wv, .ref q1], _, rfl, LA.pen, .inl (.of f2), by show 0 < 2; decide, by show 2 < 100000; decide, by omega, fun y v H25 hv b25 P25 => ?_⟩
            have L10 := LA.but b25 P25
            have ew := b25 _ _ (LA.pen.ne e2 (fun _ z => nomatch z)) e2
            obtain ⟨dw, dv, hw⟩ : ∃ dw, Dp K H25 v dw ∧ (dw = .list (ws.map .str) ∨ dw = .tuple (ws.map .str)) := by
              match y, hv with
              | 0, hv => cases hv; exact ⟨_, .tup (.of ew) (dps_strs ws), .inr rfl⟩
              | 1, hv => cases hv; exact ⟨_, .lst (.inl (.inl (b25 _ _ (LA.pen.ne e1 (fun _ z => nomatch z)) e1))) (dps_strs ws), .inl rfl⟩
            clear LA b25 P25 e1 e2 f2 hv
            have lt := goAll_lt nd ok ws M0
            refine ⟨b, v, dw, ws, ns, rs, ps, rfl, L10.bk.at_, ok, nd, dv, hw, fun H26 s26 => ?_⟩
            generalize ws.foldl (goP ns rs) 0 = n0 at lt ⊢
            have nz := nice_nat (i := ((n0 : Nat) : Int)) (by omega)
            have nl : (PyData.int (n0 : Int)).shown.length ≤ sizeLine := fit (by have := nz.ln; omega)
            have L11 := L10.same s26
            have ew := s26 _ _ ew
            clear L10 dv hw s26
            refine ⟨_, _, rfl, .inl (.int _), nz.sh, (by have := nz.dp; omega), nl, _, rfl, _, _, rfl, .inl (.int _), nz.sh, (by have := nz.dp; omega), nl, rfl, _, rfl, ite2 (fun h => ?_) fun _ => ?_⟩
            · rw [decide_eq_true rfl] at h; cases h
            · refine (et_not (et_B (ed_call (ea_cons (ed_along (F := nn H26) (i := 10) (j := 15) (l := 13) rfl rfl rfl hat L11.bk.at_ ok nd (.of ew) (by omega)) (ea_cons (ed_is (ed_lmade (i := 4) (j := 15) (l := 13) rfl rfl rfl hat L11.mc.at_ ok nd (.of ew) (by omega)) (by rw [stepP_mem fun z => pm.mem_iff.symm])) ea_nil)) (rdc_same rfl (shaped_int _))))) H26 (Same.refl _) _ fun H27 s27 => ?_
              exact ⟨_, _, _, _, _, rfl, (L11.same s27).more (by omega)⟩
      · rintro σ' H20 ⟨o12, o13, o14, o15, o16, rfl, L5⟩
        clear L4
        -- odd states
        refine ⟨_, rfl, 1, rfl, _, rfl, (by show 1 ≤ sizeLine; decide), fun t ht => ⟨10, 30, rfl, rfl, ⟨by decide, by decide, by decide⟩, (by show 7 ≤ sizeLine; decide), fun l hl => ?_⟩⟩
        have sT := Same.newA (o := .tup [.int 0]) ht
        have fT : (upd H20 t (.tup [.int 0])) t = some (.tup [.int 0]) := upd_same
        have sA := Same.newA (o := .lst [.int (-1), .int (M : Int), .non, .bl true, .str "0", .ref t, .int (10 ^ (30 : Int).toNat)]) hl
        have LA := (L5.same sT).same sA
        have fT := sA _ _ fT
        clear L5
        refine ⟨p, c, l, [.int (-1), .int (M : Int), .non, .bl true, .str "0", .ref t, .int (10 ^ (30 : Int).toNat)], _, rfl, LA.pen, .inl (.of upd_same), by show 0 < 7; decide, by show 7 < 100000; decide, by omega, fun y v H21 hv b21 P21 => ?_⟩
        have L6 := (LA.but b21 P21).more (k := 100000 * i + 1500) (by omega)
        have fT := b21 _ _ (LA.pen.ne fT (fun _ z => nomatch z)) fT
        clear LA sA sT b21 P21 hl ht
        obtain ⟨d, dv, nc, nw⟩ : ∃ d, Dp K H21 v d ∧ Nice 1 60 d ∧ wholeB d 0 ((rs.length : Int) - 1) = false := by
          match y, hv with
          | 0, hv => cases hv; exact ⟨_, .int _, nice_neg1.more (by decide) (by decide), rfl⟩
          | 1, hv =>
            cases hv
            refine ⟨_, .int _, (nice_nat (by omega)).more (by decide) (by decide), ?_⟩
            rw [Bool.eq_false_iff]
            intro z
            have := whole_of.mp z
            omega
          | 2, hv => cases hv; exact ⟨_, .non, nice_none.more (by decide) (by decide), rfl⟩
          | 3, hv => cases hv; exact ⟨_, .bl _, (nice_bool true).more (by decide) (by decide), rfl⟩
          | 4, hv => cases hv; exact ⟨_, .str _, (nice_str (k := 1) (as_of (by decide +kernel)) (by decide)).more (by decide) (by decide), rfl⟩
          | 5, hv => cases hv; exact ⟨.tuple [.int 0], .tup (.of fT) (.cons (.int _) .nil), nice_1 ((nice_nat (by decide)).more (by decide) (by decide)), rfl⟩
          | 6, hv =>
            cases hv
            refine ⟨_, .int _, (nice_int (n := 40) (by decide +kernel)).more (by decide) (by decide), ?_⟩
            rw [Bool.eq_false_iff]
            intro z
            have := whole_of.mp z
            have e : (10 : Int) ^ (30 : Int).toNat = 1000000000000000000000000000000 := by decide +kernel
            rw [e] at this
            omega
        clear hv fT
        have shd : Shown d := ⟨nc.sh, (by have := nc.dp; omega), fit (by have := nc.ln; omega)⟩
        have told := told_shaped (a := "number") (b := "state") (asc_of (by decide +kernel)) (asc_of (by decide +kernel)) nc.as
        have nob : ∀ m : Nat, d = .int (m : Int) → m < rs.length → False := fun m e hm => by
          rw [e] at nw
          rw [whole_of.mpr ⟨by omega, by omega⟩] at nw
          cases nw
        clear nw
        obtain ⟨dx, ca, rv', mv', pd, md, kp, km, hb, _⟩ := id L6.bk
        dsimp only [gName]
        refine if_same (fun H1 => ExtN H21 H1 ∧ Tabs (TB1 tb) H1)
          (fun Q q => ⟨L6.tab, fun H1 ext t1 Q' hQ => ⟨_, rfl, b, dx, _, rfl, ext _ _ hb (fun _ z => nomatch z), bf_no no_go, _, rfl, b, _, d, "zz", ns, rs, ps, rfl, (L6.ext ext t1).bk.at_, ok, L6.pen.dpK (Kp.ext ext) dv,
            fun _ d' H' s' hd' e' => ⟨v, "state", d, d', rfl, .inl (dp_mono s' (L6.pen.dpK (Kp.ext ext) dv)), shd, .inl ⟨rfl, e', fun p2 H2 s2 e2 => q _ H2 ⟨ext.trans (.of (s'.trans s2)), fun z hz => (t1 z hz).ext (s'.trans s2)⟩ (lst_told e2)⟩⟩,
            fun m r e hr => (nob m e (List.getElem?_eq_some_iff.mp hr).1).elim⟩⟩)
          (fun H1 ⟨e1, t1⟩ Q q => ⟨_, rfl, v, d, rfl, .inl (L6.pen.dpK (Kp.ext e1) dv), shd.1, shd.2.1, shd.2.2, (by show 3 ≤ sizeLine; decide), fun q1 hq1 => q _ _ (Same.newA hq1) (lst_told upd_same)⟩)
          told told (told_eqv _ _ _) fun H1 H22 ⟨e1, t1⟩ s => ?_
        have L7 := (L6.ext e1 t1).same s
        have dv := dp_mono s (L6.pen.dpK (Kp.ext e1) dv)
        clear L6 e1 t1 s hb
        dsimp only [tNext]
        obtain ⟨dx, ca, rv', mv', pd, md, kp, km, hb, _⟩ := id L7.bk
        refine if_same (fun H1 => ExtN H22 H1 ∧ Tabs (TB1 tb) H1)
          (fun Q q => ⟨L7.tab, fun H1 ext t1 Q' hQ => ⟨_, rfl, b, dx, _, rfl, ext _ _ hb (fun _ z => nomatch z), bf_no no_is_marked, _, rfl, b, _, d, "zz", ns, rs, ps, rfl, (L7.ext ext t1).bk.at_, L7.pen.dpK (Kp.ext ext) dv,
            fun _ d' H' s' hd' e' => ⟨v, "state", d, d', rfl, .inl (dp_mono s' (L7.pen.dpK (Kp.ext ext) dv)), shd, .inl ⟨rfl, e', fun p2 H2 s2 e2 => q _ H2 ⟨ext.trans (.of (s'.trans s2)), fun z hz => (t1 z hz).ext (s'.trans s2)⟩ (lst_told e2)⟩⟩,
            fun m e hm => (nob m e hm).elim⟩⟩)
          (fun H1 ⟨e1, t1⟩ Q q => ⟨_, rfl, v, d, rfl, .inl (L7.pen.dpK (Kp.ext e1) dv), shd.1, shd.2.1, shd.2.2, (by show 3 ≤ sizeLine; decide), fun q1 hq1 => q _ _ (Same.newA hq1) (lst_told upd_same)⟩)
          told told (told_eqv _ _ _) fun H1 H23 ⟨e1, t1⟩ s => ?_
        have L8 := (L7.ext e1 t1).same s
        have dv := dp_mono s (L7.pen.dpK (Kp.ext e1) dv)
        clear L7 e1 t1 s hb
        dsimp only [tNext]
        obtain ⟨dx, ca, rv', mv', pd, md, kp, km, hb, _⟩ := id L8.bk
        refine if_same (fun H1 => ExtN H23 H1 ∧ Tabs (TB1 tb) H1)
          (fun Q q => ⟨L8.tab, fun H1 ext t1 Q' hQ => ⟨_, rfl, b, dx, _, rfl, ext _ _ hb (fun _ z => nomatch z), bf_no no_marks_along, _, rfl, (by show 0 ≤ sizeLine; decide), fun t0 ht0 => ⟨b, _, _, d, _, [], ns, rs, ps, rfl, ((L8.ext ext t1).same (Same.newA ht0)).bk.at_, ok, nd, dp_mono (Same.newA ht0) (L8.pen.dpK (Kp.ext ext) dv), .tup (.of upd_same) .nil, .inr rfl, (by decide),
            fun _ d' H' s' hd' e' => ⟨v, "state", d, d', rfl, .inl (dp_mono ((Same.newA ht0).trans s') (L8.pen.dpK (Kp.ext ext) dv)), shd, .inl ⟨rfl, e', fun p2 H2 s2 e2 => q _ H2 ⟨ext.trans (.of ((Same.newA ht0).trans (s'.trans s2))), fun z hz => (t1 z hz).ext ((Same.newA ht0).trans (s'.trans s2))⟩ (lst_told e2)⟩⟩,
            fun m e hm => (nob m e hm).elim⟩⟩⟩)
          (fun H1 ⟨e1, t1⟩ Q q => ⟨_, rfl, v, d, rfl, .inl (L8.pen.dpK (Kp.ext e1) dv), shd.1, shd.2.1, shd.2.2, (by show 3 ≤ sizeLine; decide), fun q1 hq1 => q _ _ (Same.newA hq1) (lst_told upd_same)⟩)
          told told (told_eqv _ _ _) fun H1 H24 ⟨e1, t1⟩ s => ?_
        have L9 := (L8.ext e1 t1).same s
        clear L8 e1 t1 s hb told dv nc shd nob
        dsimp only [tNext]
        -- bent and due
        have okc : OkD (.tuple (ns.map .str)) := okD_of nicec (by decide) (by decide) (by show (ns.map PyData.str).length < 64; rw [List.length_map]; omega)
        have okr : OkD (rowsD rs) := okD_of nicer (by decide) (by decide) (by show (rs.map _).length < 64; rw [List.length_map]; omega)
        have okm : OkD (.tuple (ps.map pairD)) := okD_of nm (by decide) (by decide) (by show (ps.map pairD).length < 64; rw [List.length_map]; omega)
        refine ⟨_, rfl, _, rfl, _, rfl, (by show 3 ≤ sizeLine; decide), fun bl hbl => ⟨_, rfl, _, rfl, _, rfl, (by show 3 ≤ sizeLine; decide), fun dl hdl => ⟨(by show 2 ≤ sizeLine; decide), fun t ht => ⟨t, _, rfl, .of upd_same, rfl, _, _, rfl, _, _, rfl, rfl, ?_⟩⟩⟩⟩
        have LB := L9.base
        have nFb : ¬ nn H24 bl := fun z => z hbl
        have nbc := L9.pen.ne_c hbl
        have nbd : bl ≠ dl := ne_of_none upd_same hdl
        have s1 := Same.newA (o := .lst [.ref cs, .ref ra, .ref mk]) hbl
        have s2 := Same.newA (o := .lst [.ref cs, .ref ra, .ref mk]) hdl
        have s3 := Same.newA (o := .tup [.ref bl, .ref dl]) ht
        have gb := (s2.trans s3) _ _ (upd_same (H := H24) (a := bl) (o := .lst [.ref cs, .ref ra, .ref mk]))
        have gd := s3 _ _ (upd_same (H := upd H24 bl (.lst [.ref cs, .ref ra, .ref mk])) (a := dl) (o := .lst [.ref cs, .ref ra, .ref mk]))
        have sA := s1.trans (s2.trans s3)
        revert gb gd sA
        generalize upd (upd (upd H24 bl (.lst [.ref cs, .ref ra, .ref mk])) dl (.lst [.ref cs, .ref ra, .ref mk])) t (.tup [.ref bl, .ref dl]) = H25
        intro gb gd sA
        have L10 := (LB.same sA).more (k := 100000 * i + 2000) (by omega)
        have B10 := BS.init L10 gb gd nbd okc okr okm
        clear s1 s2 s3 sA ht hdl hbl gb gd LB L9 nbd
        obtain ⟨r0, hr0⟩ : ∃ r0, rs[0]? = some r0 := ⟨_, List.getElem?_eq_getElem (by omega)⟩
        obtain ⟨n0, hn0⟩ : ∃ n0, ns[0]? = some n0 := ⟨_, List.getElem?_eq_getElem (by omega)⟩
        obtain ⟨nz, hnz⟩ : ∃ nz, ns[ns.length - 1]? = some nz := ⟨_, List.getElem?_eq_getElem (by omega)⟩
        have R0 : (rowsL rs)[0]? = some (.tuple (r0.map .int)) := by unfold rowsL; rw [List.getElem?_map, hr0]; rfl
        have N0 : (ns.map PyData.str)[0]? = some (.str n0) := by rw [List.getElem?_map, hn0]; rfl
        have NZ : (ns.map PyData.str)[(ns.map PyData.str).length - 1]? = some (.str nz) := by rw [List.length_map, List.getElem?_map, hnz]; rfl
        have nA0 := nice_str (nA n0 (List.mem_of_getElem? hn0)) (by decide)
        have nAz := nice_str (nA nz (List.mem_of_getElem? hnz)) (by decide)
        have br := ok.row r0 (List.mem_of_getElem? hr0)
        have nr0 : ∀ x ∈ r0.map PyData.int, Nice 0 5 x := fun x hx => by
          obtain ⟨z, hz, rfl⟩ := List.mem_map.mp hx
          have := br.2 z hz
          exact (nice_nat (by omega)).more (Nat.le_refl _) (by decide)
        have hl0 : (r0.map PyData.int).length = ns.length := by rw [List.length_map]; exact br.1
        have lc0 : lenP (.tuple (ns.map PyData.str)) = ns.length := by show (ns.map PyData.str).length = _; rw [List.length_map]
        clear hr0 hn0 hnz br
        have lenR : (rowsL rs).length = M := by show (rs.map _).length = M; rw [List.length_map, rl]
        refine ⟨5, rfl, by decide, by decide, for_range (n := 5) (fun j σ' H' => ∃ o12 o20 o21 bl F, σ' = [some (.ref a), some (.ref p), some (.int (0 + (i : Nat))), some (.ref cs), some (.ref mm), some (.ref ra), some (.ref mk), some (.int (M : Int)), o8, some (.ref lh), some (.ref b), some (ov), o12, o13, o14, o15, o16, some (v), some (.ref bl), some (.ref dl), o20, o21] ∧ Lap K F T.C_Machine p c b mm cs tb (.ref ra) (.ref mk) ns rs ps qs (100000 * i + 2000 + 100 * j) H' ∧ ¬ F bl ∧ bl ≠ c ∧ BS K bl dl cs (.ref ra) (.ref mk) H') ⟨o12, o20, o21, bl, nn H24, rfl, L10, nFb, nbc, B10⟩ ?_ ?_⟩
        · rintro j σ' H26 hj ⟨o12, o20, o21, bl, F, rfl, L11, nFb, nbc, B11⟩
          clear L10 B10
          dsimp only [gName]
          refine ⟨_, rfl, p, c, 3, _, rfl, L11.pen, by decide, by decide, by omega, fun d H27 d0 d3 b27 P27 => ?_⟩
          have L12 := L11.but b27 P27
          have B12 := B11.but L11.pen b27
          clear L11 B11 b27 P27
          dsimp only [gName]
          refine asg_of (run_some3 (K := K) (F := fun a => a ≠ bl)
            (ea_cons ed_str (ea_cons ed_str (ea_cons ed_non (ea_cons (ed_ixT (j := 0) (ds := ns.map .str) (ed_var (i := 3) rfl (.tup L12.cs (dfs_strs ns))) ed_int N0) (ea_cons ed_str (ea_cons ed_int ea_nil))))))
            (ea_cons (ed_ixT (j := 0) (ds := rowsL rs) (ed_var (i := 5) rfl (df_rowsF (df_dp L12.rv))) ed_int R0)
              (ea_cons (ed_listOf (ed_ixT (j := 0) (ds := rowsL rs) (ed_var (i := 5) rfl (df_rowsF (df_dp L12.rv))) ed_int R0) rfl)
              (ea_cons (ed_tup (ea_cons ed_int ea_nil) (by show 1 ≤ 100000; decide))
              (ea_cons (ed_repN (k := lenP (.tuple (ns.map PyData.str))) (ed_tup (ea_cons (ed_var (i := 7) (d := .int (M : Nat)) rfl (.int _)) ea_nil) (by show 1 ≤ 100000; decide)) (ed_len (ed_var (i := 3) (d := .tuple (ns.map .str)) rfl (.tup L12.cs (dfs_strs ns))) rfl) (by show 1 ≤ 1; decide) (by show 1 ≤ 1000; decide) (by omega) (by omega))
              (ea_cons (ed_repN (k := lenP (.tuple (ns.map PyData.str))) (ed_tup (ea_cons ed_bl ea_nil) (by show 1 ≤ 100000; decide)) (ed_len (ed_var (i := 3) (d := .tuple (ns.map .str)) rfl (.tup L12.cs (dfs_strs ns))) rfl) (by show 1 ≤ 1; decide) (by show 1 ≤ 1000; decide) (by omega) (by omega))
              (ea_cons ed_non (ea_cons ed_int ea_nil)))))))
            (eal_pair ed_int (ed_ixT (j := 0) (ds := ns.map .str) (ed_var (i := 3) rfl (.tup L12.cs (dfs_strs ns))) ed_int N0)
              (eal_pair (ed_var (i := 7) (d := .int (M : Nat)) rfl (.int _)) (ed_ixT (j := 0) (ds := ns.map .str) (ed_var (i := 3) rfl (.tup L12.cs (dfs_strs ns))) ed_int N0)
              (eal_pair ed_int ed_str
              (eal_cons (ed_lst (ea_cons ed_int (ea_cons (ed_ixT (j := 0) (ds := ns.map .str) (ed_var (i := 3) rfl (.tup L12.cs (dfs_strs ns))) ed_int N0) ea_nil)) (by show 2 ≤ 100000; decide)) (fun q e => by rw [pair_eq] at e; simp at e)
              (eal_cons (ed_tup (ea_cons ed_bl (ea_cons (ed_ixT (j := 0) (ds := ns.map .str) (ed_var (i := 3) rfl (.tup L12.cs (dfs_strs ns))) ed_int N0) ea_nil)) (by show 2 ≤ 100000; decide)) (fun q e => by rw [pair_eq] at e; simp at e)
              (eal_cons (ed_tup (ea_cons ed_int ea_nil) (by show 1 ≤ 100000; decide)) (fun q e => by rw [pair_eq] at e; simp at e)
              (eal_cons ed_non (fun q e => by rw [pair_eq] at e; simp at e)
              (eal_cons (ed_tup (ea_cons ed_int (ea_cons ed_non ea_nil)) (by show 2 ≤ 100000; decide)) (fun q e => by rw [pair_eq] at e; simp at e)
              (eal_pair (ed_sub (ed_var (i := 7) (d := .int (M : Nat)) rfl (.int _)) ed_int) (ed_ixTm (ds := ns.map .str) (ed_var (i := 3) rfl (.tup L12.cs (dfs_strs ns))) ed_neg (by rw [List.length_map]; exact nl1) NZ) eal_nil)))))))))
            (by show 6 ≤ 1000; decide) (by show 7 ≤ 1000; decide) (by show 9 ≤ 1000; decide) fun sl s0 s1 s2 v0 v1 v2 H28 s28 es e0 e1 e2 a0 a1 a2 lv => ?_)
          dsimp only [gName]
          have L13 := L12.same s28
          have B13 := B12.same L12.pen s28
          obtain ⟨x0, x1, x2, q0, q1, q2, eb, ed, nbd, ⟨c0, k0⟩, ⟨c1, k1⟩, c2, k2, l2⟩ := B13
          have ebl : H27 bl = some (.lst [x0, x1, x2]) := by
            obtain ⟨y0, y1, y2, _, _, _, eb', _⟩ := B12
            exact eb'.trans ((s28 _ _ eb').symm.trans eb)
          have toF : ∀ a, Fr (fun a => a ≠ bl) H27 a → a ≠ bl := fun a z => z.elim id fun (z : H27 a = none) (e : a = bl) => by rw [e, ebl] at z; cases z
          replace a0 := dfs_mono (Same.refl _) toF a0
          replace a1 := dfs_mono (Same.refl _) toF a1
          replace a2 := dfs_mono (Same.refl _) toF a2
          clear L12 B12 s28 toF
          refine ⟨fun σ' H' => ∃ o20, σ' = [some (.ref a), some (.ref p), some (.int (0 + (i : Nat))), some (.ref cs), some (.ref mm), some (.ref ra), some (.ref mk), some (.int (M : Int)), o8, some (.ref lh), some (.ref b), some (ov), some (.int (0 + (j : Nat))), o13, o14, o15, o16, some (v), some (.ref bl), some (.ref dl), o20, some (.ref sl)] ∧ Lap K F T.C_Machine p c b mm cs tb (.ref ra) (.ref mk) ns rs ps qs (100000 * i + 2000 + 100 * j + 50) H' ∧ BS K bl dl cs (.ref ra) (.ref mk) H', ?_, ?_⟩
          · have P13 := L13.pen
            have nFn : ¬ (H28 bl = none) := fun z => by rw [eb] at z; cases z
            have w0 : v0.length = 6 := dfs_len a0
            have w1 : v1.length = 7 := dfs_len a1
            have w2 : v2.length = 9 := dfs_len a2
            have fin : ∀ y0 y1 y2 e0 e1 e2 (H31 : Hp), But p H28 H31 → Pen p c (100000 * i + 2000 + 100 * j + 1 + 5) H31 → BX K bl H31 y0 e0 → OkD e0 → BX K bl H31 y1 e1 → OkD e1 → BX K bl H31 y2 e2 → OkD e2 → LvB K bl H31 y2 e2 → Lap K F T.C_Machine p c b mm cs tb (.ref ra) (.ref mk) ns rs ps qs (100000 * i + 2000 + 100 * j + 50) (upd H31 bl (.lst [y0, y1, y2])) ∧ BS K bl dl cs (.ref ra) (.ref mk) (upd H31 bl (.lst [y0, y1, y2])) := fun y0 y1 y2 f0 f1 f2 H31 b31 P31 g0 j0 g1 j1 g2 j2 m2 => by
              have L14 := (L13.but b31 P31).more (k := 100000 * i + 2000 + 100 * j + 50) (by omega)
              have eb31 := b31 _ _ (P13.ne eb (fun _ z => nomatch z)) eb
              have ed31 := b31 _ _ (P13.ne ed (fun _ z => nomatch z)) ed
              exact ⟨L14.lst eb31 nFb nbc, BS.set L14.pen eb31 ed31 nbd g0 j0 g1 j1 g2 j2 m2⟩
            have wi : d = 0 ∨ d = 1 ∨ d = 2 := by omega
            clear d0 d3 ebl
            rcases wi with rfl | rfl | rfl
            · refine ⟨_, rfl, _, rfl, _, rfl, .inl ⟨dl, _, _, .ref cs, rfl, rfl, .of ed, atI_nat (j := 0) rfl, _, rfl, _, rfl, .inl ⟨sl, _, _, .ref s0, rfl, rfl, .of es, atI_nat (j := 0) rfl, p, c, cs, s0, _, ns.map V.str, v0, rfl, P13, L13.cs, .of e0, by omega, by omega, by rw [List.length_map]; omega, by omega, fun y H31 b31 P31 hB => ?_⟩⟩⟩
              have kl : KlF (fun a => a ≠ bl) p H28 H31 := .but b31
              obtain ⟨dy, by1, by2, _⟩ := bent_of (m := 0) (n := 122) false nFn hB (its_plain (dfs_strs ns) (P13.dfsF kl a0) (fun d hd => by
                obtain ⟨x, hx, rfl⟩ := List.mem_map.mp hd
                exact nice_str (nA x hx) (by decide)) (fun d hd => by
                simp only [List.mem_cons, List.not_mem_nil, or_false] at hd
                rcases hd with rfl | rfl | rfl | rfl | rfl | rfl
                · exact (nice_str (k := 1) (as_of (by decide +kernel)) (by decide)).more (by decide) (by decide)
                · exact (nice_str (k := 1) (as_of (by decide +kernel)) (by decide)).more (by decide) (by decide)
                · exact nice_none.more (by decide) (by decide)
                · exact nA0
                · exact (nice_str (k := 3) (as_of (by decide +kernel)) (by decide)).more (by decide) (by decide)
                · exact (nice_nat (by decide)).more (by decide) (by decide))) (by decide) (by decide) (by rw [List.length_map]; omega)
              exact ⟨_, rfl, _, rfl, bl, _, 0, 0, rfl, rfl, b31 _ _ (P13.ne eb (fun _ z => nomatch z)) eb, rfl, _, rfl, fin y x1 x2 _ _ _ H31 b31 P31 by1 by2 (c1.kl P13 kl) k1 (c2.kl P13 kl) k2 (l2.kl P13 kl)⟩
            · obtain ⟨rvs2, hrs2, hrr2⟩ : ∃ vs, SqT K H28 ra vs ∧ DpAll K H28 vs (rowsL rs) := by
                have z := df_dp L13.rv
                cases z with
                | tup hs hr => exact ⟨_, hs, hr⟩
              refine ⟨_, rfl, _, rfl, _, rfl, .inl ⟨dl, _, _, .ref ra, rfl, rfl, .of ed, atI_nat (j := 1) rfl, _, rfl, _, rfl, .inl ⟨sl, _, _, .ref s1, rfl, rfl, .of es, atI_nat (j := 1) rfl, p, c, ra, s1, _, rvs2, v1, rfl, P13, hrs2, .of e1, by omega, by omega, by rw [dps_len hrr2, lenR]; omega, by omega, fun y H31 b31 P31 hB => ?_⟩⟩⟩
              have kl : KlF (fun a => a ≠ bl) p H28 H31 := .but b31
              obtain ⟨dy, by1, by2, _⟩ := bent_of (m := 1) (n := 60) false nFn hB (its_plain (P13.dfsF kl (dfs_rowsF hrr2)) (P13.dfsF kl a1) (fun d hd => by
                obtain ⟨r, hr, rfl⟩ := List.mem_map.mp hd
                have b2 := ok.row r hr
                refine nice_t7 (fun y hy => ?_) (by rw [List.length_map]; omega)
                obtain ⟨z, hz, rfl⟩ := List.mem_map.mp hy
                have := b2.2 z hz
                exact (nice_nat (by omega)).more (Nat.le_refl _) (by decide)) (fun d hd => by
                simp only [List.mem_cons, List.not_mem_nil, or_false] at hd
                rcases hd with rfl | rfl | rfl | rfl | rfl | rfl | rfl
                · exact nice_t7 nr0 (by omega)
                · exact nice_l7 nr0 (by show (r0.map PyData.int).length ≤ 7; omega)
                · exact nice_1 ((nice_nat (by decide)).more (by decide) (by decide))
                · exact nice_rep ((nice_nat (by omega)).more (by decide) (by decide)) (by omega)
                · exact nice_rep (nice_bool true) (by omega)
                · exact nice_none.more (by decide) (by decide)
                · exact (nice_nat (by decide)).more (by decide) (by decide))) (by decide) (by decide) (by rw [dps_len hrr2, lenR]; omega)
              exact ⟨_, rfl, _, rfl, bl, _, 1, 1, rfl, rfl, b31 _ _ (P13.ne eb (fun _ z => nomatch z)) eb, rfl, _, rfl, fin x0 y x2 _ _ _ H31 b31 P31 (c0.kl P13 kl) k0 by1 by2 (c2.kl P13 kl) k2 (l2.kl P13 kl)⟩
            · obtain ⟨mk2, ks2, em2, hs2, hks2, hka2⟩ := id L13.mv
              cases em2
              have lk2 : ks2.length = ps.length := by
                have := congrArg List.length hks2
                rw [List.length_map, List.length_map] at this; exact this
              refine ⟨_, rfl, _, rfl, _, rfl, .inl ⟨dl, _, _, .ref mk, rfl, rfl, .of ed, atI_nat (j := 2) rfl, _, rfl, _, rfl, .inl ⟨sl, _, _, .ref s2, rfl, rfl, .of es, atI_nat (j := 2) rfl, p, c, mk, s2, _, _, v2, rfl, P13, hs2, .of e2, by omega, by omega, by rw [List.length_map]; omega, by omega, fun y H31 b31 P31 hB => ?_⟩⟩⟩
              have kl : KlF (fun a => a ≠ bl) p H28 H31 := .but b31
              obtain ⟨dy, by1, by2, by3⟩ := bent_of (m := 1) (n := 260) true nFn hB (its_live hks2 (fun z hz => b31 _ _ (P13.ne (hka2 z hz) (fun _ z => nomatch z)) (hka2 z hz)) (P13.dfsF kl a2) (lv.but P13 b31) (fun z hz => by
                obtain ⟨h0, h1, h2⟩ := okp z hz
                exact (nice_pair h0 (by omega) (nA _ h2)).more (by decide) (show 251 ≤ 260 by decide)) (fun d hd => by
                simp only [List.mem_cons, List.not_mem_nil, or_false] at hd
                rcases hd with rfl | rfl | rfl | rfl | rfl | rfl | rfl | rfl | rfl
                · exact nice_2 (a := .int 0) (b := .str n0) ((nice_nat (by decide)).more (by decide) (by decide)) nA0
                · exact nice_2 (a := .int (M : Nat)) (b := .str n0) ((nice_nat (by omega)).more (by decide) (by decide)) nA0
                · exact nice_2 (a := .int 0) (b := .str "zz") ((nice_nat (by decide)).more (by decide) (by decide)) ((nice_str (k := 2) (as_of (by decide +kernel)) (by decide)).more (by decide) (by decide))
                · exact nice_2l ((nice_nat (by decide)).more (by decide) (by decide)) nA0
                · exact nice_2 ((nice_bool true).more (by decide) (by decide)) nA0
                · exact (nice_1 ((nice_nat (by decide)).more (by decide) (by decide))).more (by decide) (by decide)
                · exact nice_none.more (by decide) (by decide)
                · exact nice_2 ((nice_nat (by decide)).more (by decide) (by decide)) (nice_none.more (by decide) (by decide))
                · exact nice_2 (a := .int ((M : Int) - 1)) (b := .str nz) ((nice_nat (by omega)).more (by decide) (by decide)) nAz)) (by decide) (by decide) (by rw [List.length_map]; omega)
              exact ⟨_, rfl, _, rfl, bl, _, 2, 2, rfl, rfl, b31 _ _ (P13.ne eb (fun _ z => nomatch z)) eb, rfl, _, rfl, fin x0 x1 y _ _ _ H31 b31 P31 (c0.kl P13 kl) k0 (c1.kl P13 kl) k1 by1 by2 (by3 rfl)⟩
          · rintro σ' H30 ⟨o20, rfl, L14, B14⟩
            clear L13 es e0 e1 e2 a0 a1 a2 lv eb ed c0 k0 c1 k1 c2 k2 l2 ebl x0 x1 x2 q0 q1 q2 v0 v1 v2
            obtain ⟨x0, x1, x2, q0, q1, q2, eb, ed, nbd, ⟨c0, k0⟩, ⟨c1, k1⟩, c2, k2, l2⟩ := id B14
            obtain ⟨sd, se⟩ := due_shaped k0.as k1.as k2.as
            refine if_same (d := dueD q0 q1 q2) (e := dueD q0 q1 q2) (fun H1 => ExtN H30 H1 ∧ Tabs (TB1 tb) H1) (fun Q q => ⟨L14.tab, fun H1 ext t1 Q' hQ => ?_⟩) (fun H1 ⟨e1, t1⟩ Q q => ?_) sd sd se fun H1 H31 ⟨e1, t1⟩ s => ?_
            · have el1 := ext _ _ eb (fun _ z => nomatch z)
              have kl : KlF (fun a => a ≠ bl) p H30 H1 := .ext ext
              have c0 := c0.kl L14.pen kl
              have c1 := c1.kl L14.pen kl
              have c2 := c2.kl L14.pen kl
              have l2 := l2.kl L14.pen kl
              refine ⟨_, rfl, .inl ⟨bl, _, _, x0, rfl, rfl, .of el1, atI_nat (j := 0) rfl, _, rfl, .inl ⟨bl, _, _, x1, rfl, rfl, .of el1, atI_nat (j := 1) rfl, _, rfl, .inl ⟨bl, _, _, x2, rfl, rfl, .of el1, atI_nat (j := 2) rfl, ?_⟩⟩⟩⟩
              intro x dx hx hdx nx
              have s1 : Same H1 (upd (upd H1 dx (.own x)) x (.ins T.C_Machine dx [])) := (Same.newA hdx).trans (Same.newA (by rw [upd_ne (Ne.symm nx)]; exact hx))
              refine ⟨x, dx, x0, x1, x2, q0, q1, q2, rfl, upd_same, ⟨c0.dx.mono s1, k0.g⟩, ⟨c1.dx.mono s1, k1.g⟩, ⟨c2.dx.mono s1, k2.g, l2.live.same s1⟩, fun h1 d' H' s' hd' e' => ?_, fun h1 h2 d' H' s' hd' e' => ?_, fun ms h1 h2 e3 h3 d' H' s' hd' e' => ?_, fun ms ts us H' h1 h2 h3 e1 e2 e3 _ bt _ => ⟨rfl, hQ _ _ (q _ _ ⟨fun z o ez nz => ?_, fun z hz => (t1 z hz).ext fun u o e => ?_⟩ ?_)⟩⟩
              · exact ⟨x0, "calls", q0, d', rfl, (c0.dx.mono s1).mono s', k0.sh, .inr ⟨rfl, e', fun p2 H2 s2 e2 => q _ H2 ⟨ext.trans (.of (s1.trans (s'.trans s2))), fun z hz => (t1 z hz).ext (s1.trans (s'.trans s2))⟩ (by rw [due_calls h1]; exact lst_told e2)⟩⟩
              · exact ⟨x1, "rows", q1, d', rfl, (c1.dx.mono s1).mono s', k1.sh, .inr ⟨rfl, e', fun p2 H2 s2 e2 => q _ H2 ⟨ext.trans (.of (s1.trans (s'.trans s2))), fun z hz => (t1 z hz).ext (s1.trans (s'.trans s2))⟩ (by rw [due_rows h1 h2]; exact lst_told e2)⟩⟩
              · exact ⟨x2, "marks", q2, d', rfl, (c2.dx.mono s1).mono s', k2.sh, .inr ⟨rfl, e', fun p2 H2 s2 e2 => q _ H2 ⟨ext.trans (.of (s1.trans (s'.trans s2))), fun z hz => (t1 z hz).ext (s1.trans (s'.trans s2))⟩ (by rw [due_marks h1 h2 e3 h3]; exact lst_told e2)⟩⟩
              · have := ext _ _ ez nz
                exact bt _ _ (ne_of_none this hx) (s1 _ _ this)
              · exact bt _ _ (ne_of_none e hx) (s1 _ _ e)
              · rw [due_ok h1 h2 e1 h3]; exact .non
            · have el1 := e1 _ _ eb (fun _ z => nomatch z)
              have kl : KlF (fun a => a ≠ bl) p H30 H1 := .ext e1
              have c0 := c0.kl L14.pen kl
              have c1 := c1.kl L14.pen kl
              have c2 := c2.kl L14.pen kl
              exact ⟨_, rfl, .inl ⟨bl, _, _, x0, rfl, rfl, .of el1, atI_nat (j := 0) rfl, _, rfl, .inl ⟨bl, _, _, x1, rfl, rfl, .of el1, atI_nat (j := 1) rfl, _, rfl, .inl ⟨bl, _, _, x2, rfl, rfl, .of el1, atI_nat (j := 2) rfl, x0, x1, x2, q0, q1, q2, rfl, ⟨c0.dx, k0.g, k0.sh⟩, ⟨c1.dx, k1.g, k1.sh⟩, ⟨c2.dx, k2.g, k2.sh⟩, k2.pl, fun u H2 s2 hu => q u H2 s2 hu⟩⟩⟩⟩
            · have L15 := (L14.ext e1 t1).same s
              have B15 := (B14.ext L14.pen e1).same (L14.ext e1 t1).pen s
              clear L14 B14 eb ed c0 k0 c1 k1 c2 k2 l2 sd se e1 t1 s x0 x1 x2 q0 q1 q2
              dsimp only [tNext]
              refine ⟨_, rfl, p, c, 2, _, rfl, L15.pen, by decide, by decide, by omega, fun d0 H32 _ _ b32 P32 => ⟨rfl, _, rfl, ite2 (fun _ => ?_) fun _ => ?_⟩⟩
              · have L16 := (L15.but b32 P32).more (k := 100000 * i + 2000 + 100 * (j + 1)) (by omega)
                exact ⟨_, rfl, _, _, _, bl, F, rfl, L16, nFb, nbc, B15.but L15.pen b32⟩
              · have L16 := (L15.but b32 P32).more (k := 100000 * i + 2000 + 100 * (j + 1)) (by omega)
                obtain ⟨_, _, _, _, _, _, _, ed, _⟩ := B15.but L15.pen b32
                refine ⟨_, rfl, _, rfl, _, rfl, (by show 3 ≤ sizeLine; decide), fun bl2 hbl2 => ?_⟩
                have s3 := Same.newA (o := .lst [.ref cs, .ref ra, .ref mk]) hbl2
                have L17 := L16.base.same s3
                exact ⟨_, _, _, bl2, nn H32, rfl, L17, fun z => z hbl2, L16.pen.ne_c hbl2, BS.init L17 upd_same (s3 _ _ ed) (Ne.symm (ne_of_none ed hbl2)) okc okr okm⟩
        · rintro σ' H26 ⟨o12, o20, o21, bl, F, rfl, L11, _⟩
          exact ⟨_, _, _, _, _, _, _, _, _, _, _, _, _, _, _, _, _, _, _, _, rfl, L11.pen.more (by omega), L11.tab⟩
  · rintro σ' H' ⟨o2, o3, o4, o5, o6, o7, o8, o9, o10, o11, o12, o13, o14, o15, o16, o17, o18, o19, o20, o21, rfl, P2, T2⟩
    rfl
end
end Ag

set_option Elab.async false
set_option linter.all false
set_option maxRecDepth 100000
set_option maxHeartbeats 0
namespace Ag
open PySem PySem.Spec PyProof.Rows L2
/-! ### a table with text keys, as written -/
def TabOf : List DictEntry → List (Str × Int) → Prop
  | [], [] => True
  | e :: r, q :: s => (∃ t u, e.key = .str q.1 t ∧ e.val = .int q.2 u) ∧ TabOf r s
  | _, _ => False
theorem tab_find : ∀ {es : List DictEntry} {kvs : List (Str × Int)} (z : Str), TabOf es kvs → es.any (·.refKey) = false ∧ ((∃ i e u, (z, i) ∈ kvs ∧ (∀ j, kvs.lookup z = some j → j = i) ∧ es.find? (·.key.isStr z) = some e ∧ e.val = .int i u) ∨ (z ∉ kvs.map (·.1) ∧ es.find? (·.key.isStr z) = none))
  | [], [], z, _ => ⟨rfl, .inr ⟨by simp, rfl⟩⟩
  | e :: r, q :: s, z, ⟨⟨t, u, h1, h2⟩, h⟩ => by
    obtain ⟨a, b⟩ := tab_find z h
    have hr : e.refKey = false := by unfold DictEntry.refKey; rw [h1]
    refine ⟨by rw [List.any_cons, hr, a]; rfl, ?_⟩
    have hs : e.key.isStr z = (q.1 == z) := by rw [h1]; rfl
    by_cases hz : q.1 = z
    · refine .inl ⟨q.2, e, u, ?_, fun j hj => ?_, ?_, h2⟩
      · rw [← hz]; exact List.mem_cons_self
      · obtain ⟨q1, q2⟩ := q
        simp only at hz; subst hz
        simp at hj; exact hj.symm
      · rw [List.find?_cons, hs, beq_iff_eq.mpr hz]
    · have hf : (q.1 == z) = false := beq_eq_false_iff_ne.mpr hz
      have hf2 : (z == q.1) = false := beq_eq_false_iff_ne.mpr fun w => hz w.symm
      rcases b with ⟨i, e2, u2, m, l, f, v⟩ | ⟨m, f⟩
      · refine .inl ⟨i, e2, u2, List.mem_cons_of_mem _ m, fun j hj => l j ?_, ?_, v⟩
        · obtain ⟨q1, q2⟩ := q
          simp only at hf2
          rw [List.lookup_cons, hf2] at hj; exact hj
        · rw [List.find?_cons, hs, hf]; exact f
      · refine .inr ⟨?_, ?_⟩
        · rw [List.map_cons, List.mem_cons]; rintro (w | w)
          · exact hz w.symm
          · exact m w
        · rw [List.find?_cons, hs, hf]; exact f
section
variable {w : World} {K : PySem.W.Frag} {a : Addr} {es : Array DictEntry} {n : Nat} {kvs : List (Str × Int)}
theorem tab_in (l : K.lookup a = some ⟨.type "dict", none, .dict es n, #[]⟩) (t : TabOf es.toList kvs) (z : Str) : ∃ r, PySem.W.nsIn K a z = some r ∧ r.isSome = decide (z ∈ kvs.map (·.1)) := by
  obtain ⟨h1, h2⟩ := tab_find z t
  unfold PySem.W.nsIn
  rw [l]
  rcases h2 with ⟨i, e, u, m, _, f, v⟩ | ⟨m, f⟩
  · refine ⟨some e.val, ?_, ?_⟩
    · simp only [f]
    · exact (decide_eq_true (List.mem_map.mpr ⟨_, m, rfl⟩)).symm
  · refine ⟨none, ?_, (decide_eq_false m).symm⟩
    simp only [f, h1]; rfl
theorem tab_at (l : K.lookup a = some ⟨.type "dict", none, .dict es n, #[]⟩) (k : PySem.W.KeysLit w.params es.toList) (t : TabOf es.toList kvs) (nd : kvs.all (fun q => kvs.lookup q.1 == some q.2) = true) (z : Str) (i : Int) (hm : (z, i) ∈ kvs) : KDct K w a z (.int i) := by
  obtain ⟨h1, h2⟩ := tab_find z t
  have hl : kvs.lookup z = some i := by simpa using List.all_eq_true.mp nd _ hm
  rcases h2 with ⟨j, e, u, m, lk, f, v⟩ | ⟨m, f⟩
  · have := lk i hl; subst this
    refine ⟨es, n, e.val, l, k, ?_, u, v⟩
    unfold PySem.W.nsIn
    rw [l]
    simp only [f]
  · exact absurd (List.mem_map.mpr ⟨_, hm, rfl⟩) m
end
theorem binds_all {K : PySem.W.Frag} {fd : FuncData} {ps : List Str} (h : ∃ ds, Vals [] ds ∧ Binds K fd ps ds) : Binds K fd ps [] := by
  obtain ⟨ds, v, b⟩ := h
  cases v
  exact b
theorem all_mk {l : PySem.W.OpenLaw} {w : World} {K : PySem.W.Frag} {q : Program} {loose : List Str} {mean : ExcName → Option Value} {mg mb : Str → Option Value} {s : Shared} {d : DefRec} {fa cc tb : Addr} {xc : Value} {xo : Option Addr} {xs : Array (Option Value)} {vsx : Array Value} (TP : PyProof.Rows.Top q (PySem.W.looseW q loose) mean mg mb s.heap) (X : K.In s.heap)
    (hrec : (PyProof.Rows.recsOf q).find? (fun e => e.name == ("law" : Str)) = some d) (ntb : K.lookup tb = none) (hfa : mg "law" = some (.ref fa))
    {f0 : Addr} {od0 an0 : Option Addr} {sl0 : Array (Option Value)} {oc0 kV0 dc0 pm0 cd0 ct0 : Value}
    {dt0 : Addr} {odt0 : Option Addr} {nt0 : Nat} {slt0 : Array (Option Value)}
    {f1 : Addr} {od1 an1 : Option Addr} {sl1 : Array (Option Value)} {oc1 kV1 dc1 pm1 cd1 ct1 : Value}
    {f2 : Addr} {od2 an2 : Option Addr} {sl2 : Array (Option Value)} {oc2 kV2 dc2 pm2 cd2 ct2 : Value}
    {f3 : Addr} {od3 an3 : Option Addr} {sl3 : Array (Option Value)} {oc3 kV3 dc3 pm3 cd3 ct3 : Value}
    {f4 : Addr} {od4 an4 : Option Addr} {sl4 : Array (Option Value)} {oc4 kV4 dc4 pm4 cd4 ct4 : Value}
    {f5 : Addr} {od5 an5 : Option Addr} {sl5 : Array (Option Value)} {oc5 kV5 dc5 pm5 cd5 ct5 : Value}
    {f6 : Addr} {od6 an6 : Option Addr} {sl6 : Array (Option Value)} {oc6 kV6 dc6 pm6 cd6 ct6 : Value}
    {f7 : Addr} {od7 an7 : Option Addr} {sl7 : Array (Option Value)} {oc7 kV7 dc7 pm7 cd7 ct7 : Value}
    {f8 : Addr} {od8 an8 : Option Addr} {sl8 : Array (Option Value)} {oc8 kV8 dc8 pm8 cd8 ct8 : Value}
    {f9 : Addr} {od9 an9 : Option Addr} {sl9 : Array (Option Value)} {oc9 kV9 dc9 pm9 cd9 ct9 : Value}
    {f10 : Addr} {od10 an10 : Option Addr} {sl10 : Array (Option Value)} {oc10 kV10 dc10 pm10 cd10 ct10 : Value}
    {f11 : Addr} {od11 an11 : Option Addr} {sl11 : Array (Option Value)} {oc11 kV11 dc11 pm11 cd11 ct11 : Value}
    {f12 : Addr} {od12 an12 : Option Addr} {sl12 : Array (Option Value)} {oc12 kV12 dc12 pm12 cd12 ct12 : Value}
    {f13 : Addr} {od13 an13 : Option Addr} {sl13 : Array (Option Value)} {oc13 kV13 dc13 pm13 cd13 ct13 : Value}
    {f14 : Addr} {od14 an14 : Option Addr} {sl14 : Array (Option Value)} {oc14 kV14 dc14 pm14 cd14 ct14 : Value}
    {f15 : Addr} {od15 an15 : Option Addr} {sl15 : Array (Option Value)} {oc15 kV15 dc15 pm15 cd15 ct15 : Value}
    {f16 : Addr} {od16 an16 : Option Addr} {sl16 : Array (Option Value)} {oc16 kV16 dc16 pm16 cd16 ct16 : Value}
    {f17 : Addr} {od17 an17 : Option Addr} {sl17 : Array (Option Value)} {oc17 kV17 dc17 pm17 cd17 ct17 : Value}
    {f18 : Addr} {od18 an18 : Option Addr} {sl18 : Array (Option Value)} {oc18 kV18 dc18 pm18 cd18 ct18 : Value}
    {f19 : Addr} {od19 an19 : Option Addr} {sl19 : Array (Option Value)} {oc19 kV19 dc19 pm19 cd19 ct19 : Value}
    {f20 : Addr} {od20 an20 : Option Addr} {sl20 : Array (Option Value)} {oc20 kV20 dc20 pm20 cd20 ct20 : Value}
    {f21 : Addr} {od21 an21 : Option Addr} {sl21 : Array (Option Value)} {oc21 kV21 dc21 pm21 cd21 ct21 : Value}
    {f22 : Addr} {od22 an22 : Option Addr} {sl22 : Array (Option Value)} {oc22 kV22 dc22 pm22 cd22 ct22 : Value}
    {f23 : Addr} {od23 an23 : Option Addr} {sl23 : Array (Option Value)} {oc23 kV23 dc23 pm23 cd23 ct23 : Value}
    {f24 : Addr} {od24 an24 : Option Addr} {sl24 : Array (Option Value)} {oc24 kV24 dc24 pm24 cd24 ct24 : Value}
    {f25 : Addr} {od25 an25 : Option Addr} {sl25 : Array (Option Value)} {oc25 kV25 dc25 pm25 cd25 ct25 : Value}
    {f26 : Addr} {od26 an26 : Option Addr} {sl26 : Array (Option Value)} {oc26 kV26 dc26 pm26 cd26 ct26 : Value}
    {CAgainError : Addr}
    {CBadText : Addr}
    {fBadText0 : Addr} {odBadText0 anBadText0 : Option Addr} {slBadText0 : Array (Option Value)} {ocBadText0 kVBadText0 dcBadText0 pmBadText0 cdBadText0 ctBadText0 : Value}
    {CBadNumber : Addr}
    {fBadNumber0 : Addr} {odBadNumber0 anBadNumber0 : Option Addr} {slBadNumber0 : Array (Option Value)} {ocBadNumber0 kVBadNumber0 dcBadNumber0 pmBadNumber0 cdBadNumber0 ctBadNumber0 : Value}
    {CBadRow : Addr}
    {fBadRow0 : Addr} {odBadRow0 anBadRow0 : Option Addr} {slBadRow0 : Array (Option Value)} {ocBadRow0 kVBadRow0 dcBadRow0 pmBadRow0 cdBadRow0 ctBadRow0 : Value}
    {CNoName : Addr}
    {fNoName0 : Addr} {odNoName0 anNoName0 : Option Addr} {slNoName0 : Array (Option Value)} {ocNoName0 kVNoName0 dcNoName0 pmNoName0 cdNoName0 ctNoName0 : Value}
    {CUnlike : Addr}
    {fUnlike0 : Addr} {odUnlike0 anUnlike0 : Option Addr} {slUnlike0 : Array (Option Value)} {ocUnlike0 kVUnlike0 dcUnlike0 pmUnlike0 cdUnlike0 ctUnlike0 : Value}
    {CTooMany : Addr}
    {fTooMany0 : Addr} {odTooMany0 anTooMany0 : Option Addr} {slTooMany0 : Array (Option Value)} {ocTooMany0 kVTooMany0 dcTooMany0 pmTooMany0 cdTooMany0 ctTooMany0 : Value}
    {CMachine : Addr}
    {fMachine0 : Addr} {odMachine0 anMachine0 : Option Addr} {slMachine0 : Array (Option Value)} {ocMachine0 kVMachine0 dcMachine0 pmMachine0 cdMachine0 ctMachine0 : Value}
    {fMachine1 : Addr} {odMachine1 anMachine1 : Option Addr} {slMachine1 : Array (Option Value)} {ocMachine1 kVMachine1 dcMachine1 pmMachine1 cdMachine1 ctMachine1 : Value}
    {fMachine2 : Addr} {odMachine2 anMachine2 : Option Addr} {slMachine2 : Array (Option Value)} {ocMachine2 kVMachine2 dcMachine2 pmMachine2 cdMachine2 ctMachine2 : Value}
    {fMachine3 : Addr} {odMachine3 anMachine3 : Option Addr} {slMachine3 : Array (Option Value)} {ocMachine3 kVMachine3 dcMachine3 pmMachine3 cdMachine3 ctMachine3 : Value}
    {fMachine4 : Addr} {odMachine4 anMachine4 : Option Addr} {slMachine4 : Array (Option Value)} {ocMachine4 kVMachine4 dcMachine4 pmMachine4 cdMachine4 ctMachine4 : Value}
    {fMachine5 : Addr} {odMachine5 anMachine5 : Option Addr} {slMachine5 : Array (Option Value)} {ocMachine5 kVMachine5 dcMachine5 pmMachine5 cdMachine5 ctMachine5 : Value}
    {fMachine6 : Addr} {odMachine6 anMachine6 : Option Addr} {slMachine6 : Array (Option Value)} {ocMachine6 kVMachine6 dcMachine6 pmMachine6 cdMachine6 ctMachine6 : Value}
    {tFIGURES : Tok}
    {tLETTERS : Tok}
    {tMOST_CALLS : Tok}
    (a0 : PySem.W.nsIn K mainGlobals "is_whole" = some (some (.ref f0)))
    (l0 : K.lookup f0 = some ⟨oc0, od0, .func (PySem.W.fnOf "is_whole" "is_whole" (defArgs s_is_whole) (defBody s_is_whole) (defScope s_is_whole) (.ref dt0) kV0 dc0 pm0 an0 cd0 ct0), sl0⟩)
    (c0 : PySem.W.codeIn K cd0 "is_whole" = true)
    (k0 : PySem.W.keepIn K (.ref f0) = true)
    (m0 : K.lookup dt0 = some ⟨.type "tuple", odt0, .seq #[.none] nt0, slt0⟩)
    (a1 : PySem.W.nsIn K mainGlobals "is_listed" = some (some (.ref f1)))
    (l1 : K.lookup f1 = some ⟨oc1, od1, .func (PySem.W.fnOf "is_listed" "is_listed" (defArgs s_is_listed) (defBody s_is_listed) (defScope s_is_listed) .none kV1 dc1 pm1 an1 cd1 ct1), sl1⟩)
    (c1 : PySem.W.codeIn K cd1 "is_listed" = true)
    (k1 : PySem.W.keepIn K (.ref f1) = true)
    (a2 : PySem.W.nsIn K mainGlobals "as_tuples" = some (some (.ref f2)))
    (l2 : K.lookup f2 = some ⟨oc2, od2, .func (PySem.W.fnOf "as_tuples" "as_tuples" (defArgs s_as_tuples) (defBody s_as_tuples) (defScope s_as_tuples) .none kV2 dc2 pm2 an2 cd2 ct2), sl2⟩)
    (c2 : PySem.W.codeIn K cd2 "as_tuples" = true)
    (k2 : PySem.W.keepIn K (.ref f2) = true)
    (a3 : PySem.W.nsIn K mainGlobals "is_name" = some (some (.ref f3)))
    (l3 : K.lookup f3 = some ⟨oc3, od3, .func (PySem.W.fnOf "is_name" "is_name" (defArgs s_is_name) (defBody s_is_name) (defScope s_is_name) .none kV3 dc3 pm3 an3 cd3 ct3), sl3⟩)
    (c3 : PySem.W.codeIn K cd3 "is_name" = true)
    (k3 : PySem.W.keepIn K (.ref f3) = true)
    (a4 : PySem.W.nsIn K mainGlobals "are_calls" = some (some (.ref f4)))
    (l4 : K.lookup f4 = some ⟨oc4, od4, .func (PySem.W.fnOf "are_calls" "are_calls" (defArgs s_are_calls) (defBody s_are_calls) (defScope s_are_calls) .none kV4 dc4 pm4 an4 cd4 ct4), sl4⟩)
    (c4 : PySem.W.codeIn K cd4 "are_calls" = true)
    (k4 : PySem.W.keepIn K (.ref f4) = true)
    (a5 : PySem.W.nsIn K mainGlobals "are_rows" = some (some (.ref f5)))
    (l5 : K.lookup f5 = some ⟨oc5, od5, .func (PySem.W.fnOf "are_rows" "are_rows" (defArgs s_are_rows) (defBody s_are_rows) (defScope s_are_rows) .none kV5 dc5 pm5 an5 cd5 ct5), sl5⟩)
    (c5 : PySem.W.codeIn K cd5 "are_rows" = true)
    (k5 : PySem.W.keepIn K (.ref f5) = true)
    (a6 : PySem.W.nsIn K mainGlobals "is_step" = some (some (.ref f6)))
    (l6 : K.lookup f6 = some ⟨oc6, od6, .func (PySem.W.fnOf "is_step" "is_step" (defArgs s_is_step) (defBody s_is_step) (defScope s_is_step) .none kV6 dc6 pm6 an6 cd6 ct6), sl6⟩)
    (c6 : PySem.W.codeIn K cd6 "is_step" = true)
    (k6 : PySem.W.keepIn K (.ref f6) = true)
    (a7 : PySem.W.nsIn K mainGlobals "are_marks" = some (some (.ref f7)))
    (l7 : K.lookup f7 = some ⟨oc7, od7, .func (PySem.W.fnOf "are_marks" "are_marks" (defArgs s_are_marks) (defBody s_are_marks) (defScope s_are_marks) .none kV7 dc7 pm7 an7 cd7 ct7), sl7⟩)
    (c7 : PySem.W.codeIn K cd7 "are_marks" = true)
    (k7 : PySem.W.keepIn K (.ref f7) = true)
    (a8 : PySem.W.nsIn K mainGlobals "_law_pen" = some (some (.ref f8)))
    (l8 : K.lookup f8 = some ⟨oc8, od8, .func (PySem.W.fnOf "_law_pen" "_law_pen" (defArgs s_law_pen) (defBody s_law_pen) (defScope s_law_pen) .none kV8 dc8 pm8 an8 cd8 ct8), sl8⟩)
    (c8 : PySem.W.codeIn K cd8 "_law_pen" = true)
    (k8 : PySem.W.keepIn K (.ref f8) = true)
    (a9 : PySem.W.nsIn K mainGlobals "_law_draw" = some (some (.ref f9)))
    (l9 : K.lookup f9 = some ⟨oc9, od9, .func (PySem.W.fnOf "_law_draw" "_law_draw" (defArgs s_law_draw) (defBody s_law_draw) (defScope s_law_draw) .none kV9 dc9 pm9 an9 cd9 ct9), sl9⟩)
    (c9 : PySem.W.codeIn K cd9 "_law_draw" = true)
    (k9 : PySem.W.keepIn K (.ref f9) = true)
    (a10 : PySem.W.nsIn K mainGlobals "_law_pick" = some (some (.ref f10)))
    (l10 : K.lookup f10 = some ⟨oc10, od10, .func (PySem.W.fnOf "_law_pick" "_law_pick" (defArgs s_law_pick) (defBody s_law_pick) (defScope s_law_pick) .none kV10 dc10 pm10 an10 cd10 ct10), sl10⟩)
    (c10 : PySem.W.codeIn K cd10 "_law_pick" = true)
    (k10 : PySem.W.keepIn K (.ref f10) = true)
    (a11 : PySem.W.nsIn K mainGlobals "_law_shuffled" = some (some (.ref f11)))
    (l11 : K.lookup f11 = some ⟨oc11, od11, .func (PySem.W.fnOf "_law_shuffled" "_law_shuffled" (defArgs s_law_shuffled) (defBody s_law_shuffled) (defScope s_law_shuffled) .none kV11 dc11 pm11 an11 cd11 ct11), sl11⟩)
    (c11 : PySem.W.codeIn K cd11 "_law_shuffled" = true)
    (k11 : PySem.W.keepIn K (.ref f11) = true)
    (a12 : PySem.W.nsIn K mainGlobals "_law_name" = some (some (.ref f12)))
    (l12 : K.lookup f12 = some ⟨oc12, od12, .func (PySem.W.fnOf "_law_name" "_law_name" (defArgs s_law_name) (defBody s_law_name) (defScope s_law_name) .none kV12 dc12 pm12 an12 cd12 ct12), sl12⟩)
    (c12 : PySem.W.codeIn K cd12 "_law_name" = true)
    (k12 : PySem.W.keepIn K (.ref f12) = true)
    (a13 : PySem.W.nsIn K mainGlobals "_law_names" = some (some (.ref f13)))
    (l13 : K.lookup f13 = some ⟨oc13, od13, .func (PySem.W.fnOf "_law_names" "_law_names" (defArgs s_law_names) (defBody s_law_names) (defScope s_law_names) .none kV13 dc13 pm13 an13 cd13 ct13), sl13⟩)
    (c13 : PySem.W.codeIn K cd13 "_law_names" = true)
    (k13 : PySem.W.keepIn K (.ref f13) = true)
    (a14 : PySem.W.nsIn K mainGlobals "_law_same" = some (some (.ref f14)))
    (l14 : K.lookup f14 = some ⟨oc14, od14, .func (PySem.W.fnOf "_law_same" "_law_same" (defArgs s_law_same) (defBody s_law_same) (defScope s_law_same) .none kV14 dc14 pm14 an14 cd14 ct14), sl14⟩)
    (c14 : PySem.W.codeIn K cd14 "_law_same" = true)
    (k14 : PySem.W.keepIn K (.ref f14) = true)
    (a15 : PySem.W.nsIn K mainGlobals "_law_is_whole" = some (some (.ref f15)))
    (l15 : K.lookup f15 = some ⟨oc15, od15, .func (PySem.W.fnOf "_law_is_whole" "_law_is_whole" (defArgs s_law_is_whole) (defBody s_law_is_whole) (defScope s_law_is_whole) .none kV15 dc15 pm15 an15 cd15 ct15), sl15⟩)
    (c15 : PySem.W.codeIn K cd15 "_law_is_whole" = true)
    (k15 : PySem.W.keepIn K (.ref f15) = true)
    (a16 : PySem.W.nsIn K mainGlobals "_law_go" = some (some (.ref f16)))
    (l16 : K.lookup f16 = some ⟨oc16, od16, .func (PySem.W.fnOf "_law_go" "_law_go" (defArgs s_law_go) (defBody s_law_go) (defScope s_law_go) .none kV16 dc16 pm16 an16 cd16 ct16), sl16⟩)
    (c16 : PySem.W.codeIn K cd16 "_law_go" = true)
    (k16 : PySem.W.keepIn K (.ref f16) = true)
    (a17 : PySem.W.nsIn K mainGlobals "_law_is_marked" = some (some (.ref f17)))
    (l17 : K.lookup f17 = some ⟨oc17, od17, .func (PySem.W.fnOf "_law_is_marked" "_law_is_marked" (defArgs s_law_is_marked) (defBody s_law_is_marked) (defScope s_law_is_marked) .none kV17 dc17 pm17 an17 cd17 ct17), sl17⟩)
    (c17 : PySem.W.codeIn K cd17 "_law_is_marked" = true)
    (k17 : PySem.W.keepIn K (.ref f17) = true)
    (a18 : PySem.W.nsIn K mainGlobals "_law_is_name" = some (some (.ref f18)))
    (l18 : K.lookup f18 = some ⟨oc18, od18, .func (PySem.W.fnOf "_law_is_name" "_law_is_name" (defArgs s_law_is_name) (defBody s_law_is_name) (defScope s_law_is_name) .none kV18 dc18 pm18 an18 cd18 ct18), sl18⟩)
    (c18 : PySem.W.codeIn K cd18 "_law_is_name" = true)
    (k18 : PySem.W.keepIn K (.ref f18) = true)
    (a19 : PySem.W.nsIn K mainGlobals "_law_calls" = some (some (.ref f19)))
    (l19 : K.lookup f19 = some ⟨oc19, od19, .func (PySem.W.fnOf "_law_calls" "_law_calls" (defArgs s_law_calls) (defBody s_law_calls) (defScope s_law_calls) .none kV19 dc19 pm19 an19 cd19 ct19), sl19⟩)
    (c19 : PySem.W.codeIn K cd19 "_law_calls" = true)
    (k19 : PySem.W.keepIn K (.ref f19) = true)
    (a20 : PySem.W.nsIn K mainGlobals "_law_some_word" = some (some (.ref f20)))
    (l20 : K.lookup f20 = some ⟨oc20, od20, .func (PySem.W.fnOf "_law_some_word" "_law_some_word" (defArgs s_law_some_word) (defBody s_law_some_word) (defScope s_law_some_word) .none kV20 dc20 pm20 an20 cd20 ct20), sl20⟩)
    (c20 : PySem.W.codeIn K cd20 "_law_some_word" = true)
    (k20 : PySem.W.keepIn K (.ref f20) = true)
    (a21 : PySem.W.nsIn K mainGlobals "_law_why" = some (some (.ref f21)))
    (l21 : K.lookup f21 = some ⟨oc21, od21, .func (PySem.W.fnOf "_law_why" "_law_why" (defArgs s_law_why) (defBody s_law_why) (defScope s_law_why) .none kV21 dc21 pm21 an21 cd21 ct21), sl21⟩)
    (c21 : PySem.W.codeIn K cd21 "_law_why" = true)
    (k21 : PySem.W.keepIn K (.ref f21) = true)
    (a22 : PySem.W.nsIn K mainGlobals "_law_marks_made" = some (some (.ref f22)))
    (l22 : K.lookup f22 = some ⟨oc22, od22, .func (PySem.W.fnOf "_law_marks_made" "_law_marks_made" (defArgs s_law_marks_made) (defBody s_law_marks_made) (defScope s_law_marks_made) .none kV22 dc22 pm22 an22 cd22 ct22), sl22⟩)
    (c22 : PySem.W.codeIn K cd22 "_law_marks_made" = true)
    (k22 : PySem.W.keepIn K (.ref f22) = true)
    (a23 : PySem.W.nsIn K mainGlobals "_law_wide_machine" = some (some (.ref f23)))
    (l23 : K.lookup f23 = some ⟨oc23, od23, .func (PySem.W.fnOf "_law_wide_machine" "_law_wide_machine" (defArgs s_law_wide_machine) (defBody s_law_wide_machine) (defScope s_law_wide_machine) .none kV23 dc23 pm23 an23 cd23 ct23), sl23⟩)
    (c23 : PySem.W.codeIn K cd23 "_law_wide_machine" = true)
    (k23 : PySem.W.keepIn K (.ref f23) = true)
    (a24 : PySem.W.nsIn K mainGlobals "_law_due" = some (some (.ref f24)))
    (l24 : K.lookup f24 = some ⟨oc24, od24, .func (PySem.W.fnOf "_law_due" "_law_due" (defArgs s_law_due) (defBody s_law_due) (defScope s_law_due) .none kV24 dc24 pm24 an24 cd24 ct24), sl24⟩)
    (c24 : PySem.W.codeIn K cd24 "_law_due" = true)
    (k24 : PySem.W.keepIn K (.ref f24) = true)
    (a25 : PySem.W.nsIn K mainGlobals "_law_bent" = some (some (.ref f25)))
    (l25 : K.lookup f25 = some ⟨oc25, od25, .func (PySem.W.fnOf "_law_bent" "_law_bent" (defArgs s_law_bent) (defBody s_law_bent) (defScope s_law_bent) .none kV25 dc25 pm25 an25 cd25 ct25), sl25⟩)
    (c25 : PySem.W.codeIn K cd25 "_law_bent" = true)
    (k25 : PySem.W.keepIn K (.ref f25) = true)
    (a26 : PySem.W.nsIn K mainGlobals "law" = some (some (.ref f26)))
    (l26 : K.lookup f26 = some ⟨oc26, od26, .func (PySem.W.fnOf "law" "law" (defArgs s_law) (defBody s_law) (defScope s_law) .none kV26 dc26 pm26 an26 cd26 ct26), sl26⟩)
    (c26 : PySem.W.codeIn K cd26 "law" = true)
    (k26 : PySem.W.keepIn K (.ref f26) = true)
    (gAgainError : PySem.W.nsIn K mainGlobals "AgainError" = some (some (.ref CAgainError)))
    (saAgainError : PySem.W.findIn K (.ref CAgainError) "__setattr__" = some (some (.builtin "object.__setattr__")))
    (kcAgainError : PySem.W.keepIn K (.ref CAgainError) = true)
    (hdAgainError : PySem.W.hasDictIn K CAgainError = true)
    (gaAgainError : PySem.W.findIn K (.ref CAgainError) "__getattribute__" = some (some (.builtin "BaseException.__getattribute__")))
    (ggAgainError : PySem.W.findIn K (.ref CAgainError) "__getattr__" = some none)
    (exAgainError : PySem.W.subIn K (.ref CAgainError) (.type "BaseException") = some true)
    (tyAgainError : PySem.W.typeIn K (.ref CAgainError) = some (.type "type"))
    (sbAgainError : PySem.W.subIn K (.ref CAgainError) (.ref CAgainError) = some true)
    (xlAgainError : ∃ nm q N bs bm sn sub ab col dd k0 k1 k2 k3 k5, K.lookup CAgainError = some (excClassObj nm q CAgainError N bs bm true sn sub ab col dd k0 k1 k2 k3 k5 "ValueError.__new__") ∧ PySem.HandSPX.refsVE bm = true)
    (gBadText : PySem.W.nsIn K mainGlobals "BadText" = some (some (.ref CBadText)))
    (aBadText0 : PySem.W.findIn K (.ref CBadText) "__init__" = some (some (.ref fBadText0)))
    (lBadText0 : K.lookup fBadText0 = some ⟨ocBadText0, odBadText0, .func (PySem.W.fnOf "__init__" "BadText.__init__" (defArgs s_BadText___init__) (defBody s_BadText___init__) (defScope s_BadText___init__) .none kVBadText0 dcBadText0 pmBadText0 anBadText0 cdBadText0 ctBadText0), slBadText0⟩)
    (cBadText0 : PySem.W.codeIn K cdBadText0 "BadText.__init__" = true)
    (kBadText0 : PySem.W.keepIn K (.ref fBadText0) = true)
    (tBadText0 : PySem.W.typeIn K (.ref fBadText0) = some (.type "function"))
    (nBadTextline : PySem.W.findIn K (.ref CBadText) "line" = some none)
    (nBadTextword : PySem.W.findIn K (.ref CBadText) "word" = some none)
    (saBadText : PySem.W.findIn K (.ref CBadText) "__setattr__" = some (some (.builtin "object.__setattr__")))
    (kcBadText : PySem.W.keepIn K (.ref CBadText) = true)
    (hdBadText : PySem.W.hasDictIn K CBadText = true)
    (gaBadText : PySem.W.findIn K (.ref CBadText) "__getattribute__" = some (some (.builtin "BaseException.__getattribute__")))
    (ggBadText : PySem.W.findIn K (.ref CBadText) "__getattr__" = some none)
    (exBadText : PySem.W.subIn K (.ref CBadText) (.type "BaseException") = some true)
    (tyBadText : PySem.W.typeIn K (.ref CBadText) = some (.type "type"))
    (sbBadText : PySem.W.subIn K (.ref CBadText) (.ref CBadText) = some true)
    (xlBadText : ∃ nm q N bs bm sn sub ab col dd k0 k1 k2 k3 k5, K.lookup CBadText = some (excClassObj nm q CBadText N bs bm true sn sub ab col dd k0 k1 k2 k3 k5 "ValueError.__new__") ∧ PySem.HandSPX.refsVE bm = true)
    (gBadNumber : PySem.W.nsIn K mainGlobals "BadNumber" = some (some (.ref CBadNumber)))
    (aBadNumber0 : PySem.W.findIn K (.ref CBadNumber) "__init__" = some (some (.ref fBadNumber0)))
    (lBadNumber0 : K.lookup fBadNumber0 = some ⟨ocBadNumber0, odBadNumber0, .func (PySem.W.fnOf "__init__" "BadNumber.__init__" (defArgs s_BadNumber___init__) (defBody s_BadNumber___init__) (defScope s_BadNumber___init__) .none kVBadNumber0 dcBadNumber0 pmBadNumber0 anBadNumber0 cdBadNumber0 ctBadNumber0), slBadNumber0⟩)
    (cBadNumber0 : PySem.W.codeIn K cdBadNumber0 "BadNumber.__init__" = true)
    (kBadNumber0 : PySem.W.keepIn K (.ref fBadNumber0) = true)
    (tBadNumber0 : PySem.W.typeIn K (.ref fBadNumber0) = some (.type "function"))
    (nBadNumberwhat : PySem.W.findIn K (.ref CBadNumber) "what" = some none)
    (nBadNumbernumber : PySem.W.findIn K (.ref CBadNumber) "number" = some none)
    (saBadNumber : PySem.W.findIn K (.ref CBadNumber) "__setattr__" = some (some (.builtin "object.__setattr__")))
    (kcBadNumber : PySem.W.keepIn K (.ref CBadNumber) = true)
    (hdBadNumber : PySem.W.hasDictIn K CBadNumber = true)
    (gaBadNumber : PySem.W.findIn K (.ref CBadNumber) "__getattribute__" = some (some (.builtin "BaseException.__getattribute__")))
    (ggBadNumber : PySem.W.findIn K (.ref CBadNumber) "__getattr__" = some none)
    (exBadNumber : PySem.W.subIn K (.ref CBadNumber) (.type "BaseException") = some true)
    (tyBadNumber : PySem.W.typeIn K (.ref CBadNumber) = some (.type "type"))
    (sbBadNumber : PySem.W.subIn K (.ref CBadNumber) (.ref CBadNumber) = some true)
    (xlBadNumber : ∃ nm q N bs bm sn sub ab col dd k0 k1 k2 k3 k5, K.lookup CBadNumber = some (excClassObj nm q CBadNumber N bs bm true sn sub ab col dd k0 k1 k2 k3 k5 "ValueError.__new__") ∧ PySem.HandSPX.refsVE bm = true)
    (gBadRow : PySem.W.nsIn K mainGlobals "BadRow" = some (some (.ref CBadRow)))
    (aBadRow0 : PySem.W.findIn K (.ref CBadRow) "__init__" = some (some (.ref fBadRow0)))
    (lBadRow0 : K.lookup fBadRow0 = some ⟨ocBadRow0, odBadRow0, .func (PySem.W.fnOf "__init__" "BadRow.__init__" (defArgs s_BadRow___init__) (defBody s_BadRow___init__) (defScope s_BadRow___init__) .none kVBadRow0 dcBadRow0 pmBadRow0 anBadRow0 cdBadRow0 ctBadRow0), slBadRow0⟩)
    (cBadRow0 : PySem.W.codeIn K cdBadRow0 "BadRow.__init__" = true)
    (kBadRow0 : PySem.W.keepIn K (.ref fBadRow0) = true)
    (tBadRow0 : PySem.W.typeIn K (.ref fBadRow0) = some (.type "function"))
    (nBadRowwhat : PySem.W.findIn K (.ref CBadRow) "what" = some none)
    (nBadRowrow : PySem.W.findIn K (.ref CBadRow) "row" = some none)
    (saBadRow : PySem.W.findIn K (.ref CBadRow) "__setattr__" = some (some (.builtin "object.__setattr__")))
    (kcBadRow : PySem.W.keepIn K (.ref CBadRow) = true)
    (hdBadRow : PySem.W.hasDictIn K CBadRow = true)
    (gaBadRow : PySem.W.findIn K (.ref CBadRow) "__getattribute__" = some (some (.builtin "BaseException.__getattribute__")))
    (ggBadRow : PySem.W.findIn K (.ref CBadRow) "__getattr__" = some none)
    (exBadRow : PySem.W.subIn K (.ref CBadRow) (.type "BaseException") = some true)
    (tyBadRow : PySem.W.typeIn K (.ref CBadRow) = some (.type "type"))
    (sbBadRow : PySem.W.subIn K (.ref CBadRow) (.ref CBadRow) = some true)
    (xlBadRow : ∃ nm q N bs bm sn sub ab col dd k0 k1 k2 k3 k5, K.lookup CBadRow = some (excClassObj nm q CBadRow N bs bm true sn sub ab col dd k0 k1 k2 k3 k5 "ValueError.__new__") ∧ PySem.HandSPX.refsVE bm = true)
    (gNoName : PySem.W.nsIn K mainGlobals "NoName" = some (some (.ref CNoName)))
    (aNoName0 : PySem.W.findIn K (.ref CNoName) "__init__" = some (some (.ref fNoName0)))
    (lNoName0 : K.lookup fNoName0 = some ⟨ocNoName0, odNoName0, .func (PySem.W.fnOf "__init__" "NoName.__init__" (defArgs s_NoName___init__) (defBody s_NoName___init__) (defScope s_NoName___init__) .none kVNoName0 dcNoName0 pmNoName0 anNoName0 cdNoName0 ctNoName0), slNoName0⟩)
    (cNoName0 : PySem.W.codeIn K cdNoName0 "NoName.__init__" = true)
    (kNoName0 : PySem.W.keepIn K (.ref fNoName0) = true)
    (tNoName0 : PySem.W.typeIn K (.ref fNoName0) = some (.type "function"))
    (nNoNamename : PySem.W.findIn K (.ref CNoName) "name" = some none)
    (saNoName : PySem.W.findIn K (.ref CNoName) "__setattr__" = some (some (.builtin "object.__setattr__")))
    (kcNoName : PySem.W.keepIn K (.ref CNoName) = true)
    (hdNoName : PySem.W.hasDictIn K CNoName = true)
    (gaNoName : PySem.W.findIn K (.ref CNoName) "__getattribute__" = some (some (.builtin "BaseException.__getattribute__")))
    (ggNoName : PySem.W.findIn K (.ref CNoName) "__getattr__" = some none)
    (exNoName : PySem.W.subIn K (.ref CNoName) (.type "BaseException") = some true)
    (tyNoName : PySem.W.typeIn K (.ref CNoName) = some (.type "type"))
    (sbNoName : PySem.W.subIn K (.ref CNoName) (.ref CNoName) = some true)
    (xlNoName : ∃ nm q N bs bm sn sub ab col dd k0 k1 k2 k3 k5, K.lookup CNoName = some (excClassObj nm q CNoName N bs bm true sn sub ab col dd k0 k1 k2 k3 k5 "ValueError.__new__") ∧ PySem.HandSPX.refsVE bm = true)
    (gUnlike : PySem.W.nsIn K mainGlobals "Unlike" = some (some (.ref CUnlike)))
    (aUnlike0 : PySem.W.findIn K (.ref CUnlike) "__init__" = some (some (.ref fUnlike0)))
    (lUnlike0 : K.lookup fUnlike0 = some ⟨ocUnlike0, odUnlike0, .func (PySem.W.fnOf "__init__" "Unlike.__init__" (defArgs s_Unlike___init__) (defBody s_Unlike___init__) (defScope s_Unlike___init__) .none kVUnlike0 dcUnlike0 pmUnlike0 anUnlike0 cdUnlike0 ctUnlike0), slUnlike0⟩)
    (cUnlike0 : PySem.W.codeIn K cdUnlike0 "Unlike.__init__" = true)
    (kUnlike0 : PySem.W.keepIn K (.ref fUnlike0) = true)
    (tUnlike0 : PySem.W.typeIn K (.ref fUnlike0) = some (.type "function"))
    (nUnlikewhat : PySem.W.findIn K (.ref CUnlike) "what" = some none)
    (saUnlike : PySem.W.findIn K (.ref CUnlike) "__setattr__" = some (some (.builtin "object.__setattr__")))
    (kcUnlike : PySem.W.keepIn K (.ref CUnlike) = true)
    (hdUnlike : PySem.W.hasDictIn K CUnlike = true)
    (gaUnlike : PySem.W.findIn K (.ref CUnlike) "__getattribute__" = some (some (.builtin "BaseException.__getattribute__")))
    (ggUnlike : PySem.W.findIn K (.ref CUnlike) "__getattr__" = some none)
    (exUnlike : PySem.W.subIn K (.ref CUnlike) (.type "BaseException") = some true)
    (tyUnlike : PySem.W.typeIn K (.ref CUnlike) = some (.type "type"))
    (sbUnlike : PySem.W.subIn K (.ref CUnlike) (.ref CUnlike) = some true)
    (xlUnlike : ∃ nm q N bs bm sn sub ab col dd k0 k1 k2 k3 k5, K.lookup CUnlike = some (excClassObj nm q CUnlike N bs bm true sn sub ab col dd k0 k1 k2 k3 k5 "ValueError.__new__") ∧ PySem.HandSPX.refsVE bm = true)
    (gTooMany : PySem.W.nsIn K mainGlobals "TooMany" = some (some (.ref CTooMany)))
    (aTooMany0 : PySem.W.findIn K (.ref CTooMany) "__init__" = some (some (.ref fTooMany0)))
    (lTooMany0 : K.lookup fTooMany0 = some ⟨ocTooMany0, odTooMany0, .func (PySem.W.fnOf "__init__" "TooMany.__init__" (defArgs s_TooMany___init__) (defBody s_TooMany___init__) (defScope s_TooMany___init__) .none kVTooMany0 dcTooMany0 pmTooMany0 anTooMany0 cdTooMany0 ctTooMany0), slTooMany0⟩)
    (cTooMany0 : PySem.W.codeIn K cdTooMany0 "TooMany.__init__" = true)
    (kTooMany0 : PySem.W.keepIn K (.ref fTooMany0) = true)
    (tTooMany0 : PySem.W.typeIn K (.ref fTooMany0) = some (.type "function"))
    (nTooManywhat : PySem.W.findIn K (.ref CTooMany) "what" = some none)
    (nTooManymany : PySem.W.findIn K (.ref CTooMany) "many" = some none)
    (nTooManylimit : PySem.W.findIn K (.ref CTooMany) "limit" = some none)
    (saTooMany : PySem.W.findIn K (.ref CTooMany) "__setattr__" = some (some (.builtin "object.__setattr__")))
    (kcTooMany : PySem.W.keepIn K (.ref CTooMany) = true)
    (hdTooMany : PySem.W.hasDictIn K CTooMany = true)
    (gaTooMany : PySem.W.findIn K (.ref CTooMany) "__getattribute__" = some (some (.builtin "BaseException.__getattribute__")))
    (ggTooMany : PySem.W.findIn K (.ref CTooMany) "__getattr__" = some none)
    (exTooMany : PySem.W.subIn K (.ref CTooMany) (.type "BaseException") = some true)
    (tyTooMany : PySem.W.typeIn K (.ref CTooMany) = some (.type "type"))
    (sbTooMany : PySem.W.subIn K (.ref CTooMany) (.ref CTooMany) = some true)
    (xlTooMany : ∃ nm q N bs bm sn sub ab col dd k0 k1 k2 k3 k5, K.lookup CTooMany = some (excClassObj nm q CTooMany N bs bm true sn sub ab col dd k0 k1 k2 k3 k5 "ValueError.__new__") ∧ PySem.HandSPX.refsVE bm = true)
    (gMachine : PySem.W.nsIn K mainGlobals "Machine" = some (some (.ref CMachine)))
    (aMachine0 : PySem.W.findIn K (.ref CMachine) "__init__" = some (some (.ref fMachine0)))
    (lMachine0 : K.lookup fMachine0 = some ⟨ocMachine0, odMachine0, .func (PySem.W.fnOf "__init__" "Machine.__init__" (defArgs s_Machine___init__) (defBody s_Machine___init__) (defScope s_Machine___init__) .none kVMachine0 dcMachine0 pmMachine0 anMachine0 cdMachine0 ctMachine0), slMachine0⟩)
    (cMachine0 : PySem.W.codeIn K cdMachine0 "Machine.__init__" = true)
    (kMachine0 : PySem.W.keepIn K (.ref fMachine0) = true)
    (iMachine0 : PySem.W.isFn K (.ref fMachine0) = true)
    (aMachine1 : PySem.W.findIn K (.ref CMachine) "__eq__" = some (some (.ref fMachine1)))
    (lMachine1 : K.lookup fMachine1 = some ⟨ocMachine1, odMachine1, .func (PySem.W.fnOf "__eq__" "Machine.__eq__" (defArgs s_Machine___eq__) (defBody s_Machine___eq__) (defScope s_Machine___eq__) .none kVMachine1 dcMachine1 pmMachine1 anMachine1 cdMachine1 ctMachine1), slMachine1⟩)
    (cMachine1 : PySem.W.codeIn K cdMachine1 "Machine.__eq__" = true)
    (kMachine1 : PySem.W.keepIn K (.ref fMachine1) = true)
    (iMachine1 : PySem.W.isFn K (.ref fMachine1) = true)
    (aMachine2 : PySem.W.findIn K (.ref CMachine) "need_state" = some (some (.ref fMachine2)))
    (lMachine2 : K.lookup fMachine2 = some ⟨ocMachine2, odMachine2, .func (PySem.W.fnOf "need_state" "Machine.need_state" (defArgs s_Machine_need_state) (defBody s_Machine_need_state) (defScope s_Machine_need_state) .none kVMachine2 dcMachine2 pmMachine2 anMachine2 cdMachine2 ctMachine2), slMachine2⟩)
    (cMachine2 : PySem.W.codeIn K cdMachine2 "Machine.need_state" = true)
    (kMachine2 : PySem.W.keepIn K (.ref fMachine2) = true)
    (iMachine2 : PySem.W.isFn K (.ref fMachine2) = true)
    (aMachine3 : PySem.W.findIn K (.ref CMachine) "go" = some (some (.ref fMachine3)))
    (lMachine3 : K.lookup fMachine3 = some ⟨ocMachine3, odMachine3, .func (PySem.W.fnOf "go" "Machine.go" (defArgs s_Machine_go) (defBody s_Machine_go) (defScope s_Machine_go) .none kVMachine3 dcMachine3 pmMachine3 anMachine3 cdMachine3 ctMachine3), slMachine3⟩)
    (cMachine3 : PySem.W.codeIn K cdMachine3 "Machine.go" = true)
    (kMachine3 : PySem.W.keepIn K (.ref fMachine3) = true)
    (iMachine3 : PySem.W.isFn K (.ref fMachine3) = true)
    (aMachine4 : PySem.W.findIn K (.ref CMachine) "is_marked" = some (some (.ref fMachine4)))
    (lMachine4 : K.lookup fMachine4 = some ⟨ocMachine4, odMachine4, .func (PySem.W.fnOf "is_marked" "Machine.is_marked" (defArgs s_Machine_is_marked) (defBody s_Machine_is_marked) (defScope s_Machine_is_marked) .none kVMachine4 dcMachine4 pmMachine4 anMachine4 cdMachine4 ctMachine4), slMachine4⟩)
    (cMachine4 : PySem.W.codeIn K cdMachine4 "Machine.is_marked" = true)
    (kMachine4 : PySem.W.keepIn K (.ref fMachine4) = true)
    (iMachine4 : PySem.W.isFn K (.ref fMachine4) = true)
    (aMachine5 : PySem.W.findIn K (.ref CMachine) "behind" = some (some (.ref fMachine5)))
    (lMachine5 : K.lookup fMachine5 = some ⟨ocMachine5, odMachine5, .func (PySem.W.fnOf "behind" "Machine.behind" (defArgs s_Machine_behind) (defBody s_Machine_behind) (defScope s_Machine_behind) .none kVMachine5 dcMachine5 pmMachine5 anMachine5 cdMachine5 ctMachine5), slMachine5⟩)
    (cMachine5 : PySem.W.codeIn K cdMachine5 "Machine.behind" = true)
    (kMachine5 : PySem.W.keepIn K (.ref fMachine5) = true)
    (iMachine5 : PySem.W.isFn K (.ref fMachine5) = true)
    (aMachine6 : PySem.W.findIn K (.ref CMachine) "marks_along" = some (some (.ref fMachine6)))
    (lMachine6 : K.lookup fMachine6 = some ⟨ocMachine6, odMachine6, .func (PySem.W.fnOf "marks_along" "Machine.marks_along" (defArgs s_Machine_marks_along) (defBody s_Machine_marks_along) (defScope s_Machine_marks_along) .none kVMachine6 dcMachine6 pmMachine6 anMachine6 cdMachine6 ctMachine6), slMachine6⟩)
    (cMachine6 : PySem.W.codeIn K cdMachine6 "Machine.marks_along" = true)
    (kMachine6 : PySem.W.keepIn K (.ref fMachine6) = true)
    (iMachine6 : PySem.W.isFn K (.ref fMachine6) = true)
    (nMachinecalls : PySem.W.findIn K (.ref CMachine) "calls" = some none)
    (nMachinerows : PySem.W.findIn K (.ref CMachine) "rows" = some none)
    (nMachinemarks : PySem.W.findIn K (.ref CMachine) "marks" = some none)
    (nMachine_place : PySem.W.findIn K (.ref CMachine) "_place" = some none)
    (nMachine_marked : PySem.W.findIn K (.ref CMachine) "_marked" = some none)
    (saMachine : PySem.W.findIn K (.ref CMachine) "__setattr__" = some (some (.builtin "object.__setattr__")))
    (kcMachine : PySem.W.keepIn K (.ref CMachine) = true)
    (hdMachine : PySem.W.hasDictIn K CMachine = true)
    (pgMachine : PySem.W.plainGet K CMachine Str.empty = true)
    (poMachine : PySem.W.plainOver K CMachine = true)
    (miMachine : PySem.W.makesIn K CMachine = true)
    (eaMachine : PySem.W.findIn K (.ref CMachine) "__class__" = some (some (.builtin "object.__class__")))
    (emMachine : PySem.W.mroIn K CMachine (.type "object") = some true)
    (eN : PySem.W.specialIn K (.builtin "object.__class__") "__get__" = some (some (.builtin "getset_descriptor.__get__")))
    (eT : PySem.W.takesIn K (.builtin "object.__class__") = some true)
    (xtkt_Machine : PySem.W.kitOne K (.type "tuple") (.ref CMachine) = some false)
    (xtst_Machine : PySem.W.subIn K (.type "tuple") (.ref CMachine) = some false)
    (kiMachineMachine : PySem.W.kitOne K (.ref CMachine) (.ref CMachine) = some true)
    (sbBadNumberBadText : PySem.W.subIn K (.ref CBadNumber) (.ref CBadText) = some false)
    (sbBadRowBadText : PySem.W.subIn K (.ref CBadRow) (.ref CBadText) = some false)
    (sbBadRowBadNumber : PySem.W.subIn K (.ref CBadRow) (.ref CBadNumber) = some false)
    (gFIGURES : PySem.W.nsIn K mainGlobals "FIGURES" = some (some (.str "0123456789" tFIGURES)))
    (gLETTERS : PySem.W.nsIn K mainGlobals "LETTERS" = some (some (.str "abcdefghijklmnopqrstuvwxyz" tLETTERS)))
    (gMOST_CALLS : PySem.W.nsIn K mainGlobals "MOST_CALLS" = some (some (.int 6 tMOST_CALLS)))
    (bisinstance : PySem.W.nsIn K mainGlobals "isinstance" = some none)
    (ball : PySem.W.nsIn K mainGlobals "all" = some none)
    (brange : PySem.W.nsIn K mainGlobals "range" = some none)
    (btuple : PySem.W.nsIn K mainGlobals "tuple" = some none)
    (bint : PySem.W.nsIn K mainGlobals "int" = some none)
    (bbool : PySem.W.nsIn K mainGlobals "bool" = some none)
    (blist : PySem.W.nsIn K mainGlobals "list" = some none)
    (bstr : PySem.W.nsIn K mainGlobals "str" = some none)
    (blen : PySem.W.nsIn K mainGlobals "len" = some none)
    (bsorted : PySem.W.nsIn K mainGlobals "sorted" = some none)
    (brepr : PySem.W.nsIn K mainGlobals "repr" = some none)
    (bzip : PySem.W.nsIn K mainGlobals "zip" = some none)
    (benumerate : PySem.W.nsIn K mainGlobals "enumerate" = some none)
    (bset : PySem.W.nsIn K mainGlobals "set" = some none)
    (hcd : cd26 = .ref cc) (lcc : K.lookup cc = some ⟨xc, xo, .fields vsx, xs⟩) (hv : (vsx[11]? : Option Value) = some (.ref tb)) :
    LawG l w K 63 mg fa s := by
  have G := TP.g
  have htb : PySem.W.tabIn K "law" = some (cc, tb) := by
    simp only [PySem.W.tabIn, a26, l26, PySem.W.fnOf, hcd, lcc, hv]
  have e : f26 = fa := Value.ref.inj (Option.some.inj ((PySem.W.mg_of X G a26).symm.trans hfa))
  subst e
  let T : Txt w K mg := {
    a_is_whole := f0
    d_is_whole := (PySem.W.fnOf "is_whole" "is_whole" (defArgs s_is_whole) (defBody s_is_whole) (defScope s_is_whole) (.ref dt0) kV0 dc0 pm0 an0 cd0 ct0)
    D_is_whole := ⟨⟨⟨oc0, od0, .ref dt0, kV0, dc0, pm0, an0, cd0, ct0, sl0, rfl, l0, c0, .inr ⟨by simp, dt0, _, [.none], nt0, rfl, m0, rfl, (.cons rfl .nil)⟩, .inl rfl⟩, k0⟩, PySem.W.mg_of X G a0, binds_all (FunD.binds1 (x := "is_whole") (qual := "is_whole") (params := defArgs s_is_whole) (body := defBody s_is_whole) (scope := defScope s_is_whole) (dvs := [.non]) (kws := []) (ps := ["value", "least", "most"]) ⟨⟨oc0, od0, .ref dt0, kV0, dc0, pm0, an0, cd0, ct0, sl0, rfl, l0, c0, .inr ⟨by simp, dt0, _, [.none], nt0, rfl, m0, rfl, (.cons rfl .nil)⟩, .inl rfl⟩, k0⟩ 3 1 (by simp) (by decide) fun T kV doc pm an cdv ct us its hu hi => match us, hu, its, hi with | [_, _, _], _, [_], _ => ⟨_, rfl, rfl⟩)⟩
    a_is_listed := f1
    d_is_listed := (PySem.W.fnOf "is_listed" "is_listed" (defArgs s_is_listed) (defBody s_is_listed) (defScope s_is_listed) .none kV1 dc1 pm1 an1 cd1 ct1)
    D_is_listed := ⟨fun_mk (st := s_is_listed) l1 c1 k1, PySem.W.mg_of X G a1, (fun_mk (x := "is_listed") (qual := "is_listed") (st := s_is_listed) l1 c1 k1).binds (ps := ["value"]) fun _ _ _ _ _ _ us hl => match us, hl with | [_], _ => rfl⟩
    a_as_tuples := f2
    d_as_tuples := (PySem.W.fnOf "as_tuples" "as_tuples" (defArgs s_as_tuples) (defBody s_as_tuples) (defScope s_as_tuples) .none kV2 dc2 pm2 an2 cd2 ct2)
    D_as_tuples := ⟨fun_mk (st := s_as_tuples) l2 c2 k2, PySem.W.mg_of X G a2, (fun_mk (x := "as_tuples") (qual := "as_tuples") (st := s_as_tuples) l2 c2 k2).binds (ps := ["value"]) fun _ _ _ _ _ _ us hl => match us, hl with | [_], _ => rfl⟩
    a_is_name := f3
    d_is_name := (PySem.W.fnOf "is_name" "is_name" (defArgs s_is_name) (defBody s_is_name) (defScope s_is_name) .none kV3 dc3 pm3 an3 cd3 ct3)
    D_is_name := ⟨fun_mk (st := s_is_name) l3 c3 k3, PySem.W.mg_of X G a3, (fun_mk (x := "is_name") (qual := "is_name") (st := s_is_name) l3 c3 k3).binds (ps := ["value"]) fun _ _ _ _ _ _ us hl => match us, hl with | [_], _ => rfl⟩
    a_are_calls := f4
    d_are_calls := (PySem.W.fnOf "are_calls" "are_calls" (defArgs s_are_calls) (defBody s_are_calls) (defScope s_are_calls) .none kV4 dc4 pm4 an4 cd4 ct4)
    D_are_calls := ⟨fun_mk (st := s_are_calls) l4 c4 k4, PySem.W.mg_of X G a4, (fun_mk (x := "are_calls") (qual := "are_calls") (st := s_are_calls) l4 c4 k4).binds (ps := ["value"]) fun _ _ _ _ _ _ us hl => match us, hl with | [_], _ => rfl⟩
    a_are_rows := f5
    d_are_rows := (PySem.W.fnOf "are_rows" "are_rows" (defArgs s_are_rows) (defBody s_are_rows) (defScope s_are_rows) .none kV5 dc5 pm5 an5 cd5 ct5)
    D_are_rows := ⟨fun_mk (st := s_are_rows) l5 c5 k5, PySem.W.mg_of X G a5, (fun_mk (x := "are_rows") (qual := "are_rows") (st := s_are_rows) l5 c5 k5).binds (ps := ["value", "width"]) fun _ _ _ _ _ _ us hl => match us, hl with | [_, _], _ => rfl⟩
    a_is_step := f6
    d_is_step := (PySem.W.fnOf "is_step" "is_step" (defArgs s_is_step) (defBody s_is_step) (defScope s_is_step) .none kV6 dc6 pm6 an6 cd6 ct6)
    D_is_step := ⟨fun_mk (st := s_is_step) l6 c6 k6, PySem.W.mg_of X G a6, (fun_mk (x := "is_step") (qual := "is_step") (st := s_is_step) l6 c6 k6).binds (ps := ["value", "calls", "many"]) fun _ _ _ _ _ _ us hl => match us, hl with | [_, _, _], _ => rfl⟩
    a_are_marks := f7
    d_are_marks := (PySem.W.fnOf "are_marks" "are_marks" (defArgs s_are_marks) (defBody s_are_marks) (defScope s_are_marks) .none kV7 dc7 pm7 an7 cd7 ct7)
    D_are_marks := ⟨fun_mk (st := s_are_marks) l7 c7 k7, PySem.W.mg_of X G a7, (fun_mk (x := "are_marks") (qual := "are_marks") (st := s_are_marks) l7 c7 k7).binds (ps := ["value", "calls", "many"]) fun _ _ _ _ _ _ us hl => match us, hl with | [_, _, _], _ => rfl⟩
    a_law_pen := f8
    d_law_pen := (PySem.W.fnOf "_law_pen" "_law_pen" (defArgs s_law_pen) (defBody s_law_pen) (defScope s_law_pen) .none kV8 dc8 pm8 an8 cd8 ct8)
    D_law_pen := ⟨fun_mk (st := s_law_pen) l8 c8 k8, PySem.W.mg_of X G a8, (fun_mk (x := "_law_pen") (qual := "_law_pen") (st := s_law_pen) l8 c8 k8).binds (ps := ["script"]) fun _ _ _ _ _ _ us hl => match us, hl with | [_], _ => rfl⟩
    a_law_draw := f9
    d_law_draw := (PySem.W.fnOf "_law_draw" "_law_draw" (defArgs s_law_draw) (defBody s_law_draw) (defScope s_law_draw) .none kV9 dc9 pm9 an9 cd9 ct9)
    D_law_draw := ⟨fun_mk (st := s_law_draw) l9 c9 k9, PySem.W.mg_of X G a9, (fun_mk (x := "_law_draw") (qual := "_law_draw") (st := s_law_draw) l9 c9 k9).binds (ps := ["pen", "many"]) fun _ _ _ _ _ _ us hl => match us, hl with | [_, _], _ => rfl⟩
    a_law_pick := f10
    d_law_pick := (PySem.W.fnOf "_law_pick" "_law_pick" (defArgs s_law_pick) (defBody s_law_pick) (defScope s_law_pick) .none kV10 dc10 pm10 an10 cd10 ct10)
    D_law_pick := ⟨fun_mk (st := s_law_pick) l10 c10 k10, PySem.W.mg_of X G a10, (fun_mk (x := "_law_pick") (qual := "_law_pick") (st := s_law_pick) l10 c10 k10).binds (ps := ["pen", "some"]) fun _ _ _ _ _ _ us hl => match us, hl with | [_, _], _ => rfl⟩
    a_law_shuffled := f11
    d_law_shuffled := (PySem.W.fnOf "_law_shuffled" "_law_shuffled" (defArgs s_law_shuffled) (defBody s_law_shuffled) (defScope s_law_shuffled) .none kV11 dc11 pm11 an11 cd11 ct11)
    D_law_shuffled := ⟨fun_mk (st := s_law_shuffled) l11 c11 k11, PySem.W.mg_of X G a11, (fun_mk (x := "_law_shuffled") (qual := "_law_shuffled") (st := s_law_shuffled) l11 c11 k11).binds (ps := ["pen", "some"]) fun _ _ _ _ _ _ us hl => match us, hl with | [_, _], _ => rfl⟩
    a_law_name := f12
    d_law_name := (PySem.W.fnOf "_law_name" "_law_name" (defArgs s_law_name) (defBody s_law_name) (defScope s_law_name) .none kV12 dc12 pm12 an12 cd12 ct12)
    D_law_name := ⟨fun_mk (st := s_law_name) l12 c12 k12, PySem.W.mg_of X G a12, (fun_mk (x := "_law_name") (qual := "_law_name") (st := s_law_name) l12 c12 k12).binds (ps := ["pen", "index"]) fun _ _ _ _ _ _ us hl => match us, hl with | [_, _], _ => rfl⟩
    a_law_names := f13
    d_law_names := (PySem.W.fnOf "_law_names" "_law_names" (defArgs s_law_names) (defBody s_law_names) (defScope s_law_names) .none kV13 dc13 pm13 an13 cd13 ct13)
    D_law_names := ⟨fun_mk (st := s_law_names) l13 c13 k13, PySem.W.mg_of X G a13, (fun_mk (x := "_law_names") (qual := "_law_names") (st := s_law_names) l13 c13 k13).binds (ps := ["pen", "many"]) fun _ _ _ _ _ _ us hl => match us, hl with | [_, _], _ => rfl⟩
    a_law_same := f14
    d_law_same := (PySem.W.fnOf "_law_same" "_law_same" (defArgs s_law_same) (defBody s_law_same) (defScope s_law_same) .none kV14 dc14 pm14 an14 cd14 ct14)
    D_law_same := ⟨fun_mk (st := s_law_same) l14 c14 k14, PySem.W.mg_of X G a14, (fun_mk (x := "_law_same") (qual := "_law_same") (st := s_law_same) l14 c14 k14).binds (ps := ["told", "due"]) fun _ _ _ _ _ _ us hl => match us, hl with | [_, _], _ => rfl⟩
    a_law_is_whole := f15
    d_law_is_whole := (PySem.W.fnOf "_law_is_whole" "_law_is_whole" (defArgs s_law_is_whole) (defBody s_law_is_whole) (defScope s_law_is_whole) .none kV15 dc15 pm15 an15 cd15 ct15)
    D_law_is_whole := ⟨fun_mk (st := s_law_is_whole) l15 c15 k15, PySem.W.mg_of X G a15, (fun_mk (x := "_law_is_whole") (qual := "_law_is_whole") (st := s_law_is_whole) l15 c15 k15).binds (ps := ["value", "least", "most"]) fun _ _ _ _ _ _ us hl => match us, hl with | [_, _, _], _ => rfl⟩
    a_law_go := f16
    d_law_go := (PySem.W.fnOf "_law_go" "_law_go" (defArgs s_law_go) (defBody s_law_go) (defScope s_law_go) .none kV16 dc16 pm16 an16 cd16 ct16)
    D_law_go := ⟨fun_mk (st := s_law_go) l16 c16 k16, PySem.W.mg_of X G a16, (fun_mk (x := "_law_go") (qual := "_law_go") (st := s_law_go) l16 c16 k16).binds (ps := ["machine", "state", "call"]) fun _ _ _ _ _ _ us hl => match us, hl with | [_, _, _], _ => rfl⟩
    a_law_is_marked := f17
    d_law_is_marked := (PySem.W.fnOf "_law_is_marked" "_law_is_marked" (defArgs s_law_is_marked) (defBody s_law_is_marked) (defScope s_law_is_marked) .none kV17 dc17 pm17 an17 cd17 ct17)
    D_law_is_marked := ⟨fun_mk (st := s_law_is_marked) l17 c17 k17, PySem.W.mg_of X G a17, (fun_mk (x := "_law_is_marked") (qual := "_law_is_marked") (st := s_law_is_marked) l17 c17 k17).binds (ps := ["machine", "state", "call"]) fun _ _ _ _ _ _ us hl => match us, hl with | [_, _, _], _ => rfl⟩
    a_law_is_name := f18
    d_law_is_name := (PySem.W.fnOf "_law_is_name" "_law_is_name" (defArgs s_law_is_name) (defBody s_law_is_name) (defScope s_law_is_name) .none kV18 dc18 pm18 an18 cd18 ct18)
    D_law_is_name := ⟨fun_mk (st := s_law_is_name) l18 c18 k18, PySem.W.mg_of X G a18, (fun_mk (x := "_law_is_name") (qual := "_law_is_name") (st := s_law_is_name) l18 c18 k18).binds (ps := ["value"]) fun _ _ _ _ _ _ us hl => match us, hl with | [_], _ => rfl⟩
    a_law_calls := f19
    d_law_calls := (PySem.W.fnOf "_law_calls" "_law_calls" (defArgs s_law_calls) (defBody s_law_calls) (defScope s_law_calls) .none kV19 dc19 pm19 an19 cd19 ct19)
    D_law_calls := ⟨fun_mk (st := s_law_calls) l19 c19 k19, PySem.W.mg_of X G a19, (fun_mk (x := "_law_calls") (qual := "_law_calls") (st := s_law_calls) l19 c19 k19).binds (ps := ["pen", "many"]) fun _ _ _ _ _ _ us hl => match us, hl with | [_, _], _ => rfl⟩
    a_law_some_word := f20
    d_law_some_word := (PySem.W.fnOf "_law_some_word" "_law_some_word" (defArgs s_law_some_word) (defBody s_law_some_word) (defScope s_law_some_word) .none kV20 dc20 pm20 an20 cd20 ct20)
    D_law_some_word := ⟨fun_mk (st := s_law_some_word) l20 c20 k20, PySem.W.mg_of X G a20, (fun_mk (x := "_law_some_word") (qual := "_law_some_word") (st := s_law_some_word) l20 c20 k20).binds (ps := ["pen", "calls", "most"]) fun _ _ _ _ _ _ us hl => match us, hl with | [_, _, _], _ => rfl⟩
    a_law_why := f21
    d_law_why := (PySem.W.fnOf "_law_why" "_law_why" (defArgs s_law_why) (defBody s_law_why) (defScope s_law_why) .none kV21 dc21 pm21 an21 cd21 ct21)
    D_law_why := ⟨fun_mk (st := s_law_why) l21 c21 k21, PySem.W.mg_of X G a21, (fun_mk (x := "_law_why") (qual := "_law_why") (st := s_law_why) l21 c21 k21).binds (ps := ["call"]) fun _ _ _ _ _ _ us hl => match us, hl with | [_], _ => rfl⟩
    a_law_marks_made := f22
    d_law_marks_made := (PySem.W.fnOf "_law_marks_made" "_law_marks_made" (defArgs s_law_marks_made) (defBody s_law_marks_made) (defScope s_law_marks_made) .none kV22 dc22 pm22 an22 cd22 ct22)
    D_law_marks_made := ⟨fun_mk (st := s_law_marks_made) l22 c22 k22, PySem.W.mg_of X G a22, (fun_mk (x := "_law_marks_made") (qual := "_law_marks_made") (st := s_law_marks_made) l22 c22 k22).binds (ps := ["machine", "state", "word"]) fun _ _ _ _ _ _ us hl => match us, hl with | [_, _, _], _ => rfl⟩
    a_law_wide_machine := f23
    d_law_wide_machine := (PySem.W.fnOf "_law_wide_machine" "_law_wide_machine" (defArgs s_law_wide_machine) (defBody s_law_wide_machine) (defScope s_law_wide_machine) .none kV23 dc23 pm23 an23 cd23 ct23)
    D_law_wide_machine := ⟨fun_mk (st := s_law_wide_machine) l23 c23 k23, PySem.W.mg_of X G a23, (fun_mk (x := "_law_wide_machine") (qual := "_law_wide_machine") (st := s_law_wide_machine) l23 c23 k23).binds (ps := ["pen", "calls", "many"]) fun _ _ _ _ _ _ us hl => match us, hl with | [_, _, _], _ => rfl⟩
    a_law_due := f24
    d_law_due := (PySem.W.fnOf "_law_due" "_law_due" (defArgs s_law_due) (defBody s_law_due) (defScope s_law_due) .none kV24 dc24 pm24 an24 cd24 ct24)
    D_law_due := ⟨fun_mk (st := s_law_due) l24 c24 k24, PySem.W.mg_of X G a24, (fun_mk (x := "_law_due") (qual := "_law_due") (st := s_law_due) l24 c24 k24).binds (ps := ["calls", "rows", "marks"]) fun _ _ _ _ _ _ us hl => match us, hl with | [_, _, _], _ => rfl⟩
    a_law_bent := f25
    d_law_bent := (PySem.W.fnOf "_law_bent" "_law_bent" (defArgs s_law_bent) (defBody s_law_bent) (defScope s_law_bent) .none kV25 dc25 pm25 an25 cd25 ct25)
    D_law_bent := ⟨fun_mk (st := s_law_bent) l25 c25 k25, PySem.W.mg_of X G a25, (fun_mk (x := "_law_bent") (qual := "_law_bent") (st := s_law_bent) l25 c25 k25).binds (ps := ["pen", "value", "some"]) fun _ _ _ _ _ _ us hl => match us, hl with | [_, _, _], _ => rfl⟩
    a_law := f26
    d_law := (PySem.W.fnOf "law" "law" (defArgs s_law) (defBody s_law) (defScope s_law) .none kV26 dc26 pm26 an26 cd26 ct26)
    D_law := ⟨fun_mk (st := s_law) l26 c26 k26, PySem.W.mg_of X G a26, (fun_mk (x := "law") (qual := "law") (st := s_law) l26 c26 k26).binds (ps := ["script"]) fun _ _ _ _ _ _ us hl => match us, hl with | [_], _ => rfl⟩
    C_AgainError := CAgainError
    g_AgainError := PySem.W.mg_of X G gAgainError
    ox_AgainError := ⟨xlAgainError, saAgainError, exAgainError, tyAgainError, kcAgainError⟩
    xf_AgainError := ⟨gaAgainError, ggAgainError, exAgainError, hdAgainError⟩
    sb_AgainError := sbAgainError
    C_BadText := CBadText
    g_BadText := PySem.W.mg_of X G gBadText
    a_BadText___init__ := fBadText0
    d_BadText___init__ := (PySem.W.fnOf "__init__" "BadText.__init__" (defArgs s_BadText___init__) (defBody s_BadText___init__) (defScope s_BadText___init__) .none kVBadText0 dcBadText0 pmBadText0 anBadText0 cdBadText0 ctBadText0)
    D_BadText___init__ := ⟨fun_mk (st := s_BadText___init__) lBadText0 cBadText0 kBadText0, (fun_mk (x := "__init__") (qual := "BadText.__init__") (st := s_BadText___init__) lBadText0 cBadText0 kBadText0).binds (ps := ["self", "line", "word"]) fun _ _ _ _ _ _ us hl => match us, hl with | [_, _, _], _ => rfl⟩
    ic_BadText := aBadText0
    ti_BadText := tBadText0
    na_BadText_line := nBadTextline
    na_BadText_word := nBadTextword
    ox_BadText := ⟨xlBadText, saBadText, exBadText, tyBadText, kcBadText⟩
    xf_BadText := ⟨gaBadText, ggBadText, exBadText, hdBadText⟩
    sb_BadText := sbBadText
    C_BadNumber := CBadNumber
    g_BadNumber := PySem.W.mg_of X G gBadNumber
    a_BadNumber___init__ := fBadNumber0
    d_BadNumber___init__ := (PySem.W.fnOf "__init__" "BadNumber.__init__" (defArgs s_BadNumber___init__) (defBody s_BadNumber___init__) (defScope s_BadNumber___init__) .none kVBadNumber0 dcBadNumber0 pmBadNumber0 anBadNumber0 cdBadNumber0 ctBadNumber0)
    D_BadNumber___init__ := ⟨fun_mk (st := s_BadNumber___init__) lBadNumber0 cBadNumber0 kBadNumber0, (fun_mk (x := "__init__") (qual := "BadNumber.__init__") (st := s_BadNumber___init__) lBadNumber0 cBadNumber0 kBadNumber0).binds (ps := ["self", "what", "number"]) fun _ _ _ _ _ _ us hl => match us, hl with | [_, _, _], _ => rfl⟩
    ic_BadNumber := aBadNumber0
    ti_BadNumber := tBadNumber0
    na_BadNumber_what := nBadNumberwhat
    na_BadNumber_number := nBadNumbernumber
    ox_BadNumber := ⟨xlBadNumber, saBadNumber, exBadNumber, tyBadNumber, kcBadNumber⟩
    xf_BadNumber := ⟨gaBadNumber, ggBadNumber, exBadNumber, hdBadNumber⟩
    sb_BadNumber := sbBadNumber
    C_BadRow := CBadRow
    g_BadRow := PySem.W.mg_of X G gBadRow
    a_BadRow___init__ := fBadRow0
    d_BadRow___init__ := (PySem.W.fnOf "__init__" "BadRow.__init__" (defArgs s_BadRow___init__) (defBody s_BadRow___init__) (defScope s_BadRow___init__) .none kVBadRow0 dcBadRow0 pmBadRow0 anBadRow0 cdBadRow0 ctBadRow0)
    D_BadRow___init__ := ⟨fun_mk (st := s_BadRow___init__) lBadRow0 cBadRow0 kBadRow0, (fun_mk (x := "__init__") (qual := "BadRow.__init__") (st := s_BadRow___init__) lBadRow0 cBadRow0 kBadRow0).binds (ps := ["self", "what", "row"]) fun _ _ _ _ _ _ us hl => match us, hl with | [_, _, _], _ => rfl⟩
    ic_BadRow := aBadRow0
    ti_BadRow := tBadRow0
    na_BadRow_what := nBadRowwhat
    na_BadRow_row := nBadRowrow
    ox_BadRow := ⟨xlBadRow, saBadRow, exBadRow, tyBadRow, kcBadRow⟩
    xf_BadRow := ⟨gaBadRow, ggBadRow, exBadRow, hdBadRow⟩
    sb_BadRow := sbBadRow
    C_NoName := CNoName
    g_NoName := PySem.W.mg_of X G gNoName
    a_NoName___init__ := fNoName0
    d_NoName___init__ := (PySem.W.fnOf "__init__" "NoName.__init__" (defArgs s_NoName___init__) (defBody s_NoName___init__) (defScope s_NoName___init__) .none kVNoName0 dcNoName0 pmNoName0 anNoName0 cdNoName0 ctNoName0)
    D_NoName___init__ := ⟨fun_mk (st := s_NoName___init__) lNoName0 cNoName0 kNoName0, (fun_mk (x := "__init__") (qual := "NoName.__init__") (st := s_NoName___init__) lNoName0 cNoName0 kNoName0).binds (ps := ["self", "name"]) fun _ _ _ _ _ _ us hl => match us, hl with | [_, _], _ => rfl⟩
    ic_NoName := aNoName0
    ti_NoName := tNoName0
    na_NoName_name := nNoNamename
    ox_NoName := ⟨xlNoName, saNoName, exNoName, tyNoName, kcNoName⟩
    xf_NoName := ⟨gaNoName, ggNoName, exNoName, hdNoName⟩
    sb_NoName := sbNoName
    C_Unlike := CUnlike
    g_Unlike := PySem.W.mg_of X G gUnlike
    a_Unlike___init__ := fUnlike0
    d_Unlike___init__ := (PySem.W.fnOf "__init__" "Unlike.__init__" (defArgs s_Unlike___init__) (defBody s_Unlike___init__) (defScope s_Unlike___init__) .none kVUnlike0 dcUnlike0 pmUnlike0 anUnlike0 cdUnlike0 ctUnlike0)
    D_Unlike___init__ := ⟨fun_mk (st := s_Unlike___init__) lUnlike0 cUnlike0 kUnlike0, (fun_mk (x := "__init__") (qual := "Unlike.__init__") (st := s_Unlike___init__) lUnlike0 cUnlike0 kUnlike0).binds (ps := ["self", "what"]) fun _ _ _ _ _ _ us hl => match us, hl with | [_, _], _ => rfl⟩
    ic_Unlike := aUnlike0
    ti_Unlike := tUnlike0
    na_Unlike_what := nUnlikewhat
    ox_Unlike := ⟨xlUnlike, saUnlike, exUnlike, tyUnlike, kcUnlike⟩
    xf_Unlike := ⟨gaUnlike, ggUnlike, exUnlike, hdUnlike⟩
    sb_Unlike := sbUnlike
    C_TooMany := CTooMany
    g_TooMany := PySem.W.mg_of X G gTooMany
    a_TooMany___init__ := fTooMany0
    d_TooMany___init__ := (PySem.W.fnOf "__init__" "TooMany.__init__" (defArgs s_TooMany___init__) (defBody s_TooMany___init__) (defScope s_TooMany___init__) .none kVTooMany0 dcTooMany0 pmTooMany0 anTooMany0 cdTooMany0 ctTooMany0)
    D_TooMany___init__ := ⟨fun_mk (st := s_TooMany___init__) lTooMany0 cTooMany0 kTooMany0, (fun_mk (x := "__init__") (qual := "TooMany.__init__") (st := s_TooMany___init__) lTooMany0 cTooMany0 kTooMany0).binds (ps := ["self", "what", "many", "limit"]) fun _ _ _ _ _ _ us hl => match us, hl with | [_, _, _, _], _ => rfl⟩
    ic_TooMany := aTooMany0
    ti_TooMany := tTooMany0
    na_TooMany_what := nTooManywhat
    na_TooMany_many := nTooManymany
    na_TooMany_limit := nTooManylimit
    ox_TooMany := ⟨xlTooMany, saTooMany, exTooMany, tyTooMany, kcTooMany⟩
    xf_TooMany := ⟨gaTooMany, ggTooMany, exTooMany, hdTooMany⟩
    sb_TooMany := sbTooMany
    C_Machine := CMachine
    g_Machine := PySem.W.mg_of X G gMachine
    a_Machine___init__ := fMachine0
    d_Machine___init__ := (PySem.W.fnOf "__init__" "Machine.__init__" (defArgs s_Machine___init__) (defBody s_Machine___init__) (defScope s_Machine___init__) .none kVMachine0 dcMachine0 pmMachine0 anMachine0 cdMachine0 ctMachine0)
    D_Machine___init__ := ⟨fun_mk (st := s_Machine___init__) lMachine0 cMachine0 kMachine0, (fun_mk (x := "__init__") (qual := "Machine.__init__") (st := s_Machine___init__) lMachine0 cMachine0 kMachine0).binds (ps := ["self", "calls", "rows", "marks"]) fun _ _ _ _ _ _ us hl => match us, hl with | [_, _, _, _], _ => rfl⟩
    mk_Machine := ⟨miMachine, aMachine0, iMachine0, kcMachine⟩
    a_Machine___eq__ := fMachine1
    d_Machine___eq__ := (PySem.W.fnOf "__eq__" "Machine.__eq__" (defArgs s_Machine___eq__) (defBody s_Machine___eq__) (defScope s_Machine___eq__) .none kVMachine1 dcMachine1 pmMachine1 anMachine1 cdMachine1 ctMachine1)
    D_Machine___eq__ := ⟨fun_mk (st := s_Machine___eq__) lMachine1 cMachine1 kMachine1, (fun_mk (x := "__eq__") (qual := "Machine.__eq__") (st := s_Machine___eq__) lMachine1 cMachine1 kMachine1).binds (ps := ["self", "other"]) fun _ _ _ _ _ _ us hl => match us, hl with | [_, _], _ => rfl⟩
    mt_Machine___eq__ := ⟨aMachine1, iMachine1, kMachine1⟩
    a_Machine_need_state := fMachine2
    d_Machine_need_state := (PySem.W.fnOf "need_state" "Machine.need_state" (defArgs s_Machine_need_state) (defBody s_Machine_need_state) (defScope s_Machine_need_state) .none kVMachine2 dcMachine2 pmMachine2 anMachine2 cdMachine2 ctMachine2)
    D_Machine_need_state := ⟨fun_mk (st := s_Machine_need_state) lMachine2 cMachine2 kMachine2, (fun_mk (x := "need_state") (qual := "Machine.need_state") (st := s_Machine_need_state) lMachine2 cMachine2 kMachine2).binds (ps := ["self", "state"]) fun _ _ _ _ _ _ us hl => match us, hl with | [_, _], _ => rfl⟩
    mt_Machine_need_state := ⟨aMachine2, iMachine2, kMachine2⟩
    a_Machine_go := fMachine3
    d_Machine_go := (PySem.W.fnOf "go" "Machine.go" (defArgs s_Machine_go) (defBody s_Machine_go) (defScope s_Machine_go) .none kVMachine3 dcMachine3 pmMachine3 anMachine3 cdMachine3 ctMachine3)
    D_Machine_go := ⟨fun_mk (st := s_Machine_go) lMachine3 cMachine3 kMachine3, (fun_mk (x := "go") (qual := "Machine.go") (st := s_Machine_go) lMachine3 cMachine3 kMachine3).binds (ps := ["self", "state", "call"]) fun _ _ _ _ _ _ us hl => match us, hl with | [_, _, _], _ => rfl⟩
    mt_Machine_go := ⟨aMachine3, iMachine3, kMachine3⟩
    a_Machine_is_marked := fMachine4
    d_Machine_is_marked := (PySem.W.fnOf "is_marked" "Machine.is_marked" (defArgs s_Machine_is_marked) (defBody s_Machine_is_marked) (defScope s_Machine_is_marked) .none kVMachine4 dcMachine4 pmMachine4 anMachine4 cdMachine4 ctMachine4)
    D_Machine_is_marked := ⟨fun_mk (st := s_Machine_is_marked) lMachine4 cMachine4 kMachine4, (fun_mk (x := "is_marked") (qual := "Machine.is_marked") (st := s_Machine_is_marked) lMachine4 cMachine4 kMachine4).binds (ps := ["self", "state", "call"]) fun _ _ _ _ _ _ us hl => match us, hl with | [_, _, _], _ => rfl⟩
    mt_Machine_is_marked := ⟨aMachine4, iMachine4, kMachine4⟩
    a_Machine_behind := fMachine5
    d_Machine_behind := (PySem.W.fnOf "behind" "Machine.behind" (defArgs s_Machine_behind) (defBody s_Machine_behind) (defScope s_Machine_behind) .none kVMachine5 dcMachine5 pmMachine5 anMachine5 cdMachine5 ctMachine5)
    D_Machine_behind := ⟨fun_mk (st := s_Machine_behind) lMachine5 cMachine5 kMachine5, (fun_mk (x := "behind") (qual := "Machine.behind") (st := s_Machine_behind) lMachine5 cMachine5 kMachine5).binds (ps := ["self", "word"]) fun _ _ _ _ _ _ us hl => match us, hl with | [_, _], _ => rfl⟩
    mt_Machine_behind := ⟨aMachine5, iMachine5, kMachine5⟩
    a_Machine_marks_along := fMachine6
    d_Machine_marks_along := (PySem.W.fnOf "marks_along" "Machine.marks_along" (defArgs s_Machine_marks_along) (defBody s_Machine_marks_along) (defScope s_Machine_marks_along) .none kVMachine6 dcMachine6 pmMachine6 anMachine6 cdMachine6 ctMachine6)
    D_Machine_marks_along := ⟨fun_mk (st := s_Machine_marks_along) lMachine6 cMachine6 kMachine6, (fun_mk (x := "marks_along") (qual := "Machine.marks_along") (st := s_Machine_marks_along) lMachine6 cMachine6 kMachine6).binds (ps := ["self", "state", "word"]) fun _ _ _ _ _ _ us hl => match us, hl with | [_, _, _], _ => rfl⟩
    mt_Machine_marks_along := ⟨aMachine6, iMachine6, kMachine6⟩
    na_Machine_calls := nMachinecalls
    na_Machine_rows := nMachinerows
    na_Machine_marks := nMachinemarks
    na_Machine__place := nMachine_place
    na_Machine__marked := nMachine_marked
    cl_Machine := ⟨pgMachine, hdMachine, poMachine, saMachine⟩
    ty_Machine := fun H a dx fs e => .ins e ⟨pgMachine, hdMachine, poMachine, saMachine⟩ eaMachine eN eT emMachine
    kt_Machine := xtkt_Machine
    st_Machine := xtst_Machine
    ki_Machine_Machine := kiMachineMachine
    sb_BadNumber_BadText := sbBadNumberBadText
    sb_BadRow_BadText := sbBadRowBadText
    sb_BadRow_BadNumber := sbBadRowBadNumber
    t_FIGURES := tFIGURES
    g_FIGURES := PySem.W.mg_of X G gFIGURES
    t_LETTERS := tLETTERS
    g_LETTERS := PySem.W.mg_of X G gLETTERS
    t_MOST_CALLS := tMOST_CALLS
    g_MOST_CALLS := PySem.W.mg_of X G gMOST_CALLS
    b_isinstance := PySem.W.mg_none_of X G bisinstance
    b_all := PySem.W.mg_none_of X G ball
    b_range := PySem.W.mg_none_of X G brange
    b_tuple := PySem.W.mg_none_of X G btuple
    b_int := PySem.W.mg_none_of X G bint
    b_bool := PySem.W.mg_none_of X G bbool
    b_list := PySem.W.mg_none_of X G blist
    b_str := PySem.W.mg_none_of X G bstr
    b_len := PySem.W.mg_none_of X G blen
    b_sorted := PySem.W.mg_none_of X G bsorted
    b_repr := PySem.W.mg_none_of X G brepr
    b_zip := PySem.W.mg_none_of X G bzip
    b_enumerate := PySem.W.mg_none_of X G benumerate
    b_set := PySem.W.mg_none_of X G bset }
  obtain ⟨hd, ht⟩ := PySem.W.tab_of TP X hrec htb
  refine ⟨[(cc, tb)], fun p hp => by rw [List.mem_singleton.mp hp]; exact ht, fun p hp => by rw [List.mem_singleton.mp hp]; exact ntb, fun p hp => by rw [List.mem_singleton.mp hp]; exact hd, fun a ns base H hl _ _ _ hTB hT hs e0 => ?_⟩
  exact law_runs T (PySem.W.law_code X G htb hfa (X _ _ l26) rfl) (hTB _ (List.mem_singleton.mpr rfl)) (hT _ (List.mem_singleton.mpr rfl)) hs hl e0
end Ag
open PySem PySem.W PyProof.Rows in
set_option maxRecDepth 100000 in
set_option maxHeartbeats 0 in
theorem PySem.Challenge.cw_againnotes_k07_machines_made_holds : PySem.Challenge.rw_againnotes_k07_machines_made.Holds := by
  w_on; o_law; k_head; (case hw => w_witness2)
  k_fill
  refine Ag.walk_G (l := PySem.Challenge.rw_againnotes_k07_machines_made) (n := 63) rfl (by decide) rfl (fun w h Y => PySem.W.km_in_of Y) ?F
  case F =>
    intro w mg mb fa s mean TP KX hmg
    refine' Ag.all_mk TP KX ?hrec ?ntb hmg ?a0 ?l0 ?c0 ?k0 ?m0 ?a1 ?l1 ?c1 ?k1 ?a2 ?l2 ?c2 ?k2 ?a3 ?l3 ?c3 ?k3 ?a4 ?l4 ?c4 ?k4 ?a5 ?l5 ?c5 ?k5 ?a6 ?l6 ?c6 ?k6 ?a7 ?l7 ?c7 ?k7 ?a8 ?l8 ?c8 ?k8 ?a9 ?l9 ?c9 ?k9 ?a10 ?l10 ?c10 ?k10 ?a11 ?l11 ?c11 ?k11 ?a12 ?l12 ?c12 ?k12 ?a13 ?l13 ?c13 ?k13 ?a14 ?l14 ?c14 ?k14 ?a15 ?l15 ?c15 ?k15 ?a16 ?l16 ?c16 ?k16 ?a17 ?l17 ?c17 ?k17 ?a18 ?l18 ?c18 ?k18 ?a19 ?l19 ?c19 ?k19 ?a20 ?l20 ?c20 ?k20 ?a21 ?l21 ?c21 ?k21 ?a22 ?l22 ?c22 ?k22 ?a23 ?l23 ?c23 ?k23 ?a24 ?l24 ?c24 ?k24 ?a25 ?l25 ?c25 ?k25 ?a26 ?l26 ?c26 ?k26 ?gAgainError ?saAgainError ?kcAgainError ?hdAgainError ?gaAgainError ?ggAgainError ?exAgainError ?tyAgainError ?sbAgainError ?xlAgainError ?gBadText ?aBadText0 ?lBadText0 ?cBadText0 ?kBadText0 ?tBadText0 ?nBadTextline ?nBadTextword ?saBadText ?kcBadText ?hdBadText ?gaBadText ?ggBadText ?exBadText ?tyBadText ?sbBadText ?xlBadText ?gBadNumber ?aBadNumber0 ?lBadNumber0 ?cBadNumber0 ?kBadNumber0 ?tBadNumber0 ?nBadNumberwhat ?nBadNumbernumber ?saBadNumber ?kcBadNumber ?hdBadNumber ?gaBadNumber ?ggBadNumber ?exBadNumber ?tyBadNumber ?sbBadNumber ?xlBadNumber ?gBadRow ?aBadRow0 ?lBadRow0 ?cBadRow0 ?kBadRow0 ?tBadRow0 ?nBadRowwhat ?nBadRowrow ?saBadRow ?kcBadRow ?hdBadRow ?gaBadRow ?ggBadRow ?exBadRow ?tyBadRow ?sbBadRow ?xlBadRow ?gNoName ?aNoName0 ?lNoName0 ?cNoName0 ?kNoName0 ?tNoName0 ?nNoNamename ?saNoName ?kcNoName ?hdNoName ?gaNoName ?ggNoName ?exNoName ?tyNoName ?sbNoName ?xlNoName ?gUnlike ?aUnlike0 ?lUnlike0 ?cUnlike0 ?kUnlike0 ?tUnlike0 ?nUnlikewhat ?saUnlike ?kcUnlike ?hdUnlike ?gaUnlike ?ggUnlike ?exUnlike ?tyUnlike ?sbUnlike ?xlUnlike ?gTooMany ?aTooMany0 ?lTooMany0 ?cTooMany0 ?kTooMany0 ?tTooMany0 ?nTooManywhat ?nTooManymany ?nTooManylimit ?saTooMany ?kcTooMany ?hdTooMany ?gaTooMany ?ggTooMany ?exTooMany ?tyTooMany ?sbTooMany ?xlTooMany ?gMachine ?aMachine0 ?lMachine0 ?cMachine0 ?kMachine0 ?iMachine0 ?aMachine1 ?lMachine1 ?cMachine1 ?kMachine1 ?iMachine1 ?aMachine2 ?lMachine2 ?cMachine2 ?kMachine2 ?iMachine2 ?aMachine3 ?lMachine3 ?cMachine3 ?kMachine3 ?iMachine3 ?aMachine4 ?lMachine4 ?cMachine4 ?kMachine4 ?iMachine4 ?aMachine5 ?lMachine5 ?cMachine5 ?kMachine5 ?iMachine5 ?aMachine6 ?lMachine6 ?cMachine6 ?kMachine6 ?iMachine6 ?nMachinecalls ?nMachinerows ?nMachinemarks ?nMachine_place ?nMachine_marked ?saMachine ?kcMachine ?hdMachine ?pgMachine ?poMachine ?miMachine ?eaMachine ?emMachine ?eN ?eT ?xtkt_Machine ?xtst_Machine ?kiMachineMachine ?sbBadNumberBadText ?sbBadRowBadText ?sbBadRowBadNumber ?gFIGURES ?gLETTERS ?gMOST_CALLS ?bisinstance ?ball ?brange ?btuple ?bint ?bbool ?blist ?bstr ?blen ?bsorted ?brepr ?bzip ?benumerate ?bset ?hcd ?lcc ?hv
    (case hrec => rfl)
    (case a0 => k_is)
    (case l0 => k_is)
    (case c0 => k_is)
    (case k0 => k_is)
    (case m0 => k_is)
    (case a1 => k_is)
    (case l1 => k_is)
    (case c1 => k_is)
    (case k1 => k_is)
    (case a2 => k_is)
    (case l2 => k_is)
    (case c2 => k_is)
    (case k2 => k_is)
    (case a3 => k_is)
    (case l3 => k_is)
    (case c3 => k_is)
    (case k3 => k_is)
    (case a4 => k_is)
    (case l4 => k_is)
    (case c4 => k_is)
    (case k4 => k_is)
    (case a5 => k_is)
    (case l5 => k_is)
    (case c5 => k_is)
    (case k5 => k_is)
    (case a6 => k_is)
    (case l6 => k_is)
    (case c6 => k_is)
    (case k6 => k_is)
    (case a7 => k_is)
    (case l7 => k_is)
    (case c7 => k_is)
    (case k7 => k_is)
    (case a8 => k_is)
    (case l8 => k_is)
    (case c8 => k_is)
    (case k8 => k_is)
    (case a9 => k_is)
    (case l9 => k_is)
    (case c9 => k_is)
    (case k9 => k_is)
    (case a10 => k_is)
    (case l10 => k_is)
    (case c10 => k_is)
    (case k10 => k_is)
    (case a11 => k_is)
    (case l11 => k_is)
    (case c11 => k_is)
    (case k11 => k_is)
    (case a12 => k_is)
    (case l12 => k_is)
    (case c12 => k_is)
    (case k12 => k_is)
    (case a13 => k_is)
    (case l13 => k_is)
    (case c13 => k_is)
    (case k13 => k_is)
    (case a14 => k_is)
    (case l14 => k_is)
    (case c14 => k_is)
    (case k14 => k_is)
    (case a15 => k_is)
    (case l15 => k_is)
    (case c15 => k_is)
    (case k15 => k_is)
    (case a16 => k_is)
    (case l16 => k_is)
    (case c16 => k_is)
    (case k16 => k_is)
    (case a17 => k_is)
    (case l17 => k_is)
    (case c17 => k_is)
    (case k17 => k_is)
    (case a18 => k_is)
    (case l18 => k_is)
    (case c18 => k_is)
    (case k18 => k_is)
    (case a19 => k_is)
    (case l19 => k_is)
    (case c19 => k_is)
    (case k19 => k_is)
    (case a20 => k_is)
    (case l20 => k_is)
    (case c20 => k_is)
    (case k20 => k_is)
    (case a21 => k_is)
    (case l21 => k_is)
    (case c21 => k_is)
    (case k21 => k_is)
    (case a22 => k_is)
    (case l22 => k_is)
    (case c22 => k_is)
    (case k22 => k_is)
    (case a23 => k_is)
    (case l23 => k_is)
    (case c23 => k_is)
    (case k23 => k_is)
    (case a24 => k_is)
    (case l24 => k_is)
    (case c24 => k_is)
    (case k24 => k_is)
    (case a25 => k_is)
    (case l25 => k_is)
    (case c25 => k_is)
    (case k25 => k_is)
    (case a26 => k_is)
    (case l26 => k_is)
    (case c26 => k_is)
    (case k26 => k_is)
    (case gAgainError => k_is)
    (case saAgainError => k_is)
    (case kcAgainError => k_is)
    (case hdAgainError => k_is)
    (case gaAgainError => k_is)
    (case ggAgainError => k_is)
    (case exAgainError => k_is)
    (case tyAgainError => k_is)
    (case sbAgainError => k_is)
    (case xlAgainError => exact ⟨_, _, _, _, _, _, _, _, _, _, _, _, _, _, _, by k_is, by rfl⟩)
    (case gBadText => k_is)
    (case aBadText0 => k_is)
    (case lBadText0 => k_is)
    (case cBadText0 => k_is)
    (case kBadText0 => k_is)
    (case tBadText0 => k_is)
    (case nBadTextline => k_is)
    (case nBadTextword => k_is)
    (case saBadText => k_is)
    (case kcBadText => k_is)
    (case hdBadText => k_is)
    (case gaBadText => k_is)
    (case ggBadText => k_is)
    (case exBadText => k_is)
    (case tyBadText => k_is)
    (case sbBadText => k_is)
    (case xlBadText => exact ⟨_, _, _, _, _, _, _, _, _, _, _, _, _, _, _, by k_is, by rfl⟩)
    (case gBadNumber => k_is)
    (case aBadNumber0 => k_is)
    (case lBadNumber0 => k_is)
    (case cBadNumber0 => k_is)
    (case kBadNumber0 => k_is)
    (case tBadNumber0 => k_is)
    (case nBadNumberwhat => k_is)
    (case nBadNumbernumber => k_is)
    (case saBadNumber => k_is)
    (case kcBadNumber => k_is)
    (case hdBadNumber => k_is)
    (case gaBadNumber => k_is)
    (case ggBadNumber => k_is)
    (case exBadNumber => k_is)
    (case tyBadNumber => k_is)
    (case sbBadNumber => k_is)
    (case xlBadNumber => exact ⟨_, _, _, _, _, _, _, _, _, _, _, _, _, _, _, by k_is, by rfl⟩)
    (case gBadRow => k_is)
    (case aBadRow0 => k_is)
    (case lBadRow0 => k_is)
    (case cBadRow0 => k_is)
    (case kBadRow0 => k_is)
    (case tBadRow0 => k_is)
    (case nBadRowwhat => k_is)
    (case nBadRowrow => k_is)
    (case saBadRow => k_is)
    (case kcBadRow => k_is)
    (case hdBadRow => k_is)
    (case gaBadRow => k_is)
    (case ggBadRow => k_is)
    (case exBadRow => k_is)
    (case tyBadRow => k_is)
    (case sbBadRow => k_is)
    (case xlBadRow => exact ⟨_, _, _, _, _, _, _, _, _, _, _, _, _, _, _, by k_is, by rfl⟩)
    (case gNoName => k_is)
    (case aNoName0 => k_is)
    (case lNoName0 => k_is)
    (case cNoName0 => k_is)
    (case kNoName0 => k_is)
    (case tNoName0 => k_is)
    (case nNoNamename => k_is)
    (case saNoName => k_is)
    (case kcNoName => k_is)
    (case hdNoName => k_is)
    (case gaNoName => k_is)
    (case ggNoName => k_is)
    (case exNoName => k_is)
    (case tyNoName => k_is)
    (case sbNoName => k_is)
    (case xlNoName => exact ⟨_, _, _, _, _, _, _, _, _, _, _, _, _, _, _, by k_is, by rfl⟩)
    (case gUnlike => k_is)
    (case aUnlike0 => k_is)
    (case lUnlike0 => k_is)
    (case cUnlike0 => k_is)
    (case kUnlike0 => k_is)
    (case tUnlike0 => k_is)
    (case nUnlikewhat => k_is)
    (case saUnlike => k_is)
    (case kcUnlike => k_is)
    (case hdUnlike => k_is)
    (case gaUnlike => k_is)
    (case ggUnlike => k_is)
    (case exUnlike => k_is)
    (case tyUnlike => k_is)
    (case sbUnlike => k_is)
    (case xlUnlike => exact ⟨_, _, _, _, _, _, _, _, _, _, _, _, _, _, _, by k_is, by rfl⟩)
    (case gTooMany => k_is)
    (case aTooMany0 => k_is)
    (case lTooMany0 => k_is)
    (case cTooMany0 => k_is)
    (case kTooMany0 => k_is)
    (case tTooMany0 => k_is)
    (case nTooManywhat => k_is)
    (case nTooManymany => k_is)
    (case nTooManylimit => k_is)
    (case saTooMany => k_is)
    (case kcTooMany => k_is)
    (case hdTooMany => k_is)
    (case gaTooMany => k_is)
    (case ggTooMany => k_is)
    (case exTooMany => k_is)
    (case tyTooMany => k_is)
    (case sbTooMany => k_is)
    (case xlTooMany => exact ⟨_, _, _, _, _, _, _, _, _, _, _, _, _, _, _, by k_is, by rfl⟩)
    (case gMachine => k_is)
    (case aMachine0 => k_is)
    (case lMachine0 => k_is)
    (case cMachine0 => k_is)
    (case kMachine0 => k_is)
    (case iMachine0 => k_is)
    (case aMachine1 => k_is)
    (case lMachine1 => k_is)
    (case cMachine1 => k_is)
    (case kMachine1 => k_is)
    (case iMachine1 => k_is)
    (case aMachine2 => k_is)
    (case lMachine2 => k_is)
    (case cMachine2 => k_is)
    (case kMachine2 => k_is)
    (case iMachine2 => k_is)
    (case aMachine3 => k_is)
    (case lMachine3 => k_is)
    (case cMachine3 => k_is)
    (case kMachine3 => k_is)
    (case iMachine3 => k_is)
    (case aMachine4 => k_is)
    (case lMachine4 => k_is)
    (case cMachine4 => k_is)
    (case kMachine4 => k_is)
    (case iMachine4 => k_is)
    (case aMachine5 => k_is)
    (case lMachine5 => k_is)
    (case cMachine5 => k_is)
    (case kMachine5 => k_is)
    (case iMachine5 => k_is)
    (case aMachine6 => k_is)
    (case lMachine6 => k_is)
    (case cMachine6 => k_is)
    (case kMachine6 => k_is)
    (case iMachine6 => k_is)
    (case nMachinecalls => k_is)
    (case nMachinerows => k_is)
    (case nMachinemarks => k_is)
    (case nMachine_place => k_is)
    (case nMachine_marked => k_is)
    (case saMachine => k_is)
    (case kcMachine => k_is)
    (case hdMachine => k_is)
    (case pgMachine => k_is)
    (case poMachine => k_is)
    (case miMachine => k_is)
    (case eaMachine => k_is)
    (case emMachine => k_is)
    (case eN => k_is)
    (case eT => k_is)
    (case xtkt_Machine => kernel_rfl)
    (case xtst_Machine => kernel_rfl)
    (case kiMachineMachine => kernel_rfl)
    (case sbBadNumberBadText => k_is)
    (case sbBadRowBadText => k_is)
    (case sbBadRowBadNumber => k_is)
    (case gFIGURES => k_is)
    (case gLETTERS => k_is)
    (case gMOST_CALLS => k_is)
    (case bisinstance => k_is)
    (case ball => k_is)
    (case brange => k_is)
    (case btuple => k_is)
    (case bint => k_is)
    (case bbool => k_is)
    (case blist => k_is)
    (case bstr => k_is)
    (case blen => k_is)
    (case bsorted => k_is)
    (case brepr => k_is)
    (case bzip => k_is)
    (case benumerate => k_is)
    (case bset => k_is)
    (case hcd => rfl)
    (case lcc => k_is)
    (case hv => rfl)
    (case ntb => first | kernel_rfl | rfl | decide)
#print axioms PySem.Challenge.cw_againnotes_k07_machines_made_holds
