import PyProof.Rows.All
import Wide.All
import OpenK.AllK
import Wide.FinOn
import HandS.ForMost
import HandS.Set
import HandS.SetKeys
import HandS.TupSets
import PyProof.Rows.SortShellAny
import HandS.Strs
import HandS.IsInst
import HandS.TupAny
import HandS.TupMul
import HandS.TupLe
import HandS.Style
import HandS.Deep
import HandS.NoneIn
import HandS.Codes
import HandS.Lambda
import HandS.EndTab
import PyProof.ReprRoads
import HandS.TryMany
import HandS.ExcField
import HandS.Zip
import PyProof.IsRules
import PyProof.AutoSeq1
import PyProof.NeData
import PyProof.StrBlock2
import PyProof.Rows.StrMul
import KE.SortCalls
import HandS.Text
import PyProof.StrLawsRepr
import PyProof.CallFns
import HandS.WordsExc
import KE.KDictList
import HandS.More
import PyProof.TupleOfSeq
import HandS.Dict
import KE.KRevSl
import KE.DataCmp
import HandS.ExcInit
import HandS.Defaults
import HandS.CallLocal
import KE.IntTextLaws
import HandS.FStr
import HandS.ExcIs
import KE.KNest
import KE.KNestM
import HandS.HeadWalk
import PySem.Challenge.RW_againnotes_k06_whole_first_wrong_words
set_option Elab.async false
set_option linter.all false
set_option maxRecDepth 100000
set_option maxHeartbeats 4000000
/-! Sets of scannable keys of one kind, with what a walk over them asks for; set(list of texts), sorted of such a set. -/
namespace Ag
open PySem PySem.Spec PyProof.Rows L2

section gen
variable {P : Program} {w : World} {κ : Type} [DecidableEq κ] {kd : KeyKind P w κ}
/-- two entries have no key in common -/
def Apart (kd : KeyKind P w κ) (e f : Int × Value) : Prop := ∀ k, kd.is k e.2 = true → kd.is k f.2 = false
theorem Apart.symm {e f : Int × Value} (h : Apart kd e f) : Apart kd f e := fun k hf => by
  cases q : kd.is k e.2 with
  | false => rfl
  | true => have := h k q; rw [hf] at this; cases this

structure SetG (kd : KeyKind P w κ) (h : Heap) (a : Addr) (S : κ → Bool) (n : Nat) (o : Obj) (es : Array (Int × Value)) (ep : Nat) (t : SetTable) : Prop where
  at_ : h.get? a = some o
  ex : o.ExactSet
  dat : o.data = .set es ep t
  els : ElemsOf kd es.toList
  mem : ∀ k, S k = true ↔ ∃ e ∈ es.toList, kd.is k e.2 = true
  room : es.size < scanBound
  fit : t.fits es.size = true
  num : es.size = n
  ris : Ris t.place.toList
  led : w.params.followText "set-order" = true ∨ t.led = true
  nd : es.toList.Pairwise (Apart kd)

def SetAtG (kd : KeyKind P w κ) (h : Heap) (a : Addr) (S : κ → Bool) (n : Nat) : Prop := ∃ o es ep t, SetG kd h a S n o es ep t
theorem SetAtG.keep {h h' : Heap} {a : Addr} {S : κ → Bool} {n : Nat} (R : SetAtG kd h a S n) (k : ∀ o, h.get? a = some o → h'.get? a = some o) : SetAtG kd h' a S n := by
  obtain ⟨o, es, ep, t, r⟩ := R
  exact ⟨o, es, ep, t, ⟨k o r.at_, r.ex, r.dat, r.els, r.mem, r.room, r.fit, r.num, r.ris, r.led, r.nd⟩⟩
theorem SetAtG.fresh {h : Heap} {a : Addr} (ho : h.get? a = some { cls := .type "set", dict := none, data := .set #[] 0 (.fresh 0 0 (!w.params.followText "set-order")) }) : SetAtG kd h a (fun _ => false) 0 :=
  ⟨_, #[], 0, _, ⟨ho, ⟨rfl, rfl, rfl⟩, rfl, fun e he => (by simp at he), fun k => (by simp), (by decide), (by rfl), rfl, List.Pairwise.nil, by
    show _ ∨ (!w.params.followText "set-order") = true
    cases w.params.followText "set-order" <;> simp, List.Pairwise.nil⟩⟩

variable {A : Around} {E : Value → Shared → Prop} {s : Shared} {a : Addr} {S : κ → Bool} {n : Nat}

theorem addG_tail {g : Bool → Sem Unit} (hg : ∀ (b : Bool) (s₁ : Shared) (Q' : Unit → Shared → Prop), Q' () s₁ → wpAny (model P w) A (g b) Q' E s₁)
    {o : Obj} {es es1 : Array (Int × Value)} {ep : Nat} {t t2 : SetTable} {S' : κ → Bool} (ho : s.heap.get? a = some o) (hex : o.ExactSet) (hd : o.data = .set es ep t)
    (el1 : ElemsOf kd es1.toList) (m1 : ∀ k, S' k = true ↔ ∃ e ∈ es1.toList, kd.is k e.2 = true) (nd1 : es1.toList.Pairwise (Apart kd))
    (b1 : es1.size < scanBound) (f2 : t2.fits es1.size = true) (r2 : Ris t2.place.toList) (l2 : w.params.followText "set-order" = true ∨ t2.led = true) {wasD : Bool} {R : Option Bool → Shared → Prop}
    (hR : ∀ h', Heap.SameBut a s.heap h' → SetAtG kd h' a S' es1.size → R (some true) { s with heap := h' }) :
    wpAny (model P w) A (do
        storeSet a es1 t2
        if (!wasD && t2.tooFull) = true then do
            g (relayAll t2 es1 (SetTable.grown es1.size)).2.2
            storeSet a (relayAll t2 es1 (SetTable.grown es1.size)).1 (relayAll t2 es1 (SetTable.grown es1.size)).2.1
            pure (some true)
          else pure (some true)) R E s := by
  refine wpAny_bind (wpAny_storeSet_of ho hd ?_ (fits_of_scanBound b1))
  have q1 := store_at (es' := es1) (t' := t2) ho hd
  have k1 := Heap.SameBut.update s.heap a (Obj.putSet es1 t2)
  by_cases hc : (!wasD && t2.tooFull) = true
  · rw [if_pos hc]
    have pm := relayAll_perm t2 es1 (SetTable.grown es1.size)
    have f3 := relayAll_fits t2 es1 (SetTable.grown es1.size)
    have r3 := relayAll_ris t2 es1 (SetTable.grown es1.size)
    have l3 := relayAll_led t2 es1 (SetTable.grown es1.size)
    generalize relayAll t2 es1 (SetTable.grown es1.size) = Z at pm f3 r3 l3 ⊢
    obtain ⟨es2, t3, gv⟩ := Z
    dsimp only at pm f3 r3 l3 ⊢
    have z2 : es2.size = es1.size := by rw [← Array.length_toList, pm.length_eq, Array.length_toList]
    have b2 : es2.size < scanBound := z2 ▸ b1
    refine wpAny_bind (hg _ _ _ ?_)
    refine wpAny_bind (wpAny_storeSet_of q1 rfl ?_ (fits_of_scanBound b2))
    have q2 := store_at (es' := es2) (t' := t3) q1 rfl
    have m2 : ∀ k, S' k = true ↔ ∃ e ∈ es2.toList, kd.is k e.2 = true := fun k => (m1 k).trans ⟨fun ⟨e, he, q⟩ => ⟨e, pm.mem_iff.mpr he, q⟩, fun ⟨e, he, q⟩ => ⟨e, pm.mem_iff.mp he, q⟩⟩
    exact wpAny_pure (hR _ (k1.trans (Heap.SameBut.update _ a _)) ⟨_, es2, _, t3, ⟨q2, hex, rfl, el1.perm pm, m2, b2, f3, z2, r3, l2.imp id fun z => l3 ▸ z, (pm.pairwise_iff (fun h => Apart.symm h)).mpr nd1⟩⟩)
  · rw [if_neg hc]
    exact wpAny_pure (hR _ k1 ⟨_, es1, _, t2, ⟨q1, hex, rfl, el1, m1, b1, f2, rfl, r2, l2, nd1⟩⟩)

theorem addG {k : κ} {x : Value} {Q : Bool → Shared → Prop} (hk : kd.is k x = true) (hx : x.scannable = true) (R : SetAtG kd s.heap a S n) (hroom : n + 1 < scanBound)
    (hQ : ∀ h', Heap.SameBut a s.heap h' → SetAtG kd h' a (fun j => S j || decide (j = k)) (if S k = true then n else n + 1) → Q (!S k) { s with heap := h' }) :
    wpAny (model P w) A (setAddHashed a x (kd.hash k)) Q E s := by
  obtain ⟨o, es, ep, t, R⟩ := R
  have bz : es.size + 1 < scanBound := by rw [R.num]; exact hroom
  unfold setAddHashed setAddHashedIn
  refine wpAny_holding (wpAny_bind (wpAny_setState_of R.at_ R.dat R.fit ?_))
  dsimp only
  rw [byScan_of hx R.room R.els]
  simp only [↓reduceIte]
  unfold setAddByScan
  refine wpAny_bind (wpAny_bind (wpAny_rule (wpAny_bind (wpAny_setScan_of hk R.at_ R.dat R.fit R.els ?_))))
  cases hfi : List.findIdx? (fun e => kd.is k e.2) es.toList with
  | some j =>
    obtain ⟨hj, pj, _⟩ := List.findIdx?_eq_some_iff_getElem.mp hfi
    have hS : S k = true := (R.mem k).mpr ⟨_, List.getElem_mem hj, pj⟩
    refine wpAny_pure (wpAny_pure ?_)
    have q := hQ s.heap (Heap.SameBut.refl a s.heap) ⟨o, es, ep, t, ⟨R.at_, R.ex, R.dat, R.els, fun i => (by
      rw [Bool.or_eq_true, decide_eq_true_eq, ← R.mem i]
      exact ⟨fun z => z.elim id (fun e => e ▸ hS), .inl⟩), R.room, R.fit, (by rw [if_pos hS]; exact R.num), R.ris, R.led, R.nd⟩⟩
    rw [hS] at q
    exact q
  | none =>
    have hno : ∀ e ∈ es.toList, kd.is k e.2 = false := fun e he => by
      have c := List.findIdx?_eq_none_iff.mp hfi e he
      cases q : kd.is k e.2 with
      | false => rfl
      | true => rw [q] at c; cases c
    have hS : S k = false := by
      cases q : S k with
      | false => rfl
      | true =>
        obtain ⟨e, he, z⟩ := (R.mem k).mp q
        rw [hno e he] at z; cases z
    have pm := layNew_perm t es (kd.hash k) x
    have f1 := layNew_fits t es (kd.hash k) x
    have r1 := layNew_ris t es (kd.hash k) x R.ris
    have l1 := layNew_led t es (kd.hash k) x
    dsimp only
    generalize layNew t es (kd.hash k) x = Z at pm f1 r1 l1 ⊢
    obtain ⟨es1, t1, wasD, gv⟩ := Z
    dsimp only at pm f1 r1 l1 ⊢
    rw [Array.toList_push] at pm
    have el1 : ElemsOf kd es1.toList := (R.els.push hk hx).perm pm
    have m1 : ∀ i, (S i || decide (i = k)) = true ↔ ∃ e ∈ es1.toList, kd.is i e.2 = true := mem_push_iff hk R.mem pm
    have nd1 : es1.toList.Pairwise (Apart kd) := by
      refine (pm.pairwise_iff (fun h => Apart.symm h)).mpr (List.pairwise_append.mpr ⟨R.nd, List.pairwise_singleton _ _, fun e he f hf => ?_⟩)
      rw [List.mem_singleton.mp hf]
      refine Apart.symm fun j hj => ?_
      have : j = k := kd.inj x j k hj hk
      rw [this]; exact hno e he
    have z1 : es1.size = n + 1 := by rw [← Array.length_toList, pm.length_eq, List.length_append, Array.length_toList, R.num]; rfl
    have b1 : es1.size < scanBound := by rw [z1]; exact hroom
    have ld : w.params.followText "set-order" = true ∨ t1.led = true := R.led.imp id fun z => by rw [l1]; exact z
    have fin : ∀ h', Heap.SameBut a s.heap h' → SetAtG kd h' a (fun j => S j || decide (j = k)) es1.size → Q true { s with heap := h' } := fun h' sb r => by
      have q := hQ h' sb
      rw [hS] at q
      rw [z1] at r
      exact q r
    have gw : ∀ (b : Bool) {s₁ : Shared} {Q' : Unit → Shared → Prop}, Q' () s₁ → wpAny (model P w) A (match b with | true => rule "set.scan.the-table-gave-way" | false => pure ()) Q' E s₁ :=
      fun b s₁ Q' q => by cases b <;> first | exact wpAny_pure q | exact wpAny_rule q
    refine wpAny_bind (gw _ ?_)
    split
    · refine wpAny_bind ?_
      rw [hashByValue_scannable 8 hx]
      refine wpAny_pure (addG_tail (fun b s₁ Q' q => by cases b <;> first | exact wpAny_pure q | exact wpAny_rule q) R.at_ R.ex R.dat el1 m1 nd1 b1 ?_ ?_ ?_ ?_)
      · split <;> first | exact f1 | exact SetTable.fits_plain_off f1
      · split <;> exact r1
      · split <;> exact ld
      · intro h' sb r; dsimp only; exact wpAny_pure (fin h' sb r)
    · refine wpAny_bind (wpAny_pure ?_)
      simp only [↓reduceIte]
      refine addG_tail (fun b s₁ Q' q => by cases b <;> first | exact wpAny_pure q | exact wpAny_rule q) R.at_ R.ex R.dat el1 m1 nd1 b1 f1 r1 ld ?_
      intro h' sb r; dsimp only; exact wpAny_pure (fin h' sb r)
end gen
end Ag

set_option Elab.async false
set_option linter.all false
set_option maxRecDepth 100000
set_option maxHeartbeats 4000000
namespace Ag
open PySem PySem.Spec PyProof.Rows L2
section
variable {P : Program} {w : World} {A : Around} {E : Value → Shared → Prop}

/-- set.update's loop over texts -/
theorem upd_loop {I : Addr} {fp wr : List Addr} {G : Array GenState → Array GenState → Prop} {n : Nat} {Pv : Nat → Value → Prop} {St : Nat → Shared → Prop} {R : Result → Shared → Prop}
    (W : WalksS P w A.in1 I fp wr G n Pv St) (C : Addr) (hC : C ∉ fp) (xs : List Str) (hn : n = xs.length) (hb : xs.length + 1 < scanBound) (hv : ∀ i v, Pv i v → ∃ x t, xs[i]? = some x ∧ v = .str x t) :
    ∀ (j i : Nat) (s : Shared), n - i = j → i ≤ n → St i s → (∃ S m, SetAtG (PySem.strKind P w) s.heap C S m ∧ m ≤ i ∧ ∀ k, S k = true ↔ k ∈ xs.take i) →
      (∀ s' S m, Moved (C :: wr) G s s' → SetAtG (PySem.strKind P w) s'.heap C S m → m ≤ n → (∀ k, S k = true ↔ k ∈ xs) → R (.ok (.ret .none)) s') →
      codeAny (model P w) A (.builtin "set.update.loop" ⟨[.ref C, .ref I], []⟩) R s := by
  have hCw : C ∉ wr := fun z => hC (W.sub _ z)
  have wide : ∀ b ∈ wr, b ∈ C :: wr := fun b z => List.mem_cons_of_mem _ z
  intro j
  induction j with
  | zero =>
    intro i s hj hi st ⟨S, m, hS, hm, hk⟩ hR
    obtain rfl : i = n := by omega
    refine codeAny_builtin F.entry_set_update_loop ?_
    rw [Around.under_plainId F.plain_set_update_loop _]
    show wpAny _ A.in1 (pyNext (.ref I) >>= _) _ _ s
    refine wpAny_bind (W.done s _ _ st fun s' mv => ?_)
    show wpAny _ A.in1 (ret Value.none) _ _ s'
    refine wpAny_pure (hR s' S m (mv.mono wide) (hS.keep fun o e => mv.heap C o hCw e) hm fun k => ?_)
    rw [hk k, hn, List.take_length]
  | succ j ih =>
    intro i s hj hi st ⟨S, m, hS, hm, hk⟩ hR
    have lt : i < n := by omega
    refine codeAny_builtin F.entry_set_update_loop ?_
    rw [Around.under_plainId F.plain_set_update_loop _]
    show wpAny _ A.in1 (pyNext (.ref I) >>= _) _ _ s
    refine wpAny_bind (W.item i s _ _ lt st fun v s' pv st' mv => ?_)
    obtain ⟨x, tk, hx, rfl⟩ := hv i v pv
    have hS' := hS.keep (h' := s'.heap) fun o e => mv.heap C o hCw e
    show wpAny _ A.in1 (holding [Value.str x tk] (setAdd C (.str x tk)) >>= _) _ _ s'
    refine wpAny_bind (wpAny_holding ?_)
    unfold setAdd
    refine wpAny_holding (wpAny_bind ((PySem.strKind P w).pyHash (k := x) (strKind_is _ _ _ _) ?_))
    refine addG (kd := PySem.strKind P w) (s := { s' with toks := s'.toks + 1 }) (strKind_is _ _ _ _) rfl hS' (by omega) fun h' sb hS2 => ?_
    have tk1 : xs.take (i + 1) = xs.take i ++ [x] := by rw [List.take_succ, hx]; rfl
    refine wpAny_pure ⟨plainId_quiet F.plain_set_update_loop _, ih (i + 1) _ (by omega) lt (W.frame _ s' _ _ st' (Nat.le_succ _) fun b z o e => ?_) ⟨_, _, hS2, ?_, fun k => ?_⟩ fun s2 S2 m2 mv2 h2 l2 k2 => hR s2 S2 m2 ?_ h2 l2 k2⟩
    · rw [sb.2 b (fun q => hC (q ▸ z))]; exact e
    · split <;> omega
    · rw [tk1, Bool.or_eq_true, hk k, List.mem_append, List.mem_singleton, decide_eq_true_eq]
    · refine Moved.trans W.gtrans ((mv.mono wide).then_heap (Nat.le_succ _) fun b o z e => ?_) mv2
      rw [sb.2 b (fun q => z (q ▸ List.mem_cons_self))]; exact e

set_option maxHeartbeats 4000000 in
theorem set_of_strs {s : Shared} {l : Addr} {items : Array Value} {xs : List Str} {Q : Value → Shared → Prop} (hh : A.handled = none) (hl : s.heap.IsList l items) (hi : StrsAre items.toList xs) (hb : xs.length + 1 < scanBound)
    (hQ : ∀ (h' : Heap) (tk : Nat) S m, SetAtG (PySem.strKind P w) h' s.heap.objs.size S m → m ≤ xs.length → (∀ k, S k = true ↔ k ∈ xs) → (∀ b o, s.heap.get? b = some o → h'.get? b = some o) → Q (.ref s.heap.objs.size) { s with heap := h', toks := tk }) :
    wpAny (model P w) A (call (.type "set") [.ref l]) Q E s := by
  have isz : items.size = xs.length := by rw [← StrsAre.len_eq hi, Array.length_toList]
  obtain ⟨c, tl, hmro⟩ := F.called_set.mro
  have hmade := F.called_set.made
  have hsub := F.called_set.sub
  refine wpAny_call (codeAny_of_tree ?_)
  show wpAny _ _ (callAny (.type "set") _) _ _ _
  refine wpAny_pure ⟨Code.quiet_builtin _ (by decide +kernel), codeAny_builtin F.entry_type_call ?_⟩
  rw [Around.under_plain (weight_type_call_type "set" [.ref l] []) rfl]
  have h1 := F.called_set.notType
  have h2 := F.called_set.canCreate
  have hct := F.typeCall_set_1 (.ref l)
  repeat (any_goals (first | assumption | wp_step))
  refine codeAny_mono (code_set_led1 (.ref l) (E := E) (Q₁ := fun obj s₁ => obj = .ref s.heap.objs.size ∧ s₁ = { s with heap := s.heap.push ({ cls := .type "set", dict := none, data := .set #[] 0 (.fresh 0 0 (!w.params.followText "set-order")) } : Obj) }) ⟨rfl, rfl⟩) fun r s₁ hr => ?_
  cases r with
  | error e => exact hr
  | ok fl =>
    cases fl with
    | ret obj =>
      obtain ⟨rfl, rfl⟩ := hr
      have hS : (s.heap.push ({ cls := .type "set", dict := none, data := .set #[] 0 (.fresh 0 0 (!w.params.followText "set-order")) } : Obj)).get? s.heap.objs.size = some ({ cls := .type "set", dict := none, data := .set #[] 0 (.fresh 0 0 (!w.params.followText "set-order")) } : Obj) := Heap.get?_push_size _ rfl
      have hT : Shared.TypeIs { s with heap := s.heap.push ({ cls := .type "set", dict := none, data := .set #[] 0 (.fresh 0 0 (!w.params.followText "set-order")) } : Obj) } (.ref s.heap.objs.size) "set" := ⟨_, hS, rfl⟩
      have hli := F.called_set.init.lookup
      have hbi := F.called_set.init.bind (.ref s.heap.objs.size)
      repeat (any_goals (first | assumption | wp_step))
      refine codeAny_mono (codeAny_call_builtin (R := wants (fun r s₂ => r = .none ∧ ∃ h' tk S m, s₂ = { s with heap := h', toks := tk } ∧ SetAtG (PySem.strKind P w) h' s.heap.objs.size S m ∧ m ≤ xs.length ∧ (∀ k, S k = true ↔ k ∈ xs) ∧
          (∀ b o, s.heap.get? b = some o → h'.get? b = some o)) E) F.called_set.init.plain F.entry_set_init (check_set_init_1 hT ?_)) fun r₂ s₂ hr₂ => ?_
      · obtain ⟨ol, hol, hcl, nl, hdl⟩ := hl
        obtain ⟨ocls, odict, odata, oslots⟩ := ol
        simp only at hcl hdl
        subst hcl; subst hdl
        have hol1 : (s.heap.push ({ cls := .type "set", dict := none, data := .set #[] 0 (.fresh 0 0 (!w.params.followText "set-order")) } : Obj)).get? l = some { cls := .type "list", dict := odict, data := .seq items nl, slots := oslots } := Heap.get?_push_of_some _ hol
        have hsls := F.sub_list_set
        have hslf := F.sub_list_frozenset
        have hne : (Value.type "list" == Value.type "dict") = false := by decide
        have hl1 : (s.heap.push ({ cls := .type "set", dict := none, data := .set #[] 0 (.fresh 0 0 (!w.params.followText "set-order")) } : Obj)).IsList l items := ⟨_, hol1, rfl, nl, rfl⟩
        unfold Builtin.«set.__init__» noKeywords Builtin.Frozenset.updateFrom
        generalize hPI : pyIter = PI
        wp_walk
        subst hPI
        refine wpAny_pyIter_list hl1 ?_
        refine wpAny_bind (wpAny_runValue ?_)
        have llt : l < s.heap.objs.size := Heap.lt_size hol
        have hh3 : A.in1.in1.in1.handled = none := by simp [hh]
        have z1 : (s.heap.push ({ cls := .type "set", dict := none, data := .set #[] 0 (.fresh 0 0 (!w.params.followText "set-order")) } : Obj)).objs.size = s.heap.objs.size + 1 := Heap.size_push ..
        have ne1 : l ≠ (s.heap.push ({ cls := .type "set", dict := none, data := .set #[] 0 (.fresh 0 0 (!w.params.followText "set-order")) } : Obj)).objs.size := by rw [z1]; exact Nat.ne_of_lt (Nat.lt_succ_of_lt llt)
        have hnf : s.heap.objs.size ∉ [(s.heap.push ({ cls := .type "set", dict := none, data := .set #[] 0 (.fresh 0 0 (!w.params.followText "set-order")) } : Obj)).objs.size, l] := by
          rw [z1]; intro z
          rcases List.mem_cons.mp z with z | z
          · exact Nat.ne_of_lt (Nat.lt_succ_self _) z
          · exact Nat.ne_of_gt llt (List.mem_singleton.mp z)
        have hval : ∀ (i : Nat) (v : Value), items[i]? = some v → ∃ x t, xs[i]? = some x ∧ v = .str x t := fun i v q => by
          have q2 : items.toList[i]? = some v := by rw [Array.getElem?_toList]; exact q
          obtain ⟨t, e⟩ := SS.strs_at hi i v q2
          have il : i < xs.length := by rw [← isz, ← Array.length_toList]; exact (List.getElem?_eq_some_iff.mp q2).1
          refine ⟨_, t, ?_, e⟩
          rw [List.getD_eq_getElem?_getD, List.getElem?_eq_getElem il]; rfl
        refine upd_loop ((Walks.list hh3 _ l ne1 items).toS) s.heap.objs.size hnf xs isz hb hval (items.size - 0) 0 _ (by omega) (Nat.zero_le _)
          ⟨⟨_, Heap.get?_push_size _ rfl, rfl, rfl⟩, (hl1.push _)⟩ ⟨_, 0, SetAtG.fresh (kd := PySem.strKind P w) (Heap.get?_push_of_some _ hS), Nat.le_refl _, fun k => (by simp)⟩ fun s' S m mv hS' hm hk => ?_
        obtain ⟨h', g2, d', tk', os'⟩ := s'
        have eg : g2 = s.gens := mv.gens
        have ed : d' = s.drawn := mv.drawn
        have eo : os' = s.os := mv.os
        subst eg; subst ed; subst eo
        show wpAny _ _ _ _ _ _
        refine wpAny_pure ?_
        show wpAny _ _ (ret Value.none) _ _ _
        refine wpAny_pure ⟨rfl, h', tk', S, m, rfl, hS', by rw [← isz]; exact hm, hk, fun b o e => mv.heap b o (fun z => ?_) (Heap.get?_push_of_some _ (Heap.get?_push_of_some _ e))⟩
        have lb := Heap.lt_size e
        rcases List.mem_cons.mp z with z | z
        · exact Nat.ne_of_lt lb z
        · exact Nat.ne_of_lt (Nat.lt_succ_of_lt lb) ((List.mem_singleton.mp z).trans z1)
      · cases r₂ with
        | error e => exact hr₂
        | ok fl₂ =>
          cases fl₂ with
          | ret r =>
            obtain ⟨rfl, h', tk, S, m, rfl, hS', hm, hk, kp⟩ := hr₂
            repeat (any_goals (first | assumption | wp_step))
            exact hQ _ _ _ _ hS' hm hk kp
          | _ => exact hr₂.elim
    | _ => exact hr.elim
end
end Ag

set_option Elab.async false
set_option linter.all false
set_option maxRecDepth 100000
set_option maxHeartbeats 4000000
namespace Ag
open PySem PySem.Spec PyProof.Rows L2
section
variable {P : Program} {w : World} {A : Around} {E : Value → Shared → Prop} {s : Shared}

theorem strs_pick : ∀ (l : List (Int × Value)), ElemsOf (PySem.strKind P w) l → ∃ xs : List Str, StrsAre (l.map (·.2)) xs ∧ ∀ k, k ∈ xs ↔ ∃ e ∈ l, (PySem.strKind P w).is k e.2 = true
  | [], _ => ⟨[], .nil, fun k => by simp⟩
  | e :: l, h => by
    obtain ⟨xs, r, m⟩ := strs_pick l h.tail
    obtain ⟨⟨k, hk, _⟩, _⟩ := h.head
    obtain ⟨t, q⟩ := Value.isStrOf_shape (x := k) (v := e.2) hk
    refine ⟨k :: xs, ?_, fun j => ?_⟩
    · show StrsAre (e.2 :: l.map (·.2)) _
      rw [q]; exact .cons k t r
    · rw [List.mem_cons, m j]
      constructor
      · rintro (rfl | ⟨f, hf, z⟩)
        · exact ⟨e, List.mem_cons_self, hk⟩
        · exact ⟨f, List.mem_cons_of_mem _ hf, z⟩
      · rintro ⟨f, hf, z⟩
        rcases List.mem_cons.mp hf with rfl | hf
        · exact .inl ((PySem.strKind P w).inj _ _ _ z hk)
        · exact .inr ⟨f, hf, z⟩

theorem strs_of_perm : ∀ {us vs : List Value} {xs : List Str}, us.Perm vs → StrsAre vs xs → ∃ ys : List Str, StrsAre us ys ∧ ys.Perm xs := by
  intro us vs xs p
  induction p generalizing xs with
  | nil => intro h; cases h; exact ⟨[], .nil, .nil⟩
  | cons v _ ih =>
    intro h
    cases h with
    | cons x t r =>
      obtain ⟨ys, a, b⟩ := ih r
      exact ⟨x :: ys, .cons x t a, b.cons x⟩
  | swap v u l =>
    intro h
    cases h with
    | cons x t r =>
      cases r with
      | cons y t' r' => exact ⟨y :: x :: _, .cons y t' (.cons x t r'), .swap x y _⟩
  | trans _ _ ih1 ih2 =>
    intro h
    obtain ⟨ys, a, b⟩ := ih2 h
    obtain ⟨zs, c, d⟩ := ih1 a
    exact ⟨zs, c, d.trans b⟩

theorem strsAre_inj : ∀ {us : List Value} {xs ys : List Str}, StrsAre us xs → StrsAre us ys → xs = ys
  | _, _, _, .nil, h => by cases h; rfl
  | _, _, _, .cons x t r, h => by
    cases h with
    | cons y t' r' => rw [strsAre_inj r r']

theorem strs_nodup : ∀ {l : List (Int × Value)} {xs : List Str}, StrsAre (l.map (·.2)) xs → l.Pairwise (Apart (PySem.strKind P w)) → ElemsOf (PySem.strKind P w) l → xs.Nodup
  | [], _, .nil, _, _ => List.nodup_nil
  | e :: l, _, h, nd, el => by
    obtain ⟨v, hv⟩ : ∃ v, e.2 = v := ⟨_, rfl⟩
    rw [List.map_cons, hv] at h
    cases h with
    | cons x t r =>
      obtain ⟨n1, n2⟩ := List.pairwise_cons.mp nd
      refine List.nodup_cons.mpr ⟨fun hx => ?_, strs_nodup r n2 el.tail⟩
      obtain ⟨ys, r', m⟩ := strs_pick (P := P) (w := w) l el.tail
      have same : ys = _ := strsAre_inj r' r
      subst same
      obtain ⟨f, hf, z⟩ := (m x).mp hx
      have := n1 f hf x (by rw [hv]; exact strKind_is _ _ _ _)
      rw [z] at this; cases this

theorem sorted_of_strset {a : Addr} {S : Str → Bool} {m : Nat} {Q : Value → Shared → Prop} (R : SetAtG (PySem.strKind P w) s.heap a S m) (hh : A.handled = none)
    (hQ : ∀ s' p (out : Array Value) (c : Nat) (ys : List Str), (∀ b o, s.heap.get? b = some o → s'.heap.get? b = some o) → s'.gens = s.gens → s'.os = s.os → s.heap.objs.size ≤ p →
      s'.heap.get? p = some (seqObj "list" out c) → StrsAre out.toList ys → sortedS ys = true → ys.Nodup → (∀ k, k ∈ ys ↔ S k = true) → ys.length = m → Q (.ref p) s') :
    wpAny (model P w) A (call (.builtin "sorted") [.ref a]) Q E s := by
  obtain ⟨o, es, ep, t, R⟩ := R
  obtain ⟨xs, hxs, mx⟩ := strs_pick (P := P) (w := w) es.toList R.els
  have nx := strs_nodup hxs R.nd R.els
  refine Calls.call_function_entry kind_sorted plain_sorted entry_sorted (args_sorted1 _) ?_
  unfold Builtin.«sorted»
  refine wpAny_bind (m := checkCount "sorted" 1 1 _) (wpAny_pure ?_)
  refine wpAny_bind (collect_set (A := A.in1) hh ⟨o, R.at_, R.ex.1, R.dat⟩ R.fit R.room R.ris R.led fun s1 vs k1 hz g1 o1 pm => ?_)
  have vl : vs.length = m := by rw [pm.length_eq, List.length_map, Array.length_toList]; exact R.num
  obtain ⟨zs, hzs, pz⟩ := strs_of_perm pm hxs
  have mb : m < scanBound := R.num ▸ R.room
  have small : vs.length ≤ sizeLine := by rw [vl]; exact fits_of_scanBound mb
  refine wpAny_bind (wpAny_newList ?_ small)
  have hoL : (s1.heap.push (seqObj "list" vs.toArray 0)).get? s1.heap.objs.size = some (seqObj "list" vs.toArray 0) := Heap.get?_push_size _ rfl
  refine wpAny_bind (wpAny_holding (wpAny_call_entry slot_list_sort ⟨_, hoL, rfl⟩ entry_list_sort (list_sort_treeKAny strKind_oneLt hoL hzs.keysOf (fun v₁ v₂ rest e => keyKind_strs (by rw [← e]; exact hzs)) small fun st' hp hs => ⟨_, rfl, ?_⟩) (args_list_sort _)))
  obtain ⟨ys, a1, a2, a3⟩ := sorted_out_str hzs hp hs
  obtain ⟨c, hc⟩ := sortedHeap_at (vs := vs) (out := (arrOf st').map (·.2)) hoL
  have py : ys.Perm xs := a2.trans pz
  refine wpAny_pure ⟨_, rfl, hQ _ s1.heap.objs.size _ c ys (fun b u e => ?_) g1 o1 hz hc a1 a3 (py.nodup_iff.mpr nx) (fun k => by rw [py.mem_iff, mx k, ← R.mem k]) ?_⟩
  · have q := k1 b u e
    have lt := Heap.lt_size q
    show (sortedHeap (s1.heap.push (seqObj "list" vs.toArray 0)) s1.heap.objs.size vs _).get? b = some u
    rw [sortedHeap_old (Nat.ne_of_lt lt) (by rw [size_push']; exact Nat.lt_succ_of_lt lt)]
    exact Heap.get?_push_of_some _ q
  · have h1 := StrsAre.len_eq hzs
    rw [a2.length_eq, ← h1, vl]
end

/-! ### over the layer -/
/-- the set of the texts xs, at a -/
def StrSet (P : Program) (w : World) (a : Addr) (xs : List Str) : HO := .ext fun h => ∃ S m, SetAtG (PySem.strKind P w) h a S m ∧ m ≤ xs.length ∧ ∀ k, S k = true ↔ k ∈ xs
def rSetS (K : PySem.W.Frag) (P : Program) (w : World) : List V → Hp → VK → Prop := fun vs H Q => ∃ (a : Addr) (xs : List Str), vs = [V.ref a] ∧ (SqL K H a (xs.map V.str)) ∧ xs.length < 4000 ∧
  ∀ p, H p = none → Q (.ref p) (upd H p (StrSet P w p xs))
def rSortSetS (P : Program) (w : World) : List V → Hp → VK → Prop := fun vs H Q => ∃ (a : Addr) (xs : List Str), vs = [V.ref a] ∧ H a = some (StrSet P w a xs) ∧
  ∀ ys p, sortedS ys = true → ys.Nodup → (∀ k, k ∈ ys ↔ k ∈ xs) → H p = none → Q (.ref p) (upd H p (.lst (ys.map V.str)))
theorem cr_setS {X : Cx} (hc : X.calm = true) : CallR X (.type "set") (rSetS X.K X.prog X.w) := by
  intro pins s σ H vs us Q I r h
  obtain ⟨a, xs, rfl, hs, hb, q⟩ := h
  obtain ⟨its, rv, hl, _⟩ := I.list hs
  rw [Vals.ref1 r]
  have hn : H s.heap.objs.size = none := I.hok.fresh (Nat.le_refl _)
  refine set_of_strs (P := X.prog) (w := X.w) (I.ok.hd hc) hl.isList rv.strs (by unfold scanBound; omega) fun h' tk S m hS hm hk kp => ?_
  refine ⟨.ref s.heap.objs.size, upd H s.heap.objs.size (StrSet X.prog X.w s.heap.objs.size xs), I.laid (t' := tk) kp (Nat.le_refl _) ?_, rfl, q _ hn⟩
  refine ⟨⟨S, m, hS, hm, hk⟩, ?_, ?_⟩
  · obtain ⟨o, es, ep, t, R⟩ := hS
    exact ⟨o, R.at_⟩
  · rintro h1 h2 ⟨S, m, hS, hm, hk⟩ e
    exact ⟨S, m, hS.keep e, hm, hk⟩
theorem cr_sortSetS {X : Cx} (hc : X.calm = true) : CallR X (.builtin "sorted") (rSortSetS X.prog X.w) := by
  intro pins s σ H vs us Q I r h
  obtain ⟨a, xs, rfl, ha, q⟩ := h
  obtain ⟨⟨S, m, hS, hm, hk⟩, _⟩ := I.hok a _ ha
  rw [Vals.ref1 r]
  refine sorted_of_strset hS (I.ok.hd hc) fun s' p out c ys kp g o hp hg hout srt nd mem hlen => ?_
  have hn : H p = none := I.hok.fresh hp
  have mb : m < scanBound := by
    obtain ⟨o, es, ep, t, R⟩ := hS
    exact R.num ▸ R.room
  have small : (ys.map V.str).length ≤ sizeLine := by rw [List.length_map, hlen]; exact fits_of_scanBound mb
  have J : Inv X pins σ (upd H p (.lst (ys.map V.str))) { s with heap := s'.heap, gens := s'.gens, drawn := s'.drawn, toks := s'.toks } :=
    I.call (ch := []) (Un.laid kp hp hn) (I.hok.laid kp hp ⟨small, out.toList, c, vals_of_strs hout, hg⟩) (by rw [g]; exact I.bare) (fun _ z => nomatch z)
  have e : s' = { s with heap := s'.heap, gens := s'.gens, drawn := s'.drawn, toks := s'.toks } := by
    cases s'; cases s; cases o; rfl
  rw [e]
  exact ⟨.ref p, _, J, rfl, q ys p srt nd (fun k => (mem k).trans (hk k)) hn⟩
end Ag

set_option Elab.async false
set_option linter.all false
set_option maxRecDepth 100000
set_option maxHeartbeats 1000000
/-! Data: what a reading of an expression over plain values gives, with the heap only growing. -/
namespace Ag
open PySem PySem.Spec PyProof.Rows L2

/-! ### heaps that keep -/
theorem _root_.L2.Same.newA {H : Hp} {p : Addr} {o : HO} (h : H p = none) : Same H (upd H p o) := fun a u e => by
  rw [upd_ne (ne_of_none e h)]; exact e
theorem _root_.L2.Same.rdA {H H' : Hp} {a : Addr} {u : HO} (e : Same H H') (h : Rd H a u) : Rd H' a u :=
  h.elim (fun z => .inl (e _ _ z)) fun ⟨o, z⟩ => .inr ⟨o, e _ _ z⟩
theorem _root_.L2.Same.slA {K : PySem.W.Frag} {H H' : Hp} {a : Addr} {xs : List V} (e : Same H H') (h : SqL K H a xs) : SqL K H' a xs := h.imp e.rdA id
theorem _root_.L2.Same.stA {K : PySem.W.Frag} {H H' : Hp} {a : Addr} {xs : List V} (e : Same H H') (h : SqT K H a xs) : SqT K H' a xs := h.imp e.rdA id
theorem _root_.L2.Same.freshA {H H' : Hp} {p : Addr} (e : Same H H') (h : H' p = none) : H p = none := e.free h

/-! ### plain data -/
mutual
theorem dp_mono {K : PySem.W.Frag} {H H' : Hp} (e : Same H H') : ∀ {v : V} {d : PyData}, Dp K H v d → Dp K H' v d
  | _, _, .non => .non
  | _, _, .bl b => .bl b
  | _, _, .int i => .int i
  | _, _, .str x => .str x
  | _, _, .lst h r => .lst (e.slA h) (dps_mono e r)
  | _, _, .tup h r => .tup (e.stA h) (dps_mono e r)
theorem dps_mono {K : PySem.W.Frag} {H H' : Hp} (e : Same H H') : ∀ {vs : List V} {ds : List PyData}, DpAll K H vs ds → DpAll K H' vs ds
  | _, _, .nil => .nil
  | _, _, .cons h r => .cons (dp_mono e h) (dps_mono e r)
end
theorem dps_len {K : PySem.W.Frag} {H : Hp} : ∀ {vs : List V} {ds : List PyData}, DpAll K H vs ds → vs.length = ds.length
  | _, _, .nil => rfl
  | _, _, .cons _ r => by rw [List.length_cons, List.length_cons, dps_len r]
theorem dps_get {K : PySem.W.Frag} {H : Hp} : ∀ {vs : List V} {ds : List PyData} {i : Nat} {d : PyData}, DpAll K H vs ds → ds[i]? = some d → ∃ v, vs[i]? = some v ∧ Dp K H v d
  | _, _, _, _, .nil, h => by simp at h
  | _, _, 0, _, .cons a r, h => by simp at h; subst h; exact ⟨_, rfl, a⟩
  | _, _, i + 1, _, .cons a r, h => by
    obtain ⟨v, e, q⟩ := dps_get (i := i) r (by simpa using h)
    exact ⟨v, by simpa using e, q⟩
theorem dps_get' {K : PySem.W.Frag} {H : Hp} : ∀ {vs : List V} {ds : List PyData} {i : Nat} {v : V}, DpAll K H vs ds → vs[i]? = some v → ∃ d, ds[i]? = some d ∧ Dp K H v d
  | _, _, _, _, .nil, h => by simp at h
  | _, _, 0, _, .cons a r, h => by simp at h; subst h; exact ⟨_, rfl, a⟩
  | _, _, i + 1, _, .cons a r, h => by
    obtain ⟨v, e, q⟩ := dps_get' (i := i) r (by simpa using h)
    exact ⟨v, by simpa using e, q⟩
theorem dps_app {K : PySem.W.Frag} {H : Hp} : ∀ {vs us : List V} {ds es : List PyData}, DpAll K H vs ds → DpAll K H us es → DpAll K H (vs ++ us) (ds ++ es)
  | _, _, _, _, .nil, q => q
  | _, _, _, _, .cons a r, q => .cons a (dps_app r q)
theorem dps_take {K : PySem.W.Frag} {H : Hp} : ∀ {vs : List V} {ds : List PyData} (n : Nat), DpAll K H vs ds → DpAll K H (vs.take n) (ds.take n)
  | _, _, 0, _ => .nil
  | _, _, _ + 1, .nil => .nil
  | _, _, n + 1, .cons a r => .cons a (dps_take n r)
theorem dps_drop {K : PySem.W.Frag} {H : Hp} : ∀ {vs : List V} {ds : List PyData} (n : Nat), DpAll K H vs ds → DpAll K H (vs.drop n) (ds.drop n)
  | _, _, 0, h => h
  | _, _, _ + 1, .nil => .nil
  | _, _, n + 1, .cons _ r => dps_drop n r
theorem dps_strs {K : PySem.W.Frag} {H : Hp} : ∀ (xs : List Str), DpAll K H (xs.map V.str) (xs.map .str)
  | [] => .nil
  | x :: xs => .cons (.str x) (dps_strs xs)
theorem strs_dps {K : PySem.W.Frag} {H : Hp} : ∀ {xs : List Str} {vs : List V}, DpAll K H vs (xs.map .str) → vs = xs.map V.str
  | [], _, h => by cases h; rfl
  | x :: xs, _, h => by
    cases h with
    | cons a r => cases a; rw [strs_dps r]; rfl
theorem ints_dps {K : PySem.W.Frag} {H : Hp} : ∀ {xs : List Int} {vs : List V}, DpAll K H vs (xs.map .int) → vs = xs.map V.int
  | [], _, h => by cases h; rfl
  | x :: xs, _, h => by
    cases h with
    | cons a r => cases a; rw [ints_dps r]; rfl
theorem bls_dps {K : PySem.W.Frag} {H : Hp} : ∀ {xs : List Bool} {vs : List V}, DpAll K H vs (xs.map .bool) → vs = xs.map V.bl
  | [], _, h => by cases h; rfl
  | x :: xs, _, h => by
    cases h with
    | cons a r => cases a; rw [bls_dps r]; rfl


/-! ### data whose lists stand where F allows -/
def KL (K : PySem.W.Frag) (a : Addr) (xs : List V) : Prop := ∃ (o : Obj) (its : Array Value) (n : Nat), K.lookup a = some o ∧ o.cls = .type "list" ∧ o.dict = none ∧ o.data = .seq its n ∧ its.size ≤ sizeLine ∧ Vals xs its.toList
mutual
inductive Df (K : PySem.W.Frag) (F : Addr → Prop) (H : Hp) : V → PyData → Prop
  | non : Df K F H .non .none
  | bl (b : Bool) : Df K F H (.bl b) (.bool b)
  | int (i : Int) : Df K F H (.int i) (.int i)
  | str (x : Str) : Df K F H (.str x) (.str x)
  | lst {a : Addr} {xs : List V} {ds : List PyData} : (Rd H a (.lst xs) ∧ F a) ∨ KL K a xs → DfAll K F H xs ds → Df K F H (.ref a) (.list ds)
  | tup {a : Addr} {xs : List V} {ds : List PyData} : SqT K H a xs → DfAll K F H xs ds → Df K F H (.ref a) (.tuple ds)
inductive DfAll (K : PySem.W.Frag) (F : Addr → Prop) (H : Hp) : List V → List PyData → Prop
  | nil : DfAll K F H [] []
  | cons {v : V} {vs : List V} {d : PyData} {ds : List PyData} : Df K F H v d → DfAll K F H vs ds → DfAll K F H (v :: vs) (d :: ds)
end
section
variable {K : PySem.W.Frag} {F G : Addr → Prop} {H H' : Hp}
mutual
theorem df_dp : ∀ {v : V} {d : PyData}, Df K F H v d → Dp K H v d
  | _, _, .non => .non
  | _, _, .bl b => .bl b
  | _, _, .int i => .int i
  | _, _, .str x => .str x
  | _, _, .lst h r => .lst (h.imp (fun z => z.1) id) (dfs_dps r)
  | _, _, .tup h r => .tup h (dfs_dps r)
theorem dfs_dps : ∀ {vs : List V} {ds : List PyData}, DfAll K F H vs ds → DpAll K H vs ds
  | _, _, .nil => .nil
  | _, _, .cons h r => .cons (df_dp h) (dfs_dps r)
end
mutual
theorem dp_df : ∀ {v : V} {d : PyData}, Dp K H v d → Df K (fun a => H a ≠ none) H v d
  | _, _, .non => .non
  | _, _, .bl b => .bl b
  | _, _, .int i => .int i
  | _, _, .str x => .str x
  | _, _, .lst h r => .lst (h.imp (fun z => ⟨z, by rcases z with z | ⟨o, z⟩ <;> (rw [z]; exact fun q => nomatch q)⟩) id) (dps_dfs r)
  | _, _, .tup h r => .tup h (dps_dfs r)
theorem dps_dfs : ∀ {vs : List V} {ds : List PyData}, DpAll K H vs ds → DfAll K (fun a => H a ≠ none) H vs ds
  | _, _, .nil => .nil
  | _, _, .cons h r => .cons (dp_df h) (dps_dfs r)
end
mutual
theorem df_mono (e : Same H H') (f : ∀ a, F a → G a) : ∀ {v : V} {d : PyData}, Df K F H v d → Df K G H' v d
  | _, _, .non => .non
  | _, _, .bl b => .bl b
  | _, _, .int i => .int i
  | _, _, .str x => .str x
  | _, _, .lst h r => .lst (h.imp (fun z => ⟨e.rdA z.1, f _ z.2⟩) id) (dfs_mono e f r)
  | _, _, .tup h r => .tup (e.stA h) (dfs_mono e f r)
theorem dfs_mono (e : Same H H') (f : ∀ a, F a → G a) : ∀ {vs : List V} {ds : List PyData}, DfAll K F H vs ds → DfAll K G H' vs ds
  | _, _, .nil => .nil
  | _, _, .cons h r => .cons (df_mono e f h) (dfs_mono e f r)
end
theorem rd_other {a D : Addr} {u o : HO} (h : Rd H a u) (n : a ≠ D) : Rd (upd H D o) a u := by
  rcases h with h | ⟨x, h⟩
  · exact .inl (by rw [upd_ne n]; exact h)
  · exact .inr ⟨x, by rw [upd_ne n]; exact h⟩
mutual
/-- a list that the data does not hold is changed -/
theorem df_upd {D : Addr} {ys : List V} {o : HO} (hD : H D = some (.lst ys)) (nf : ¬ F D) : ∀ {v : V} {d : PyData}, Df K F H v d → Df K F (upd H D o) v d
  | _, _, .non => .non
  | _, _, .bl b => .bl b
  | _, _, .int i => .int i
  | _, _, .str x => .str x
  | _, _, .lst h r => .lst (h.imp (fun z => ⟨rd_other z.1 (fun q => nf (q ▸ z.2)), z.2⟩) id) (dfs_upd hD nf r)
  | _, _, .tup h r => .tup (h.imp (fun z => rd_other z (fun q => by
      subst q
      rcases z with z | ⟨x, z⟩ <;> (rw [hD] at z; cases z))) id) (dfs_upd hD nf r)
theorem dfs_upd {D : Addr} {ys : List V} {o : HO} (hD : H D = some (.lst ys)) (nf : ¬ F D) : ∀ {vs : List V} {ds : List PyData}, DfAll K F H vs ds → DfAll K F (upd H D o) vs ds
  | _, _, .nil => .nil
  | _, _, .cons h r => .cons (df_upd hD nf h) (dfs_upd hD nf r)
end
theorem dfs_len : ∀ {vs : List V} {ds : List PyData}, DfAll K F H vs ds → vs.length = ds.length
  | _, _, .nil => rfl
  | _, _, .cons _ r => by rw [List.length_cons, List.length_cons, dfs_len r]
theorem dfs_get : ∀ {vs : List V} {ds : List PyData} {i : Nat} {d : PyData}, DfAll K F H vs ds → ds[i]? = some d → ∃ v, vs[i]? = some v ∧ Df K F H v d
  | _, _, _, _, .nil, h => by simp at h
  | _, _, 0, _, .cons a r, h => by simp at h; subst h; exact ⟨_, rfl, a⟩
  | _, _, i + 1, _, .cons a r, h => by
    obtain ⟨v, e, q⟩ := dfs_get (i := i) r (by simpa using h)
    exact ⟨v, by simpa using e, q⟩
theorem dfs_get' : ∀ {vs : List V} {ds : List PyData} {i : Nat} {v : V}, DfAll K F H vs ds → vs[i]? = some v → ∃ d, ds[i]? = some d ∧ Df K F H v d
  | _, _, _, _, .nil, h => by simp at h
  | _, _, 0, _, .cons a r, h => by simp at h; subst h; exact ⟨_, rfl, a⟩
  | _, _, i + 1, _, .cons a r, h => by
    obtain ⟨d, e, q⟩ := dfs_get' (i := i) r (by simpa using h)
    exact ⟨d, by simpa using e, q⟩
theorem dfs_app : ∀ {vs us : List V} {ds es : List PyData}, DfAll K F H vs ds → DfAll K F H us es → DfAll K F H (vs ++ us) (ds ++ es)
  | _, _, _, _, .nil, q => q
  | _, _, _, _, .cons a r, q => .cons a (dfs_app r q)
theorem dfs_take : ∀ {vs : List V} {ds : List PyData} (n : Nat), DfAll K F H vs ds → DfAll K F H (vs.take n) (ds.take n)
  | _, _, 0, _ => .nil
  | _, _, _ + 1, .nil => .nil
  | _, _, n + 1, .cons a r => .cons a (dfs_take n r)
theorem dfs_drop : ∀ {vs : List V} {ds : List PyData} (n : Nat), DfAll K F H vs ds → DfAll K F H (vs.drop n) (ds.drop n)
  | _, _, 0, h => h
  | _, _, _ + 1, .nil => .nil
  | _, _, n + 1, .cons _ r => dfs_drop n r
theorem dfs_strs : ∀ (xs : List Str), DfAll K F H (xs.map V.str) (xs.map .str)
  | [] => .nil
  | x :: xs => .cons (.str x) (dfs_strs xs)
end
/-- what F allows, or is younger than H1 -/
def Fr (F : Addr → Prop) (H1 : Hp) : Addr → Prop := fun a => F a ∨ H1 a = none
theorem Fr.to {F : Addr → Prop} {H1 H2 : Hp} (s : Same H1 H2) : ∀ a, Fr F H2 a → Fr F H1 a := fun a z => z.imp id fun q => s.freshA q
theorem Fr.base {F : Addr → Prop} {H1 : Hp} : ∀ a, F a → Fr F H1 a := fun a z => .inl z
/-- what stands -/
def nn (H : Hp) : Addr → Prop := fun a => H a ≠ none
/-- all but lists that F does not allow are kept -/
def isLst : HO → Bool | .lst _ => true | _ => false
def SameF (F : Addr → Prop) (H H' : Hp) : Prop := ∀ a u, H a = some u → (F a ∨ isLst u = false) → H' a = some u
theorem SameF.refl {F : Addr → Prop} {H : Hp} : SameF F H H := fun _ _ h _ => h
theorem SameF.trans {F : Addr → Prop} {H H1 H2 : Hp} (a : SameF F H H1) (b : SameF F H1 H2) : SameF F H H2 := fun x u h z => b x u (a x u h z) z
theorem SameF.sub {F G : Addr → Prop} {H H1 : Hp} (a : SameF F H H1) (f : ∀ x, G x → F x) : SameF G H H1 := fun x u h z => a x u h (z.imp (f x) id)
theorem _root_.L2.Same.F {F : Addr → Prop} {H H1 : Hp} (a : Same H H1) : SameF F H H1 := fun x u h _ => a x u h
theorem SameF.upd {F : Addr → Prop} {H : Hp} {D : Addr} {ys : List V} {o : HO} (hD : H D = some (.lst ys)) (nf : ¬ F D) : SameF F H (upd H D o) := fun x u h z => by
  rw [upd_ne (fun q => ?_)]
  · exact h
  · subst q
    rw [hD] at h; cases h
    exact z.elim nf (fun q => nomatch q)
theorem rd_lstF {F : Addr → Prop} {H H1 : Hp} {a : Addr} {xs : List V} (s : SameF F H H1) (h : Rd H a (.lst xs)) (f : F a) : Rd H1 a (.lst xs) := h.elim (fun z => .inl (s _ _ z (.inl f))) fun ⟨o, z⟩ => .inr ⟨o, s _ _ z (.inl f)⟩
theorem sqt_F {K : PySem.W.Frag} {F : Addr → Prop} {H H1 : Hp} {a : Addr} {xs : List V} (s : SameF F H H1) (h : SqT K H a xs) : SqT K H1 a xs := h.imp (fun z => z.elim (fun z => .inl (s _ _ z (.inr rfl))) fun ⟨o, z⟩ => .inr ⟨o, s _ _ z (.inr rfl)⟩) id
mutual
theorem df_monoF {K : PySem.W.Frag} {F : Addr → Prop} {H H1 : Hp} (s : SameF F H H1) : ∀ {v : V} {d : PyData}, Df K F H v d → Df K F H1 v d
  | _, _, .non => .non
  | _, _, .bl b => .bl b
  | _, _, .int i => .int i
  | _, _, .str x => .str x
  | _, _, .lst h r => .lst (h.imp (fun z => ⟨rd_lstF s z.1 z.2, z.2⟩) id) (dfs_monoF s r)
  | _, _, .tup h r => .tup (sqt_F s h) (dfs_monoF s r)
theorem dfs_monoF {K : PySem.W.Frag} {F : Addr → Prop} {H H1 : Hp} (s : SameF F H H1) : ∀ {vs : List V} {ds : List PyData}, DfAll K F H vs ds → DfAll K F H1 vs ds
  | _, _, .nil => .nil
  | _, _, .cons h r => .cons (df_monoF s h) (dfs_monoF s r)
end
/-- a later heap, whose lists allow what stood -/
structure Ext (F : Addr → Prop) (H : Hp) (F2 : Addr → Prop) (H2 : Hp) : Prop where
  same : SameF F H H2
  ok : ∀ a, F a → H a ≠ none → F2 a
theorem Ext.refl {F : Addr → Prop} {H : Hp} : Ext F H F H := ⟨SameF.refl, fun _ h _ => h⟩
mutual
theorem df_in {K : PySem.W.Frag} {F : Addr → Prop} {H : Hp} : ∀ {v : V} {d : PyData}, Df K F H v d → Df K (fun a => F a ∧ H a ≠ none) H v d
  | _, _, .non => .non
  | _, _, .bl b => .bl b
  | _, _, .int i => .int i
  | _, _, .str x => .str x
  | _, _, .lst h r => .lst (h.imp (fun z => ⟨z.1, z.2, by rcases z.1 with z | ⟨o, z⟩ <;> (rw [z]; exact fun q => nomatch q)⟩) id) (dfs_in r)
  | _, _, .tup h r => .tup h (dfs_in r)
theorem dfs_in {K : PySem.W.Frag} {F : Addr → Prop} {H : Hp} : ∀ {vs : List V} {ds : List PyData}, DfAll K F H vs ds → DfAll K (fun a => F a ∧ H a ≠ none) H vs ds
  | _, _, .nil => .nil
  | _, _, .cons h r => .cons (df_in h) (dfs_in r)
end
theorem df_ext {K : PySem.W.Frag} {F F2 : Addr → Prop} {H H2 : Hp} {v : V} {d : PyData} (e : Ext F H F2 H2) (h : Df K F H v d) : Df K F2 H2 v d := df_mono (Same.refl _) (fun a z => e.ok a z.1 z.2) (df_monoF (e.same.sub fun _ z => z.1) (df_in h))
theorem dfs_ext {K : PySem.W.Frag} {F F2 : Addr → Prop} {H H2 : Hp} {v : List V} {d : List PyData} (e : Ext F H F2 H2) (h : DfAll K F H v d) : DfAll K F2 H2 v d := dfs_mono (Same.refl _) (fun a z => e.ok a z.1 z.2) (dfs_monoF (e.same.sub fun _ z => z.1) (dfs_in h))

theorem small5 {n : Nat} (h : n ≤ 100000) : n ≤ sizeLine := Nat.le_trans h (by decide)
theorem lt5 {n : Nat} (h : n < 100000) : n < sizeLine := Nat.lt_of_lt_of_le h (by decide)

/-! ### what evaluates to what, the heap growing -/
def ED (K : PySem.W.Frag) (te : TE) (σ : L2.St) (F : Addr → Prop) (H : Hp) (d : PyData) : Prop := ∀ H1, Same H H1 → ∀ Q : VK, (∀ v H2, Same H1 H2 → Df K (Fr F H1) H2 v d → Q v H2) → te σ H1 Q
def ET (tt : TT) (σ : L2.St) (H : Hp) (b : Bool) : Prop := ∀ H1, Same H H1 → ∀ Q : Bool → Hp → Prop, (∀ H2, Same H1 H2 → Q b H2) → tt σ H1 Q
def EA (K : PySem.W.Frag) (ta : TA) (σ : L2.St) (F : Addr → Prop) (H : Hp) (ds : List PyData) : Prop := ∀ H1, Same H H1 → ∀ Q : List V → Hp → Prop, (∀ vs H2, Same H1 H2 → DfAll K (Fr F H1) H2 vs ds → Q vs H2) → ta σ H1 Q
def EO (to : TO) (σ : L2.St) (H : Hp) (o : Option Int) : Prop := ∀ H1, Same H H1 → ∀ Q : Option Int → Hp → Prop, (∀ H2, Same H1 H2 → Q o H2) → to σ H1 Q

section
variable {K : PySem.W.Frag} {σ : L2.St} {F : Addr → Prop} {H H' : Hp} {ta tb te tc : TE} {t u : TT} {d e : PyData}
theorem ED.mono (s : Same H H') (h : ED K te σ F H d) : ED K te σ F H' d := fun H1 a Q q => h H1 (s.trans a) Q q
theorem ET.mono {b : Bool} (s : Same H H') (h : ET t σ H b) : ET t σ H' b := fun H1 a Q q => h H1 (s.trans a) Q q
theorem ed_var {i : Nat} {v : V} (h : σ[i]? = some (some v)) (hd : Df K F H v d) : ED K (tVar i) σ F H d := fun H1 s Q q => ⟨v, h, q v H1 (Same.refl _) (df_mono s Fr.base hd)⟩
theorem ed_c {v : V} (hd : ∀ F H, Df K F H v d) : ED K (tC v) σ F H d := fun H1 _ _ q => q v H1 (Same.refl _) (hd _ H1)
theorem ed_int {i : Int} : ED K (tC (.int i)) σ F H (.int i) := ed_c fun _ _ => .int i
theorem ed_str {x : Str} : ED K (tC (.str x)) σ F H (.str x) := ed_c fun _ _ => .str x
theorem ed_bl {b : Bool} : ED K (tC (.bl b)) σ F H (.bool b) := ed_c fun _ _ => .bl b
theorem ed_non : ED K (tC .non) σ F H .none := ed_c fun _ _ => .non
theorem ea_nil : EA K tNil σ F H [] := fun H1 _ _ q => q [] H1 (Same.refl _) .nil
theorem ea_cons {tr : TA} {ds : List PyData} (h : ED K te σ F H d) (r : EA K tr σ F H ds) : EA K (tCons te tr) σ F H (d :: ds) := fun H1 s Q q =>
  h H1 s _ fun v H2 s2 hv => r H2 (s.trans s2) _ fun vs H3 s3 hvs => q (v :: vs) H3 (s2.trans s3) (.cons (df_mono s3 (fun _ z => z) hv) (dfs_mono (Same.refl _) (Fr.to s2) hvs))
theorem ed_tup {ta : TA} {ds : List PyData} (h : EA K ta σ F H ds) (hl : ds.length ≤ 100000) : ED K (tTup ta) σ F H (.tuple ds) := fun H1 s Q q =>
  h H1 s _ fun vs H2 s2 hv => ⟨by rw [dfs_len hv]; exact small5 hl, fun p hp => q _ _ (s2.trans (Same.newA hp)) (.tup (.of upd_same) (dfs_mono (Same.newA hp) (fun _ z => z) hv))⟩
theorem ed_lst {ta : TA} {ds : List PyData} (h : EA K ta σ F H ds) (hl : ds.length ≤ 100000) : ED K (tLst ta) σ F H (.list ds) := fun H1 s Q q =>
  h H1 s _ fun vs H2 s2 hv => ⟨by rw [dfs_len hv]; exact small5 hl, fun p hp => q _ _ (s2.trans (Same.newA hp)) (.lst (.inl ⟨.inl upd_same, .inr (s2.freshA hp)⟩) (dfs_mono (Same.newA hp) (fun _ z => z) hv))⟩

/-- an operation of two values, read by its rule -/
def RD (K : PySem.W.Frag) (r : R2) (d e f : PyData) : Prop := ∀ (F : Addr → Prop) x y H1, Df K F H1 x d → Df K F H1 y e → ∀ Q : VK, (∀ v H2, Same H1 H2 → Df K (fun a => F a ∨ H1 a = none) H2 v f → Q v H2) → r x y H1 Q
theorem ed_op {r : R2} {f : PyData} (ha : ED K ta σ F H d) (hb : ED K tb σ F H e) (hr : RD K r d e f) : ED K (tOp r ta tb) σ F H f := fun H1 s Q q =>
  ha H1 s _ fun x H2 s2 hx => hb H2 (s.trans s2) _ fun y H3 s3 hy => hr (Fr F H1) x y H3 (df_mono s3 (fun _ z => z) hx) (df_mono (Same.refl _) (Fr.to s2) hy) Q fun v H4 s4 hv =>
    q v H4 ((s2.trans s3).trans s4) (df_mono (Same.refl _) (fun _ z => z.elim id fun e => .inr ((s2.trans s3).freshA e)) hv)
theorem rd_int {C : Int → Int → Prop} {g : Int → Int → Int} {i j : Int} (hc : C i j) : RD K (rI C fun i j => .int (g i j)) (.int i) (.int j) (.int (g i j)) := fun F x y H1 hx hy Q q => by
  cases hx; cases hy; exact ⟨i, j, rfl, rfl, hc, q _ _ (Same.refl _) (.int _)⟩
theorem rd_int0 {g : Int → Int → Int} {i j : Int} : RD K (rI0 fun i j => .int (g i j)) (.int i) (.int j) (.int (g i j)) := fun F x y H1 hx hy Q q => by
  cases hx; cases hy; exact ⟨i, j, rfl, rfl, q _ _ (Same.refl _) (.int _)⟩
theorem rd_cmp {g : Int → Int → Bool} {i j : Int} : RD K (rI0 fun i j => .bl (g i j)) (.int i) (.int j) (.bool (g i j)) := fun F x y H1 hx hy Q q => by
  cases hx; cases hy; exact ⟨i, j, rfl, rfl, q _ _ (Same.refl _) (.bl _)⟩
theorem ed_add {i j : Int} (ha : ED K ta σ F H (.int i)) (hb : ED K tb σ F H (.int j)) : ED K (tOp (rI0 fun i j => .int (i + j)) ta tb) σ F H (.int (i + j)) := ed_op ha hb rd_int0
theorem ed_sub {i j : Int} (ha : ED K ta σ F H (.int i)) (hb : ED K tb σ F H (.int j)) : ED K (tOp (rI0 fun i j => .int (i - j)) ta tb) σ F H (.int (i - j)) := ed_op ha hb rd_int0
theorem ed_lt {i j : Int} (ha : ED K ta σ F H (.int i)) (hb : ED K tb σ F H (.int j)) : ED K (tOp (rI0 fun i j => .bl (decide (i < j))) ta tb) σ F H (.bool (decide (i < j))) := ed_op ha hb rd_cmp
theorem ed_le {i j : Int} (ha : ED K ta σ F H (.int i)) (hb : ED K tb σ F H (.int j)) : ED K (tOp (rI0 fun i j => .bl (decide (i ≤ j))) ta tb) σ F H (.bool (decide (i ≤ j))) := ed_op ha hb rd_cmp
theorem ed_gt {i j : Int} (ha : ED K ta σ F H (.int i)) (hb : ED K tb σ F H (.int j)) : ED K (tOp (rI0 fun i j => .bl (decide (j < i))) ta tb) σ F H (.bool (decide (j < i))) := ed_op ha hb rd_cmp
theorem ed_ge {i j : Int} (ha : ED K ta σ F H (.int i)) (hb : ED K tb σ F H (.int j)) : ED K (tOp (rI0 fun i j => .bl (decide (j ≤ i))) ta tb) σ F H (.bool (decide (j ≤ i))) := ed_op ha hb rd_cmp
theorem ed_eqD (ha : ED K ta σ F H d) (hb : ED K tb σ F H e) (h1 : SeqAt.shaped d = true) (h2 : SeqAt.shaped e = true) : ED K (tOp (rEqD K) ta tb) σ F H (.bool (PyData.eqv d e)) :=
  ed_op ha hb fun F x y H1 hx hy Q q => ⟨d, e, df_dp hx, df_dp hy, h1, h2, q _ _ (Same.refl _) (.bl _)⟩
theorem ed_neD (ha : ED K ta σ F H d) (hb : ED K tb σ F H e) (h1 : SeqAt.shaped d = true) (h2 : SeqAt.shaped e = true) : ED K (tOp (rNeD K) ta tb) σ F H (.bool (!PyData.eqv d e)) :=
  ed_op ha hb fun F x y H1 hx hy Q q => ⟨d, e, df_dp hx, df_dp hy, h1, h2, q _ _ (Same.refl _) (.bl _)⟩
theorem ed_eqS {x y : Str} (ha : ED K ta σ F H (.str x)) (hb : ED K tb σ F H (.str y)) : ED K (tOp rEq ta tb) σ F H (.bool (decide (x = y))) :=
  ed_op ha hb fun F a b H1 hx hy Q q => by
    cases hx; cases hy
    refine ⟨rfl, ?_⟩
    have e : decide (V.str x = V.str y) = decide (x = y) := by
      by_cases z : x = y
      · rw [decide_eq_true z, decide_eq_true (congrArg V.str z)]
      · rw [decide_eq_false z, decide_eq_false (fun q => z (V.str.inj q))]
    rw [e]; exact q _ _ (Same.refl _) (.bl _)
theorem ed_eqI {x y : Int} (ha : ED K ta σ F H (.int x)) (hb : ED K tb σ F H (.int y)) : ED K (tOp rEq ta tb) σ F H (.bool (decide (x = y))) :=
  ed_op ha hb fun F a b H1 hx hy Q q => by
    cases hx; cases hy
    refine ⟨rfl, ?_⟩
    have e : decide (V.int x = V.int y) = decide (x = y) := by
      by_cases z : x = y
      · rw [decide_eq_true z, decide_eq_true (congrArg V.int z)]
      · rw [decide_eq_false z, decide_eq_false (fun q => z (V.int.inj q))]
    rw [e]; exact q _ _ (Same.refl _) (.bl _)
theorem ed_neS {x y : Str} (ha : ED K ta σ F H (.str x)) (hb : ED K tb σ F H (.str y)) : ED K (tOp rNe ta tb) σ F H (.bool (!decide (x = y))) :=
  ed_op ha hb fun F a b H1 hx hy Q q => by
    cases hx; cases hy
    refine ⟨rfl, ?_⟩
    have e : decide (V.str x = V.str y) = decide (x = y) := by
      by_cases z : x = y
      · rw [decide_eq_true z, decide_eq_true (congrArg V.str z)]
      · rw [decide_eq_false z, decide_eq_false (fun q => z (V.str.inj q))]
    rw [e]; exact q _ _ (Same.refl _) (.bl _)
theorem ed_neI {x y : Int} (ha : ED K ta σ F H (.int x)) (hb : ED K tb σ F H (.int y)) : ED K (tOp rNe ta tb) σ F H (.bool (!decide (x = y))) :=
  ed_op ha hb fun F a b H1 hx hy Q q => by
    cases hx; cases hy
    refine ⟨rfl, ?_⟩
    have e : decide (V.int x = V.int y) = decide (x = y) := by
      by_cases z : x = y
      · rw [decide_eq_true z, decide_eq_true (congrArg V.int z)]
      · rw [decide_eq_false z, decide_eq_false (fun q => z (V.int.inj q))]
    rw [e]; exact q _ _ (Same.refl _) (.bl _)
theorem ed_catS {x y : Str} (ha : ED K ta σ F H (.str x)) (hb : ED K tb σ F H (.str y)) (hl : x.length + y.length ≤ 100000) :
    ED K (tOp (fun x y H Q => ∃ i j, x = .str i ∧ y = .str j ∧ i.length + j.length ≤ sizeLine ∧ Q (.str (i ++ j)) H) ta tb) σ F H (.str (x ++ y)) :=
  ed_op ha hb fun F a b H1 hx hy Q q => by
    cases hx; cases hy; exact ⟨x, y, rfl, rfl, small5 hl, q _ _ (Same.refl _) (.str _)⟩
/-- x is None -/
def isNone : PyData → Bool | .none => true | _ => false
theorem isN_of {F : Addr → Prop} {H : Hp} {x : V} (h : Df K F H x d) : decide (x = .non) = isNone d := by cases h <;> rfl
theorem ed_isN (ha : ED K ta σ F H d) : ED K (tOp (fun x y H Q => y = .non ∧ Q (.bl (decide (x = .non))) H) ta (tC .non)) σ F H (.bool (isNone d)) :=
  ed_op ha ed_non fun F a b H1 hx hy Q q => by
    cases hy; refine ⟨rfl, ?_⟩; rw [isN_of hx]; exact q _ _ (Same.refl _) (.bl _)
/-- a written item of a list, a tuple, a text -/
theorem ed_ixT {ds : List PyData} {j : Nat} (ha : ED K ta σ F H (.tuple ds)) (hb : ED K tb σ F H (.int j)) (h : ds[j]? = some d) : ED K (tOp (rIx K) ta tb) σ F H d :=
  ed_op ha hb fun F a b H1 hx hy Q q => by
    cases hy
    cases hx with
    | tup hs r =>
      obtain ⟨v, e, hv⟩ := dfs_get r h
      exact .inr (.inl ⟨_, _, _, v, rfl, rfl, hs, atI_nat e, q _ _ (Same.refl _) (df_mono (Same.refl _) (fun _ z => .inl z) hv)⟩)
theorem ed_ixL {ds : List PyData} {j : Nat} (ha : ED K ta σ F H (.list ds)) (hb : ED K tb σ F H (.int j)) (h : ds[j]? = some d) : ED K (tOp (rIx K) ta tb) σ F H d :=
  ed_op ha hb fun F a b H1 hx hy Q q => by
    cases hy
    cases hx with
    | lst hs r =>
      obtain ⟨v, e, hv⟩ := dfs_get r h
      exact .inl ⟨_, _, _, v, rfl, rfl, hs.imp (fun z => z.1) id, atI_nat e, q _ _ (Same.refl _) (df_mono (Same.refl _) (fun _ z => .inl z) hv)⟩
theorem ed_ixS {x : Str} {j c : Nat} (ha : ED K ta σ F H (.str x)) (hb : ED K tb σ F H (.int j)) (hl : x.length ≤ 100000) (h : x.cps.toList[j]? = some c) : ED K (tOp (rIx K) ta tb) σ F H (.str ⟨#[c]⟩) :=
  ed_op ha hb fun F a b H1 hx hy Q q => by
    cases hy; cases hx
    exact .inr (.inr ⟨_, _, c, rfl, rfl, small5 hl, atI_nat h, q _ _ (Same.refl _) (.str _)⟩)

/-! ### tests -/
theorem et_test {b : Bool} (h : ED K te σ F H (.bool b)) : ET (tTest te) σ H b := fun H1 s Q q => h H1 s _ fun v H2 s2 hv => by
  cases hv; exact ⟨b, rfl, q H2 s2⟩
theorem et_B {b : Bool} (h : ED K te σ F H (.bool b)) : ET (tB te) σ H b := fun H1 s Q q => h H1 s _ fun v H2 s2 hv => by
  cases hv; exact ⟨b, rfl, q H2 s2⟩
theorem et_and {a b : Bool} (h1 : ET t σ H a) (h2 : a = true → ET u σ H b) : ET (tAnd t u) σ H (a && b) := fun H1 s Q q => h1 H1 s _ fun H2 s2 => by
  cases a with
  | true => exact h2 rfl H2 (s.trans s2) Q fun H3 s3 => q H3 (s2.trans s3)
  | false => exact q H2 s2
theorem et_or {a b : Bool} (h1 : ET t σ H a) (h2 : a = false → ET u σ H b) : ET (tOr t u) σ H (a || b) := fun H1 s Q q => h1 H1 s _ fun H2 s2 => by
  cases a with
  | true => exact q H2 s2
  | false => exact h2 rfl H2 (s.trans s2) Q fun H3 s3 => q H3 (s2.trans s3)
theorem et_not {a : Bool} (h1 : ET t σ H a) : ET (tNot t) σ H (!a) := fun H1 s Q q => h1 H1 s _ fun H2 s2 => q H2 s2
theorem et_is {a b : Bool} (h : ET t σ H a) (e : a = b) : ET t σ H b := e ▸ h
theorem ed_is (h : ED K te σ F H d) (z : d = e) : ED K te σ F H e := z ▸ h
theorem ed_andV {a b : Bool} (h1 : ED K ta σ F H (.bool a)) (h2 : a = true → ED K tb σ F H (.bool b)) : ED K (tAndV ta tb) σ F H (.bool (a && b)) := fun H1 s Q q => h1 H1 s _ fun v H2 s2 hv => by
  cases hv
  refine ⟨a, rfl, ?_⟩
  cases a with
  | true => exact h2 rfl H2 (s.trans s2) Q fun v H3 s3 hv => q v H3 (s2.trans s3) (df_mono (Same.refl _) (Fr.to s2) hv)
  | false => exact q _ H2 s2 (.bl _)
theorem ed_orV {a b : Bool} (h1 : ED K ta σ F H (.bool a)) (h2 : a = false → ED K tb σ F H (.bool b)) : ED K (tOrV ta tb) σ F H (.bool (a || b)) := fun H1 s Q q => h1 H1 s _ fun v H2 s2 hv => by
  cases hv
  refine ⟨a, rfl, ?_⟩
  cases a with
  | true => exact q _ H2 s2 (.bl _)
  | false => exact h2 rfl H2 (s.trans s2) Q fun v H3 s3 hv => q v H3 (s2.trans s3) (df_mono (Same.refl _) (Fr.to s2) hv)
theorem ed_notV {a : Bool} (h1 : ED K ta σ F H (.bool a)) : ED K (tNotV ta) σ F H (.bool (!a)) := fun H1 s Q q => h1 H1 s _ fun v H2 s2 hv => by
  cases hv; exact ⟨a, rfl, q _ H2 s2 (.bl _)⟩
theorem ed_if {b : Bool} (h : ET t σ H b) (h1 : b = true → ED K ta σ F H d) (h2 : b = false → ED K tb σ F H d) : ED K (tIf t ta tb) σ F H d := fun H1 s Q q => h H1 s _ fun H2 s2 => by
  cases b with
  | true => exact h1 rfl H2 (s.trans s2) Q fun v H3 s3 hv => q v H3 (s2.trans s3) (df_mono (Same.refl _) (Fr.to s2) hv)
  | false => exact h2 rfl H2 (s.trans s2) Q fun v H3 s3 hv => q v H3 (s2.trans s3) (df_mono (Same.refl _) (Fr.to s2) hv)
theorem ed_chain {r r' : R2} {a b : Bool} {f : PyData} (ha : ED K ta σ F H d) (hb : ED K tb σ F H e) (hc : ED K tc σ F H f) (h1 : RD K r d e (.bool a)) (h2 : a = true → RD K r' e f (.bool b)) :
    ED K (tChain r r' ta tb tc) σ F H (.bool (a && b)) := fun H1 s Q q =>
  ha H1 s _ fun x H2 s2 hx => hb H2 (s.trans s2) _ fun y H3 s3 hy => h1 (fun _ => True) x y H3 (df_mono s3 (fun _ _ => trivial) hx) (df_mono (Same.refl _) (fun _ _ => trivial) hy) _ fun z H4 s4 hz => by
    cases hz
    refine ⟨a, rfl, ?_⟩
    cases a with
    | true =>
      refine hc H4 (((s.trans s2).trans s3).trans s4) _ fun w H5 s5 hw => h2 rfl (fun _ => True) y w H5 (df_mono (s4.trans s5) (fun _ _ => trivial) hy) (df_mono (Same.refl _) (fun _ _ => trivial) hw) Q fun v H6 s6 hv => ?_
      cases hv
      exact q _ H6 ((((s2.trans s3).trans s4).trans s5).trans s6) (.bl _)
    | false => exact q _ H4 ((s2.trans s3).trans s4) (.bl _)

/-! ### built-in calls -/
def RDC (K : PySem.W.Frag) (r : List V → Hp → VK → Prop) (ds : List PyData) (f : PyData) : Prop := ∀ (F : Addr → Prop) vs H1, DfAll K F H1 vs ds → ∀ Q : VK, (∀ v H2, Same H1 H2 → Df K (fun a => F a ∨ H1 a = none) H2 v f → Q v H2) → r vs H1 Q
theorem ed_cb {r : List V → Hp → VK → Prop} {ta : TA} {ds : List PyData} (h : EA K ta σ F H ds) (hr : RDC K r ds d) : ED K (tCB r ta) σ F H d := fun H1 s Q q =>
  h H1 s _ fun vs H2 s2 hv => hr (Fr F H1) vs H2 hv Q fun v H3 s3 hv3 => q v H3 (s2.trans s3) (df_mono (Same.refl _) (fun _ z => z.elim id fun e => .inr (s2.freshA e)) hv3)
theorem ed_call {sp : Sp} {E : XK} {ta : TA} {ds : List PyData} (h : EA K ta σ F H ds) (hr : RDC K (fun vs H Q => sp vs H Q E) ds d) : ED K (tCall sp [] E ta) σ F H d := fun H1 s Q q =>
  h H1 s _ fun vs H2 s2 hv => by
    show sp (vs ++ []) H2 Q E
    rw [List.append_nil]
    exact hr (Fr F H1) vs H2 hv Q fun v H3 s3 hv3 => q v H3 (s2.trans s3) (df_mono (Same.refl _) (fun _ z => z.elim id fun e => .inr (s2.freshA e)) hv3)
/-- len of data -/
def lenP : PyData → Nat | .list ds => ds.length | .tuple ds => ds.length | .str x => x.length | _ => 0
def hasLen : PyData → Bool | .list _ => true | .tuple _ => true | .str x => decide (x.length ≤ 100000) | _ => false
theorem rdc_len (h : hasLen d = true) : RDC K (fun xs H Q => ∃ x n, xs = [x] ∧ LenV K x H n ∧ Q (.int n) H) [d] (.int (lenP d : Int)) := fun F vs H1 hv Q q => by
  cases hv with
  | cons a r =>
    cases r
    refine ⟨_, lenP d, rfl, ?_, q _ _ (Same.refl _) (.int _)⟩
    cases a with
    | lst hs r => exact .inl ⟨_, hs.imp (fun z => z.1) id, (dfs_len r).symm⟩
    | tup hs r => exact .inr ⟨_, hs, (dfs_len r).symm⟩
    | str x => exact ⟨small5 (of_decide_eq_true h), rfl⟩
    | _ => cases h
theorem ed_len (ha : ED K ta σ F H d) (h : hasLen d = true) : ED K (tCB (fun xs H Q => ∃ x n, xs = [x] ∧ LenV K x H n ∧ Q (.int n) H) (tCons ta tNil)) σ F H (.int (lenP d : Int)) := ed_cb (ea_cons ha ea_nil) (rdc_len h)
/-- isinstance of data -/
def tyName : PyData → String | .none => "NoneType" | .bool _ => "bool" | .int _ => "int" | .str _ => "str" | .list _ => "list" | .tuple _ => "tuple" | .dict _ => "dict"
theorem tyx_of {H : Hp} {x : V} (h : Dp K H x d) : TyX K H x (.type (tyName d)) := by
  cases h with
  | non => exact .base .non
  | bl b => exact .base (.bl b)
  | int i => exact .base (.int i)
  | str x => exact .base (.str x)
  | lst hs r =>
    rcases hs with (h | ⟨o, h⟩) | ⟨o, its, n, hk, hc, _⟩
    · exact .base (.lst h)
    · exact .base (.frz h)
    · exact .kList hk hc
  | tup hs r =>
    rcases hs with (h | ⟨o, h⟩) | ⟨o, its, n, hk, hc, _⟩
    · exact .base (.tup h)
    · exact .fTuple h
    · exact .kTuple hk hc
def isiB (T : String) : PyData → Bool
  | .none => false | .bool _ => T == "bool" || T == "int" | .int _ => T == "int" | .str _ => T == "str" | .list _ => T == "list" | .tuple _ => T == "tuple" | .dict _ => T == "dict"
theorem kit_all {T : String} (hT : T = "str" ∨ T = "tuple" ∨ T = "list" ∨ T = "int" ∨ T = "bool") {H : Hp} {x : V} (h : Dp K H x d) : PySem.W.kitOne K (.type (tyName d)) (.type T) = some (isiB T d) := by
  rcases hT with rfl | rfl | rfl | rfl | rfl
  · cases h with
    | non => exact kit_ty (show kitB "NoneType" "str" = some false by decide +kernel)
    | bl b => exact kit_ty (show kitB "bool" "str" = some false by decide +kernel)
    | int i => exact kit_ty (show kitB "int" "str" = some false by decide +kernel)
    | str x => exact kit_ty (show kitB "str" "str" = some true by decide +kernel)
    | lst hs r => exact kit_ty (show kitB "list" "str" = some false by decide +kernel)
    | tup hs r => exact kit_ty (show kitB "tuple" "str" = some false by decide +kernel)
  · cases h with
    | non => exact kit_ty (show kitB "NoneType" "tuple" = some false by decide +kernel)
    | bl b => exact kit_ty (show kitB "bool" "tuple" = some false by decide +kernel)
    | int i => exact kit_ty (show kitB "int" "tuple" = some false by decide +kernel)
    | str x => exact kit_ty (show kitB "str" "tuple" = some false by decide +kernel)
    | lst hs r => exact kit_ty (show kitB "list" "tuple" = some false by decide +kernel)
    | tup hs r => exact kit_ty (show kitB "tuple" "tuple" = some true by decide +kernel)
  · cases h with
    | non => exact kit_ty (show kitB "NoneType" "list" = some false by decide +kernel)
    | bl b => exact kit_ty (show kitB "bool" "list" = some false by decide +kernel)
    | int i => exact kit_ty (show kitB "int" "list" = some false by decide +kernel)
    | str x => exact kit_ty (show kitB "str" "list" = some false by decide +kernel)
    | lst hs r => exact kit_ty (show kitB "list" "list" = some true by decide +kernel)
    | tup hs r => exact kit_ty (show kitB "tuple" "list" = some false by decide +kernel)
  · cases h with
    | non => exact kit_ty (show kitB "NoneType" "int" = some false by decide +kernel)
    | bl b => exact kit_ty (show kitB "bool" "int" = some true by decide +kernel)
    | int i => exact kit_ty (show kitB "int" "int" = some true by decide +kernel)
    | str x => exact kit_ty (show kitB "str" "int" = some false by decide +kernel)
    | lst hs r => exact kit_ty (show kitB "list" "int" = some false by decide +kernel)
    | tup hs r => exact kit_ty (show kitB "tuple" "int" = some false by decide +kernel)
  · cases h with
    | non => exact kit_ty (show kitB "NoneType" "bool" = some false by decide +kernel)
    | bl b => exact kit_ty (show kitB "bool" "bool" = some true by decide +kernel)
    | int i => exact kit_ty (show kitB "int" "bool" = some false by decide +kernel)
    | str x => exact kit_ty (show kitB "str" "bool" = some false by decide +kernel)
    | lst hs r => exact kit_ty (show kitB "list" "bool" = some false by decide +kernel)
    | tup hs r => exact kit_ty (show kitB "tuple" "bool" = some false by decide +kernel)
theorem ed_isi {T : String} (ha : ED K ta σ F H d) (hT : T = "str" ∨ T = "tuple" ∨ T = "list" ∨ T = "int" ∨ T = "bool") : ED K (tCB (rIsi K) (tCons ta (tCons (tC (.ty T)) tNil))) σ F H (.bool (isiB T d)) := fun H1 s Q q =>
  ha H1 s _ fun x H2 s2 hx => ⟨x, .ty T, _, _, _, rfl, .ty T, tyx_of (df_dp hx), kit_all hT (df_dp hx), q _ _ s2 (.bl _)⟩
/-- all, any of bools -/
theorem ed_all {bs : List Bool} (ha : ED K ta σ F H (.list (bs.map .bool))) : ED K (tCB (rAll K) (tCons ta tNil)) σ F H (.bool (bs.all id)) := ed_cb (ea_cons ha ea_nil) fun F vs H1 hv Q q => by
  cases hv with
  | cons a r =>
    cases r
    cases a with
    | lst hs r => rw [bls_dps (dfs_dps r)] at hs; exact ⟨_, bs, rfl, hs.imp (fun z => z.1) id, q _ _ (Same.refl _) (.bl _)⟩
theorem ed_sum {ns : List Int} (ha : ED K ta σ F H (.list (ns.map .int))) : ED K (tCB (rSum K) (tCons ta tNil)) σ F H (.int ns.sum) := ed_cb (ea_cons ha ea_nil) fun F vs H1 hv Q q => by
  cases hv with
  | cons a r =>
    cases r
    cases a with
    | lst hs r => rw [ints_dps (dfs_dps r)] at hs; exact ⟨_, ns, rfl, hs.imp (fun z => z.1) id, q _ _ (Same.refl _) (.int _)⟩
/-- tuple(xs), list(xs) -/
def seqOf : PyData → List PyData | .list ds => ds | .tuple ds => ds | _ => []
def isSeq : PyData → Bool | .list _ => true | .tuple _ => true | _ => false
theorem ed_tupleOf (ha : ED K ta σ F H d) (h : isSeq d = true) : ED K (tCB (fun xs H Q => ∃ p ys, xs = [.ref p] ∧ ((SqL K H p ys ∧ ∀ l, H l = none → Q (.ref l) (upd H l (.tup ys))) ∨ (SqT K H p ys ∧ Q (.ref p) H))) (tCons ta tNil)) σ F H (.tuple (seqOf d)) := ed_cb (ea_cons ha ea_nil) fun F vs H1 hv Q q => by
  cases hv with
  | cons a r =>
    cases r
    cases a with
    | lst hs r => exact ⟨_, _, rfl, .inl ⟨hs.imp (fun z => z.1) id, fun l hl => q _ _ (Same.newA hl) (.tup (.of upd_same) (dfs_mono (Same.newA hl) (fun _ z => .inl z) r))⟩⟩
    | tup hs r => exact ⟨_, _, rfl, .inr ⟨hs, q _ _ (Same.refl _) (.tup hs (dfs_mono (Same.refl _) (fun _ z => .inl z) r))⟩⟩
    | _ => cases h
theorem ed_listOf (ha : ED K ta σ F H d) (h : isSeq d = true) : ED K (tCB (fun xs H Q => ∃ p ys, xs = [.ref p] ∧ (SqL K H p ys ∨ SqT K H p ys) ∧ ∀ l, H l = none → Q (.ref l) (upd H l (.lst ys))) (tCons ta tNil)) σ F H (.list (seqOf d)) := ed_cb (ea_cons ha ea_nil) fun F vs H1 hv Q q => by
  cases hv with
  | cons a r =>
    cases r
    cases a with
    | lst hs r => exact ⟨_, _, rfl, .inl (hs.imp (fun z => z.1) id), fun l hl => q _ _ (Same.newA hl) (.lst (.inl ⟨.inl upd_same, .inr hl⟩) (dfs_mono (Same.newA hl) (fun _ z => .inl z) r))⟩
    | tup hs r => exact ⟨_, _, rfl, .inr hs, fun l hl => q _ _ (Same.newA hl) (.lst (.inl ⟨.inl upd_same, .inr hl⟩) (dfs_mono (Same.newA hl) (fun _ z => .inl z) r))⟩
    | _ => cases h
end
end Ag

set_option Elab.async false
set_option linter.all false
set_option maxRecDepth 100000
set_option maxHeartbeats 1000000
/-! The end of a law row, the law run at the caller's very surroundings (so that nothing is being shown there), with tables of code objects. -/
namespace Ag
open PySem PySem.Spec PyProof.Rows L2 LamX
def emptyT : Obj := { cls := .none, data := .fields #[] }
/-- what is tracked ahead of the law: the script, unless it is written, and the tables -/
def lawH (a : Addr) (tabs : List Addr) (o : Obj) (xs : List V) (wr : Bool) : Hp := fun b => if b ∈ tabs then some (.tbl #[]) else if b = a ∧ wr = false then some (.frz o (.lst xs)) else none
section
variable {a b : Addr} {tabs : List Addr} {o : Obj} {xs : List V} {wr : Bool} {u : HO}
theorem lawH_tab (h : b ∈ tabs) : lawH a tabs o xs wr b = some (.tbl #[]) := if_pos h
theorem lawH_at (h : a ∉ tabs) : lawH a tabs o xs false a = some (.frz o (.lst xs)) := by
  unfold lawH; rw [if_neg h, if_pos ⟨rfl, rfl⟩]
theorem lawH_cases (h : lawH a tabs o xs wr b = some u) : (b ∈ tabs ∧ u = .tbl #[]) ∨ (b = a ∧ wr = false ∧ b ∉ tabs ∧ u = .frz o (.lst xs)) := by
  unfold lawH at h
  by_cases h1 : b ∈ tabs
  · rw [if_pos h1] at h; cases h; exact .inl ⟨h1, rfl⟩
  · rw [if_neg h1] at h
    by_cases h2 : b = a ∧ wr = false
    · rw [if_pos h2] at h; cases h; exact .inr ⟨h2.1, h2.2, h1, rfl⟩
    · rw [if_neg h2] at h; cases h
theorem lawH_none (h : lawH a tabs o xs wr b = none) : b ∉ tabs := fun z => by rw [lawH_tab z] at h; cases h
end
/-- the law's call: F tells what it does over a heap in which just the script and the tables are tracked -/
theorem law_callG {P : Program} {w : World} {K : PySem.W.Frag} {mg mb : Str → Option Value} {fa a : Addr} {cs : List (Addr × Addr)} {s₁ : Shared} {vs : List Value} {ns : List Int}
    (KX : K.In s₁.heap) (hns : s₁.heap.Ns mainGlobals mg) (hb : s₁.heap.Ns builtinsNs mb) (hbb : ∀ x : Str, x ≠ "__name__" → mb x = bootBuiltins x) (hlim : s₁.heap.NoLimit) (hg : s₁.gens = #[])
    (hT : ∀ p ∈ cs, s₁.heap.get? p.2 = some emptyT) (nT : ∀ p ∈ cs, K.lookup p.2 = none) (C : ∀ p ∈ cs, PySem.W.CodeHd s₁.heap p.1 p.2)
    (hbm : ∃ (bm : Addr) (ob : Obj), mg "__builtins__" = some (.ref bm) ∧ bm ≠ builtinsNs ∧ s₁.heap.get? bm = some ob ∧ ob.cls = .type "module" ∧ ob.dict = some builtinsNs ∧ ob.data = .plain)
    (ha : s₁.heap.get? a = some { cls := .type "list", data := .seq vs.toArray }) (hi : IntsAre vs ns) (hl : ns.length ≤ sizeLine)
    (F : ∀ (base : Heap) (H : Hp), K.In base → base.Ns mainGlobals mg → (∀ p ∈ cs, TabB base mg p.1 p.2) → (∀ p ∈ cs, H p.2 = some (.tbl #[])) → SqL K H a (ns.map V.int) → Env0 P w K mg base callerA [] s₁ H →
      codeAny (model P w) callerA (.call (.ref fa) ⟨[.ref a], []⟩) (CR CX0 [] P w H s₁ (fun v _ => v = .bl true) fun _ _ _ => False) s₁) :
    codeAny (model P w) callerA (.call (.ref fa) ⟨[.ref a], []⟩) (fun r s' => r = .ok (.ret (.bool true)) ∧ OldK s₁.heap s'.heap ∧ s'.os = s₁.os ∧ AllBare s'.gens) s₁ := by
  let sc : Obj := { cls := .type "list", data := .seq vs.toArray }
  let tabs := cs.map Prod.snd
  let wr : Bool := (K.lookup a).isSome
  let H : Hp := lawH a tabs sc (ns.map V.int) wr
  have tget : ∀ b ∈ tabs, s₁.heap.get? b = some emptyT := fun b hb => by
    obtain ⟨p, hp, rfl⟩ := List.mem_map.mp hb; exact hT p hp
  have tmem : ∀ p ∈ cs, p.2 ∈ tabs := fun p hp => List.mem_map_of_mem hp
  have na : a ∉ tabs := fun z => by
    have q := tget a z
    rw [ha] at q
    have := congrArg Obj.data (Option.some.inj q)
    exact nomatch this
  have nk : ∀ b ∈ tabs, K.lookup b = none := fun b hb => by
    obtain ⟨p, hp, rfl⟩ := List.mem_map.mp hb; exact nT p hp
  -- an object that is neither a list nor fields is not tracked
  have free : ∀ {b : Addr} {o : Obj}, s₁.heap.get? b = some o → (∀ z n, o.data ≠ .seq z n) → o.data ≠ .fields #[] → H b = none := fun {b o} e n1 n2 => by
    cases q : H b with
    | none => rfl
    | some u =>
      rcases lawH_cases q with ⟨m, _⟩ | ⟨m, _, _, _⟩
      · rw [tget b m] at e; cases e; exact absurd rfl n2
      · subst m; rw [ha] at e; cases e; exact absurd rfl (n1 _ _)
  have baseG : ∀ {b : Addr} {o : Obj}, s₁.heap.get? b = some o → (∀ z n, o.data ≠ .seq z n) → o.data ≠ .fields #[] → (hidT s₁.heap H).get? b = some o := fun e n1 n2 => hidT_get e (free e n1 n2)
  have nsB : ∀ {b : Addr} {m : Str → Option Value}, s₁.heap.Ns b m → (hidT s₁.heap H).Ns b m := fun ⟨o, es, ep, e, d, r⟩ =>
    ⟨o, es, ep, baseG e (fun z n q => by rw [d] at q; exact nomatch q) (fun q => by rw [d] at q; exact nomatch q), d, r⟩
  have kB : K.In (hidT s₁.heap H) := fun b o e => hidT_get (KX b o e) (by
    cases q : H b with
    | none => rfl
    | some u =>
      rcases lawH_cases q with ⟨m, _⟩ | ⟨m, wf, _, _⟩
      · rw [nk b m] at e; cases e
      · subst m
        have wf : (K.lookup b).isSome = false := wf
        rw [e] at wf; cases wf)
  have mod : L2.Mod K mg (hidT s₁.heap H) := ⟨kB, nsB hns, ⟨mb, nsB hb, hbb⟩, let ⟨mc, h1, h2⟩ := hlim; ⟨mc, nsB h1, h2⟩⟩
  have tb : ∀ p ∈ cs, TabB (hidT s₁.heap H) mg p.1 p.2 := fun p hp => by
    have hp2 := hT p hp
    obtain ⟨bm, ob, b1, b2, b3, b4, b5, b6⟩ := hbm
    refine ⟨?_, ⟨bm, ob, b1, b2, fun q => ?_, fun q => ?_, baseG b3 (fun z n q => by rw [b6] at q; exact nomatch q) (fun q => by rw [b6] at q; exact nomatch q), b4, b5, b6⟩, fun q => ?_⟩
    · obtain ⟨o, us, file, tf, flags, tg, inF, text, tt, e1, r1, r2, r3, rest⟩ := C p hp
      exact ⟨o, us, file, tf, flags, tg, inF, text, tt, baseG e1 (fun z n q => by rw [r2] at q; exact nomatch q) (fun q => by
        rw [r2] at q
        have q := Data.fields.inj q
        subst q; simp at r3), r1, r2, r3, rest⟩
    · obtain ⟨o, es, ep, e, d, _⟩ := hns
      rw [q, e] at b3; cases b3; rw [d] at b6; exact nomatch b6
    · rw [q, hp2] at b3; cases b3; exact nomatch b6
    · obtain ⟨o, es, ep, e, d, _⟩ := hns
      rw [q, hp2] at e; cases e; exact nomatch d
  have hok : HOk P w H s₁.heap := fun b u q => by
    rcases lawH_cases q with ⟨m, rfl⟩ | ⟨rfl, _, _, rfl⟩
    · exact tget b m
    · exact ⟨ha, by rw [List.length_map]; exact hl, vs, 0, vals_ints hi, ha⟩
  have e0 : Env0 P w K mg (hidT s₁.heap H) callerA [] s₁ H := ⟨rfl, mod, fun b o e => of_hidT e, Nat.le_of_eq (hidT_size _ _), trivial, fun b z => (nomatch z), hok, .of_eq hg⟩
  have sq : SqL K H a (ns.map V.int) := by
    cases q : K.lookup a with
    | none =>
      have wf : wr = false := by show (K.lookup a).isSome = false; rw [q]; rfl
      refine .inl (.inr ⟨sc, ?_⟩)
      show lawH a tabs sc (ns.map V.int) wr a = _
      rw [wf]; exact lawH_at na
    | some o =>
      have e := KX a o q
      rw [ha] at e; cases e
      exact .inr ⟨_, vs.toArray, _, q, rfl, rfl, rfl, by rw [List.size_toArray, hi.length]; exact hl, vals_ints hi⟩
  refine codeAny_mono (F _ H kB (nsB hns) tb (fun p hp => lawH_tab (tmem p hp)) sq e0) fun r s' h => ?_
  cases r with
  | error e => exact (show False from h).elim
  | ok fl =>
    cases fl with
    | ret u =>
      obtain ⟨v, H', os, bare, un, hok', rv, q⟩ := h
      cases (show v = V.bl true from q)
      obtain rfl : u = Value.bool true := rv
      have grown : ∀ b ∈ tabs, ∃ more : Array Value, s'.heap.get? b = some { cls := .none, data := .fields more } := fun b hb => by
        obtain ⟨more, z⟩ := un.tbls b #[] (lawH_tab hb)
        exact ⟨_, hok' b _ z⟩
      have kept : ∀ b o, b ∉ tabs → s₁.heap.get? b = some o → s'.heap.get? b = some o := fun b o nb e => by
        cases q : H b with
        | none => exact un.keep b o e q (fun z => nomatch z) (fun z => nomatch z)
        | some u =>
          rcases lawH_cases q with ⟨m, _⟩ | ⟨m, _, _, hu⟩
          · exact absurd m nb
          · subst m; subst hu
            have e2 := (hok' b _ (un.frzs b sc _ q)).1
            rw [ha] at e; cases e; exact e2
      refine ⟨rfl, ⟨fun b o e => ?_, fun b o e => ?_⟩, os, bare⟩
      · by_cases hb : b ∈ tabs
        · obtain ⟨p, hp, rfl⟩ := List.mem_map.mp hb
          obtain ⟨more, hm⟩ := grown _ hb
          rw [hT p hp] at e; cases e
          exact .inr (.inl ⟨((C p hp).tab (hT p hp)).isCodeTable, rfl, #[], more, rfl, by rw [Array.empty_append]; exact hm⟩)
        · exact .inl (kept b o hb e)
      · by_cases hb : b ∈ tabs
        · obtain ⟨more, hm⟩ := grown b hb; exact ⟨_, hm⟩
        · exact ⟨o, kept b o hb e⟩
    | next => exact False.elim h
    | brk => exact False.elim h
    | cont => exact False.elim h
/-- what is known of the law at the head's heap -/
def LawG (l : PySem.W.OpenLaw) (w : World) (K : PySem.W.Frag) (n : Nat) (mg : Str → Option Value) (fa : Addr) (s : Shared) : Prop :=
  ∃ cs : List (Addr × Addr), (∀ p ∈ cs, s.heap.get? p.2 = some emptyT) ∧ (∀ p ∈ cs, K.lookup p.2 = none) ∧ (∀ p ∈ cs, PySem.W.CodeHd s.heap p.1 p.2) ∧
    ∀ (a : Addr) (ns : List Int) (base : Heap) (H : Hp), ns.length ≤ n → (∀ z ∈ ns, Builtin.Int.intBits z ≤ 1048576) → K.In base → base.Ns mainGlobals mg → (∀ p ∈ cs, TabB base mg p.1 p.2) → (∀ p ∈ cs, H p.2 = some (.tbl #[])) → SqL K H a (ns.map V.int) → Env0 l.prog w K mg base callerA [] s H →
      codeAny (model l.prog w) callerA (.call (.ref fa) ⟨[.ref a], []⟩) (CR CX0 [] l.prog w H s (fun v _ => v = .bl true) fun _ _ _ => False) s
theorem walk_G {l : PySem.W.OpenLaw} {n : Nat} {q : Program} {loose : List Str} {XP : (Str → Option Value) → Heap → Prop} {YP : World → Heap → Prop} {d : DefRec} {K : Params → PySem.W.Frag}
    (hn : l.most = some n) (hn2 : n ≤ sizeLine) (hdf : d.params.defaults = []) (hY : ∀ (w : World) (h : Heap), YP w h → (K w.params).In h)
    (F : ∀ (w : World) (mg mb : Str → Option Value) (fa : Addr) (s : Shared) (mean : ExcName → Option Value), PyProof.Rows.Top q (PySem.W.looseW q loose) mean mg mb s.heap → (K w.params).In s.heap → mg d.name = some (.ref fa) → LawG l w (K w.params) n mg fa s) :
    PySem.W.WalkO q loose XP YP l.row.toRowW d [] (fun f vs => PySem.call f vs) := by
  refine Att.attach_callB hn hdf fun w s₀ s₁ mg mb fa o pm cd doc a vs ns G Y ho hd hcd hmg hobj hints hlen hbits hg => ?_
  have KX := hY w _ Y
  obtain ⟨cs, hT, nT, C, hF⟩ := F w mg mb fa s₁ _ G.T KX hmg
  exact law_callG KX G.T.g G.T.b G.T.builtins G.T.nolimit hg hT nT C G.T.bmain hobj hints (Nat.le_trans hlen hn2) fun base H h1 h2 h3 h4 h5 h6 => hF a ns base H hlen hbits h1 h2 h3 h4 h5 h6
end Ag

set_option Elab.async false
set_option linter.all false
set_option maxRecDepth 100000
set_option maxHeartbeats 2000000
/-! try with several clauses, each of which binds what it catches to a name. -/
namespace Ag
open PySem PySem.Spec PyProof.Rows L2
/-- a clause: the class, the slot of its name, and its suite's reading -/
structure Clause where
  cls : Value
  slot : Nat
  ts : Addr → Value → Option Addr → TS
/-- the ends of a suite whose name is unbound behind it -/
def endsU (i : Nat) (D : Ends) : Ends := ⟨fun σ H => D.nx (σ.set i none) H, D.rt, fun σ H => D.bk (σ.set i none) H, fun σ H => D.ct (σ.set i none) H⟩
def wNamed (K : PySem.W.Frag) (n : Nat) (Wout : WX) (D : Ends) : List Clause → WX
  | [] => Wout
  | q :: r => fun c d σ H => ∃ b, PySem.W.exmOne K c q.cls = some b ∧ (b = true → σ.length = n → ∀ a, H a = none → q.ts a c d (endsU q.slot D) (σ.set q.slot (some (.ref a))) H) ∧ (b = false → wNamed K n Wout D r c d σ H)
inductive ClausesOk (X : Cx) : List ExceptHandler → List Clause → Prop
  | nil : ClausesOk X [] []
  | cons {x n : Str} {q : Clause} {b₀ : Stmt} {suite : List Stmt} {np hp : Pos} {hds : List ExceptHandler} {l : List Clause} (names : Names X x q.cls) (hi : X.N[q.slot]? = some n) (loc : X.env.kindOf n = some .local)
      (run : ∀ (a : Addr) (oe : Obj) (c : Value) (d : Option Addr) (pn : List (Addr × Obj)), Zc c d oe → (∃ vs, oe.data = .fields vs) → PSs (X.suite a ((a, oe) :: pn)) (b₀ :: suite) (q.ts a c d)) (rest : ClausesOk X hds l) :
      ClausesOk X (.ExceptHandler (some (.Name x np)) (some n) (b₀ :: suite) hp :: hds) (q :: l)
section
variable {X : Cx} {body : List Stmt} {h₀ : ExceptHandler} {hds : List ExceptHandler} {l : List Clause} {pos : Pos} {tb : WX → TS} {Wout : WX}
theorem ps_try_named (stk : X.stack = X.env :: X.outer) (frm : X.env.frame = some X.env.locals) (nd : X.N.Nodup) (out : Takes X Wout)
    (hb : ∀ (W : WX) (pn : List (Addr × Obj)) (xe : Value → Shared → Prop), Takes (X.tr pn xe) W → PassesOwn (model X.prog X.w) X.A X.env xe → PSs (X.tr pn xe) body (tb W))
    (hh : ClausesOk X (h₀ :: hds) l) : PS X (.Try body (h₀ :: hds) [] [] pos) (fun D σ H => tb (wNamed X.K X.N.length Wout D l) D σ H) := by
  refine ⟨fun pins s σ H D I h => wpAny_Try_except ?_⟩
  have ok := I.ok
  have fr : X.A.frames = some (X.env :: X.outer) := by rw [ok.frames, stk]
  have caught : ∀ (u : Value) (s' : Shared), XE (X.tr (X.pn ++ pins) fun e z => wpAny (model X.prog X.w) X.A (noteFrame e X.env) (fun _ z2 => wpAny (model X.prog X.w) X.A (setFlight e none) (fun _ z3 =>
      wpAny (model X.prog X.w) X.A (handleBy e X.env (h₀ :: hds)) (SP X pins D) X.xe z3) X.xe z2) X.xe z) (wNamed X.K X.N.length Wout D l) u s' →
      wpAny (model X.prog X.w) X.A (noteFrame u X.env) (fun _ z2 => wpAny (model X.prog X.w) X.A (setFlight u none) (fun _ z3 => wpAny (model X.prog X.w) X.A (handleBy u X.env (h₀ :: hds)) (SP X pins D) X.xe z3) X.xe z2) X.xe s' := by
    rintro u s' ⟨a, B, sI, pins', σ1, H1, c, d, rfl, J0, nb, up, sky, na, os, ag, w⟩
    have J : Inv X pins σ1 H1 sI := J0.ofTry ok
    refine Sky.land Zc.steady fr frm (show Sky B (X.env :: X.outer) a (Zc c d) X.env.locals s'.heap by rw [← stk]; exact sky) fun g1 fl1 u1 => ?_
    have J1 : Inv X pins σ1 H1 { s' with heap := g1 } := J.landed nb fl1.1 (up.trans u1) os ag
    obtain ⟨o1, vs1, e1, z1, d1⟩ := fl1.there
    have nfr : a ∉ frs (X.env :: X.outer) := fun hm => by
      obtain ⟨_, o2, e2, no⟩ := fl1.2.2.1.mem hm
      rw [e1] at e2; cases e2
      exact no _ d1
    have nL : a ≠ X.env.locals := fun z => nfr (List.mem_filterMap.mpr ⟨X.env, .head _, by rw [frm, z]⟩)
    have nF : a ∉ X.fs := fun hm => by
      obtain ⟨e, he, q⟩ := List.mem_filterMap.mp hm
      exact nfr (List.mem_filterMap.mpr ⟨e, .tail _ he, q⟩)
    have S1 := J1.suite e1 d1 na nL nF
    have go : ∀ {hs : List ExceptHandler} {ls : List Clause}, ClausesOk X hs ls → wNamed X.K X.N.length Wout D ls c d σ1 H1 → wpAny (model X.prog X.w) X.A (handleBy (.ref a) X.env hs) (SP X pins D) X.xe { s' with heap := g1 } := by
      intro hs ls hk
      induction hk with
      | nil =>
        intro w
        refine wpAny_handleBy_nil ?_
        obtain ⟨_, _, _, o2, vs2, T, oT, ts2, e2, z2, d2, t1, _⟩ := id fl1
        unfold PySem.passOn
        refine wpAny_bind (wpAny_field e2 d2 t1 ?_)
        rw [if_neg (show ¬ (Value.ref T == Value.none) = true from fun z => nomatch z)]
        have last : wpAny (model X.prog X.w) X.A (setFlight (.ref a) X.env.frame) (fun _ z4 => wpAny (model X.prog X.w) X.A (throw (.ref a) : Sem Flow) (SP X pins D) X.xe z4) X.xe { s' with heap := g1 } := by
          rw [frm]
          exact HandSPX.setFlight_upZ fl1 fun g2 h2 u2 => wpAny_throw (out _ _ ⟨a, B, sI, pins, σ1, H1, c, d, rfl, J, nb, (up.trans u1).trans u2, .inr (.inr (by rw [stk]; exact h2)), na, os, ag, w⟩)
        first
          | exact wpAny_bind (wpAny_pure (wpAny_bind last))
          | exact wpAny_bind last
      | @cons x n q b₀ suite np hp hds2 l2 names hi loc run rest ih =>
        rintro ⟨b, hb1, yes, no⟩
        refine wpAny_handleBy_cons (codeAny_handlers_test ?_) (fun z => nomatch z)
        have looks : PySem.W.Looks (model X.prog X.w) g1 (typeOf (.ref a)) c := fun A Q E s k z => wpAny_typeOf_ref (k _ _ e1) (by rw [z1.1]; exact z)
        have tst : ∀ {Q : Value → Shared → Prop} {E : Value → Shared → Prop}, Q q.cls { s' with heap := g1 } → wpAny (model X.prog X.w) (X.A.mark (some (.ref a))) (eval (.Name x np) X.env) Q E { s' with heap := g1 } := fun z => by
          obtain ⟨hg, hdb, hm | ⟨hm, hv, hnn⟩⟩ := names
          · exact ld_glob (X := X.suite a ((a, o1) :: (X.pn ++ pins))) S1 hg hm z hdb
          · exact ld_blt (X := X.suite a ((a, o1) :: (X.pn ++ pins))) S1 hg hm hv z hnn hdb
        refine tst ((PySem.W.exm_one (M := model X.prog X.w) J1.kIn looks hb1).here ?_)
        cases b with
        | false =>
          show wpAny _ X.A (handleBy (.ref a) X.env hds2) _ _ _
          exact ih (no rfl)
        | true =>
          refine codeAny_handlers_suite_as (HandSPX.lands_againZ fl1 fun g2 fl2 u2 => ?_)
          have J2 : Inv X pins σ1 H1 { s' with heap := g2 } := J.landed nb fl2.1 ((up.trans u1).trans u2) os ag
          obtain ⟨o2, vs2, e2, z2, d2⟩ := fl2.there
          refine store_ok (X := X.suite a ((a, o2) :: (X.pn ++ pins))) (v := .ref a) (J2.suite e2 d2 na nL nF) nd hi (show Loc X.env.scope n from .inl loc) rfl (fun s5 S5 => ?_) (.inr loc)
          refine wpAny_mono ((run a o2 c d (X.pn ++ pins) z2 ⟨_, d2⟩).run [] s5 _ H1 _ S5 (yes rfl J2.len a na)) (fun f s6 r6 => ?_) (fun _ _ z => False.elim z)
          have fin : ∀ {σ6 : L2.St} {H6 : Hp} {R : Shared → Prop}, Inv (X.suite a ((a, o2) :: (X.pn ++ pins))) [] σ6 H6 s6 → (∀ s7, Inv X pins (σ6.set q.slot none) H6 s7 → R s7) →
              wpAny (model X.prog X.w) X.A (do bindName X.env n .none; unbindBehindTheSuite X.env n hp) (fun _ s7 => R s7) X.xe s6 := fun S6 r => gone_ok (S6.unsuite ok) nd hi loc r
          cases f with
          | next => obtain ⟨σ6, H6, S6, q6⟩ := r6; exact fin S6 fun s7 J7 => ⟨_, _, J7, q6⟩
          | brk => obtain ⟨σ6, H6, S6, q6⟩ := r6; exact fin S6 fun s7 J7 => ⟨_, _, J7, q6⟩
          | cont => obtain ⟨σ6, H6, S6, q6⟩ := r6; exact fin S6 fun s7 J7 => ⟨_, _, J7, q6⟩
          | ret u => obtain ⟨v6, σ6, H6, S6, v7, q6⟩ := r6; exact fin S6 fun s7 J7 => ⟨_, _, _, J7, v7, q6⟩
    exact go hh w
  refine wpAny_mono ((hb (wNamed X.K X.N.length Wout D l) (X.pn ++ pins) _ (fun u s' xx => caught u s' xx) PassesOwn.looking).run [] s σ H D (I.toTry _) h) (fun f s1 r => ?_) (fun e s1 z => z)
  cases f with
  | next => obtain ⟨σ', H', J', q⟩ := r; exact wpAny_execs_nil ⟨σ', H', J'.ofTry ok, q⟩
  | brk => obtain ⟨σ', H', J', q⟩ := r; exact ⟨σ', H', J'.ofTry ok, q⟩
  | cont => obtain ⟨σ', H', J', q⟩ := r; exact ⟨σ', H', J'.ofTry ok, q⟩
  | ret u => obtain ⟨v, σ', H', J', rv, q⟩ := r; exact ⟨v, σ', H', J'.ofTry ok, rv, q⟩
end
/-- code that is never come to -/
theorem pss_never {X : Cx} {sts : List Stmt} : PSs X sts (fun _ _ _ => False) := ⟨fun _ _ _ _ _ _ h => h.elim⟩
theorem ps_never {X : Cx} {st : Stmt} : PS X st (fun _ _ _ => False) := ⟨fun _ _ _ _ _ _ h => h.elim⟩
theorem pe_never {X : Cx} {e : Expr} : PE X e (fun _ _ _ => False) := ⟨fun _ _ _ _ _ _ h => h.elim⟩
end Ag

set_option Elab.async false
set_option linter.all false
set_option maxRecDepth 100000
set_option maxHeartbeats 1000000
/-! The pen: a dict of five written keys; what a draw leaves. -/
namespace Ag
open PySem PySem.Spec PyProof.Rows L2

abbrev ck (s : Str) : Key := Sum.inr s
def penKV (c : Addr) (at_ dig cnt fold : Int) : List (Key × V) :=
  [(ck "cells", .ref c), (ck "at", .int at_), (ck "digits", .int dig), (ck "count", .int cnt), (ck "fold", .int fold)]
theorem kn1 : ¬ ck "cells" = ck "at" := by decide +kernel
theorem kn2 : ¬ ck "cells" = ck "digits" := by decide +kernel
theorem kn3 : ¬ ck "cells" = ck "count" := by decide +kernel
theorem kn4 : ¬ ck "cells" = ck "fold" := by decide +kernel
theorem kn5 : ¬ ck "at" = ck "digits" := by decide +kernel
theorem kn6 : ¬ ck "at" = ck "count" := by decide +kernel
theorem kn7 : ¬ ck "at" = ck "fold" := by decide +kernel
theorem kn8 : ¬ ck "digits" = ck "count" := by decide +kernel
theorem kn9 : ¬ ck "digits" = ck "fold" := by decide +kernel
theorem kn0 : ¬ ck "count" = ck "fold" := by decide +kernel
theorem sn_cells_at : ¬ Str.ofString "cells" = Str.ofString "at" := by decide +kernel
theorem sn_cells_digits : ¬ Str.ofString "cells" = Str.ofString "digits" := by decide +kernel
theorem sn_cells_count : ¬ Str.ofString "cells" = Str.ofString "count" := by decide +kernel
theorem sn_cells_fold : ¬ Str.ofString "cells" = Str.ofString "fold" := by decide +kernel
theorem sn_at_cells : ¬ Str.ofString "at" = Str.ofString "cells" := by decide +kernel
theorem sn_at_digits : ¬ Str.ofString "at" = Str.ofString "digits" := by decide +kernel
theorem sn_at_count : ¬ Str.ofString "at" = Str.ofString "count" := by decide +kernel
theorem sn_at_fold : ¬ Str.ofString "at" = Str.ofString "fold" := by decide +kernel
theorem sn_digits_cells : ¬ Str.ofString "digits" = Str.ofString "cells" := by decide +kernel
theorem sn_digits_at : ¬ Str.ofString "digits" = Str.ofString "at" := by decide +kernel
theorem sn_digits_count : ¬ Str.ofString "digits" = Str.ofString "count" := by decide +kernel
theorem sn_digits_fold : ¬ Str.ofString "digits" = Str.ofString "fold" := by decide +kernel
theorem sn_count_cells : ¬ Str.ofString "count" = Str.ofString "cells" := by decide +kernel
theorem sn_count_at : ¬ Str.ofString "count" = Str.ofString "at" := by decide +kernel
theorem sn_count_digits : ¬ Str.ofString "count" = Str.ofString "digits" := by decide +kernel
theorem sn_count_fold : ¬ Str.ofString "count" = Str.ofString "fold" := by decide +kernel
theorem sn_fold_cells : ¬ Str.ofString "fold" = Str.ofString "cells" := by decide +kernel
theorem sn_fold_at : ¬ Str.ofString "fold" = Str.ofString "at" := by decide +kernel
theorem sn_fold_digits : ¬ Str.ofString "fold" = Str.ofString "digits" := by decide +kernel
theorem sn_fold_count : ¬ Str.ofString "fold" = Str.ofString "count" := by decide +kernel
section
variable {c : Addr} {a d n f x : Int}
theorem pen_cells : valV (penKV c a d n f) (ck "cells") = some (.ref c) := valV_pos rfl
theorem pen_at : valV (penKV c a d n f) (ck "at") = some (.int a) := by unfold penKV; rw [valV_neg kn1]; exact valV_pos rfl
theorem pen_dig : valV (penKV c a d n f) (ck "digits") = some (.int d) := by unfold penKV; rw [valV_neg kn2, valV_neg kn5]; exact valV_pos rfl
theorem pen_cnt : valV (penKV c a d n f) (ck "count") = some (.int n) := by unfold penKV; rw [valV_neg kn3, valV_neg kn6, valV_neg kn8]; exact valV_pos rfl
theorem pen_fold : valV (penKV c a d n f) (ck "fold") = some (.int f) := by unfold penKV; rw [valV_neg kn4, valV_neg kn7, valV_neg kn9, valV_neg kn0]; exact valV_pos rfl
theorem put_at : putK (penKV c a d n f) (ck "at") (.int x) = penKV c x d n f := by
  unfold putK; rw [valV_any, pen_at]
  simp [penKV, ck, sn_cells_at, sn_cells_digits, sn_cells_count, sn_cells_fold, sn_at_cells, sn_at_digits, sn_at_count, sn_at_fold, sn_digits_cells, sn_digits_at, sn_digits_count, sn_digits_fold, sn_count_cells, sn_count_at, sn_count_digits, sn_count_fold, sn_fold_cells, sn_fold_at, sn_fold_digits, sn_fold_count]
theorem put_dig : putK (penKV c a d n f) (ck "digits") (.int x) = penKV c a x n f := by
  unfold putK; rw [valV_any, pen_dig]
  simp [penKV, ck, sn_cells_at, sn_cells_digits, sn_cells_count, sn_cells_fold, sn_at_cells, sn_at_digits, sn_at_count, sn_at_fold, sn_digits_cells, sn_digits_at, sn_digits_count, sn_digits_fold, sn_count_cells, sn_count_at, sn_count_digits, sn_count_fold, sn_fold_cells, sn_fold_at, sn_fold_digits, sn_fold_count]
theorem put_cnt : putK (penKV c a d n f) (ck "count") (.int x) = penKV c a d x f := by
  unfold putK; rw [valV_any, pen_cnt]
  simp [penKV, ck, sn_cells_at, sn_cells_digits, sn_cells_count, sn_cells_fold, sn_at_cells, sn_at_digits, sn_at_count, sn_at_fold, sn_digits_cells, sn_digits_at, sn_digits_count, sn_digits_fold, sn_count_cells, sn_count_at, sn_count_digits, sn_count_fold, sn_fold_cells, sn_fold_at, sn_fold_digits, sn_fold_count]
theorem put_fold : putK (penKV c a d n f) (ck "fold") (.int x) = penKV c a d n x := by
  unfold putK; rw [valV_any, pen_fold]
  simp [penKV, ck, sn_cells_at, sn_cells_digits, sn_cells_count, sn_cells_fold, sn_at_cells, sn_at_digits, sn_at_count, sn_at_fold, sn_digits_cells, sn_digits_at, sn_digits_count, sn_digits_fold, sn_count_cells, sn_count_at, sn_count_digits, sn_count_fold, sn_fold_cells, sn_fold_at, sn_fold_digits, sn_fold_count]
end
/-- the pen at p, its cells at c; n bounds how often it has been drawn -/
def Pen (p c : Addr) (n : Nat) (H : Hp) : Prop :=
  ∃ (cells : List Int) (a d k f : Int), H p = some (.dK (penKV c a d k f)) ∧ Rd H c (.lst (cells.map V.int)) ∧ 0 ≤ a ∧ 0 ≤ d ∧ 0 ≤ k ∧ k ≤ n ∧ 0 ≤ f ∧ f < 2147483648
/-- all but the pen is kept -/
def But (p : Addr) (H H' : Hp) : Prop := ∀ a o, a ≠ p → H a = some o → H' a = some o
theorem But.refl (p : Addr) (H : Hp) : But p H H := fun _ _ _ h => h
theorem But.trans {p : Addr} {H H1 H2 : Hp} (a : But p H H1) (b : But p H1 H2) : But p H H2 := fun x o n h => b x o n (a x o n h)
theorem But.of {p : Addr} {H H1 : Hp} (a : Same H H1) : But p H H1 := fun x o _ h => a x o h
theorem But.free {p a : Addr} {H H1 : Hp} (b : But p H H1) (h : H1 a = none) (n : a ≠ p) : H a = none := by
  cases q : H a with
  | none => rfl
  | some o => rw [b a o n q] at h; cases h
section
variable {K : PySem.W.Frag} {p c : Addr} {n : Nat} {H H' : Hp}
theorem Pen.ne {a : Addr} {o : HO} (h : Pen p c n H) (e : H a = some o) (no : ∀ kvs, o ≠ .dK kvs) : a ≠ p := by
  obtain ⟨cells, a', d, k, f, hp, _⟩ := h
  exact ne_of e hp (no _)
theorem Pen.rd {a : Addr} {u : HO} (h : Pen p c n H) (b : But p H H') (r : Rd H a u) (no : ∀ kvs, u ≠ .dK kvs) : Rd H' a u := by
  rcases r with r | ⟨o, r⟩
  · exact .inl (b _ _ (h.ne r no) r)
  · exact .inr ⟨o, b _ _ (h.ne r (fun _ z => nomatch z)) r⟩
theorem Pen.sl {a : Addr} {xs : List V} (h : Pen p c n H) (b : But p H H') (r : SqL K H a xs) : SqL K H' a xs := r.imp (fun z => h.rd b z (fun _ z => nomatch z)) id
theorem Pen.st {a : Addr} {xs : List V} (h : Pen p c n H) (b : But p H H') (r : SqT K H a xs) : SqT K H' a xs := r.imp (fun z => h.rd b z (fun _ z => nomatch z)) id
mutual
theorem Pen.dp (h : Pen p c n H) (b : But p H H') : ∀ {v : V} {d : PyData}, Dp K H v d → Dp K H' v d
  | _, _, .non => .non
  | _, _, .bl b => .bl b
  | _, _, .int i => .int i
  | _, _, .str x => .str x
  | _, _, .lst q r => .lst (h.sl b q) (Pen.dps h b r)
  | _, _, .tup q r => .tup (h.st b q) (Pen.dps h b r)
theorem Pen.dps (h : Pen p c n H) (b : But p H H') : ∀ {vs : List V} {ds : List PyData}, DpAll K H vs ds → DpAll K H' vs ds
  | _, _, .nil => .nil
  | _, _, .cons q r => .cons (Pen.dp h b q) (Pen.dps h b r)
end
theorem Pen.same (h : Pen p c n H) (s : Same H H') : Pen p c n H' := by
  obtain ⟨cells, a, d, k, f, hp, hc, r⟩ := h
  exact ⟨cells, a, d, k, f, s _ _ hp, s.rdA hc, r⟩
theorem Pen.more {m : Nat} (h : Pen p c n H) (l : n ≤ m) : Pen p c m H := by
  obtain ⟨cells, a, d, k, f, hp, hc, h1, h2, h3, h4, r⟩ := h
  exact ⟨cells, a, d, k, f, hp, hc, h1, h2, h3, Int.le_trans h4 (by omega), r⟩
theorem Pen.some_p (h : Pen p c n H) : ∃ o, H p = some o := by
  obtain ⟨cells, a, d, k, f, hp, _⟩ := h; exact ⟨_, hp⟩
theorem Pen.some_c (h : Pen p c n H) : ∃ o, H c = some o := by
  obtain ⟨cells, a, d, k, f, hp, hc, _⟩ := h
  rcases hc with hc | ⟨o, hc⟩ <;> exact ⟨_, hc⟩
/-- an own object is changed or made: the pen stands -/
theorem Pen.upd {l : Addr} {o : HO} (h : Pen p c n H) (h1 : l ≠ p) (h2 : l ≠ c) : Pen p c n (L2.upd H l o) := by
  obtain ⟨cells, a, d, k, f, hp, hc, r⟩ := h
  refine ⟨cells, a, d, k, f, by rw [upd_ne (Ne.symm h1)]; exact hp, ?_, r⟩
  rcases hc with hc | ⟨o, hc⟩
  · exact .inl (by rw [upd_ne (Ne.symm h2)]; exact hc)
  · exact .inr ⟨o, by rw [upd_ne (Ne.symm h2)]; exact hc⟩
theorem Pen.ne_p {l : Addr} (h : Pen p c n H) (hl : H l = none) : l ≠ p := by
  obtain ⟨o, e⟩ := h.some_p
  exact Ne.symm (ne_of_none e hl)
theorem Pen.ne_c {l : Addr} (h : Pen p c n H) (hl : H l = none) : l ≠ c := by
  obtain ⟨o, e⟩ := h.some_c
  exact Ne.symm (ne_of_none e hl)
end

section
variable {H : Hp} {p c : Addr} {a d n f x : Int}
theorem pg_cells (h : H p = some (.dK (penKV c a d n f))) : DGet H p (.str "cells") (some (.ref c)) := by
  have q := DGet.k (k := ck "cells") h
  rw [pen_cells] at q; exact q
theorem pg_at (h : H p = some (.dK (penKV c a d n f))) : DGet H p (.str "at") (some (.int a)) := by
  have q := DGet.k (k := ck "at") h
  rw [pen_at] at q; exact q
theorem pg_dig (h : H p = some (.dK (penKV c a d n f))) : DGet H p (.str "digits") (some (.int d)) := by
  have q := DGet.k (k := ck "digits") h
  rw [pen_dig] at q; exact q
theorem pg_cnt (h : H p = some (.dK (penKV c a d n f))) : DGet H p (.str "count") (some (.int n)) := by
  have q := DGet.k (k := ck "count") h
  rw [pen_cnt] at q; exact q
theorem pg_fold (h : H p = some (.dK (penKV c a d n f))) : DGet H p (.str "fold") (some (.int f)) := by
  have q := DGet.k (k := ck "fold") h
  rw [pen_fold] at q; exact q
theorem pp_at (h : H p = some (.dK (penKV c a d n f))) : DPut H p (.str "at") (.int x) (upd H p (.dK (penKV c x d n f))) := by
  have q := DPut.k (k := ck "at") (v := .int x) h (by show 5 < sizeLine; decide)
  rw [put_at] at q; exact q
theorem pp_dig (h : H p = some (.dK (penKV c a d n f))) : DPut H p (.str "digits") (.int x) (upd H p (.dK (penKV c a x n f))) := by
  have q := DPut.k (k := ck "digits") (v := .int x) h (by show 5 < sizeLine; decide)
  rw [put_dig] at q; exact q
theorem pp_cnt (h : H p = some (.dK (penKV c a d n f))) : DPut H p (.str "count") (.int x) (upd H p (.dK (penKV c a d x f))) := by
  have q := DPut.k (k := ck "count") (v := .int x) h (by show 5 < sizeLine; decide)
  rw [put_cnt] at q; exact q
theorem pp_fold (h : H p = some (.dK (penKV c a d n f))) : DPut H p (.str "fold") (.int x) (upd H p (.dK (penKV c a d n x))) := by
  have q := DPut.k (k := ck "fold") (v := .int x) h (by show 5 < sizeLine; decide)
  rw [put_fold] at q; exact q
end
/-- the promise of a draw -/
def spDraw : Sp := fun vs H Q _ => ∃ (p c : Addr) (many : Int) (n : Nat), vs = [.ref p, .int many] ∧ Pen p c n H ∧ 0 < many ∧ many < 1000000 ∧ n < 1000000000000 ∧
  ∀ (d : Int) H', 0 ≤ d → d < many → But p H H' → Pen p c (n + 1) H' → Q (.int d) H'
end Ag

set_option Elab.async false
set_option linter.all false
set_option maxRecDepth 100000
set_option maxHeartbeats 1000000
/-! Comprehensions over data, statements over data. -/
namespace Ag
open PySem PySem.Spec PyProof.Rows L2
/-- a walk that hands out the data ds, as long as what stood at H stands -/
structure Wk (K : PySem.W.Frag) (F : Addr → Prop) (H : Hp) (J : It) (ds : List PyData) : Prop where
  go : ∀ i H', SameF F H H' → i < ds.length → J.go i H'
  stop : ∀ H', SameF F H H' → J.stop ds.length H'
  yld : ∀ i H' x H'', i < ds.length → SameF F H H' → J.yld i H' x H'' → ∃ d, ds[i]? = some d ∧ Same H' H'' ∧ Df K (fun a => F a ∧ H a ≠ none) H'' x d
def EI (K : PySem.W.Frag) (wi : TI) (σ : L2.St) (F : Addr → Prop) (H : Hp) (ds : List PyData) : Prop := ∀ H1, Same H H1 → ∀ R : It → Hp → Prop, (∀ J H2, Same H1 H2 → Wk K (Fr F H1) H2 J ds → R J H2) → wi σ H1 R
section
variable {K : PySem.W.Frag} {σ : L2.St} {F : Addr → Prop} {H : Hp} {te tl : TE} {ds : List PyData}
theorem slF {a : Addr} {xs : List V} {H' : Hp} (s : SameF F H H') (h : (Rd H a (.lst xs) ∧ F a) ∨ KL K a xs) : SqL K H' a xs := h.imp (fun z => rd_lstF s z.1 z.2) id
theorem wk_list {a : Addr} {xs : List V} (h : (Rd H a (.lst xs) ∧ F a) ∨ KL K a xs) (r : DfAll K F H xs ds) : Wk K F H (Itl K a) ds where
  go := fun i H' s hi => by
    obtain ⟨d, e⟩ : ∃ d, ds[i]? = some d := ⟨_, List.getElem?_eq_getElem hi⟩
    obtain ⟨v, q, _⟩ := dfs_get r e
    exact ⟨xs, v, slF s h, q⟩
  stop := fun H' s => ⟨xs, slF s h, by rw [dfs_len r]; exact Nat.le_refl _⟩
  yld := fun i H' x H'' _ s y => by
    obtain ⟨rfl, y⟩ := y
    obtain ⟨d, e, hd⟩ := dfs_get' (dfs_monoF (s.sub fun _ z => z.1) (dfs_in r)) (y xs (slF s h))
    exact ⟨d, e, Same.refl _, hd⟩
theorem wk_tup {a : Addr} {xs : List V} (h : SqT K H a xs) (r : DfAll K F H xs ds) : Wk K F H (Itt K a) ds where
  go := fun i H' s hi => by
    obtain ⟨d, e⟩ : ∃ d, ds[i]? = some d := ⟨_, List.getElem?_eq_getElem hi⟩
    obtain ⟨v, q, _⟩ := dfs_get r e
    exact ⟨xs, v, sqt_F s h, q⟩
  stop := fun H' s => ⟨xs, sqt_F s h, by rw [dfs_len r]; exact Nat.le_refl _⟩
  yld := fun i H' x H'' _ s y => by
    obtain ⟨rfl, y⟩ := y
    obtain ⟨d, e, hd⟩ := dfs_get' (dfs_monoF (s.sub fun _ z => z.1) (dfs_in r)) (y xs (sqt_F s h))
    exact ⟨d, e, Same.refl _, hd⟩
theorem ei_list (h : ED K tl σ F H (.list ds)) : EI K (iList K tl) σ F H ds := fun H1 s R q => h H1 s _ fun v H2 s2 hv => by
  cases hv with
  | lst hs r => exact ⟨_, rfl, ⟨_, hs.imp (fun z => z.1) id⟩, q _ H2 s2 (wk_list hs r)⟩
theorem ei_tup (h : ED K tl σ F H (.tuple ds)) : EI K (iTup K tl) σ F H ds := fun H1 s R q => h H1 s _ fun v H2 s2 hv => by
  cases hv with
  | tup hs r => exact ⟨_, rfl, ⟨_, hs⟩, q _ H2 s2 (wk_tup hs r)⟩
def signs (x : Str) : List PyData := x.cps.toList.map fun c => .str ⟨#[c]⟩
theorem ei_str {x : Str} (h : ED K te σ F H (.str x)) : EI K (iStr te) σ F H (signs x) := fun H1 s R q => h H1 s _ fun v H2 s2 hv => by
  cases hv
  refine ⟨x, rfl, q _ H2 s2 ⟨fun i H' _ hi => ?_, fun H' _ => ?_, fun i H' y H'' _ _ z => ?_⟩⟩
  · show i < x.cps.size
    rw [← Array.length_toList]; unfold signs at hi; rw [List.length_map] at hi; exact hi
  · show x.cps.size ≤ (signs x).length
    unfold signs; rw [List.length_map, Array.length_toList]; exact Nat.le_refl _
  · obtain ⟨rfl, c, e, rfl⟩ := z
    refine ⟨.str ⟨#[c]⟩, ?_, Same.refl _, .str _⟩
    unfold signs
    rw [List.getElem?_map, Array.getElem?_toList, e]; rfl
/-- the numbers below n -/
def nums (n : Nat) : List PyData := (List.range n).map fun i => .int (i : Nat)
theorem ei_range {n : Nat} (h : ED K te σ F H (.int (n : Nat))) (hn : n ≤ 100000) : EI K (iRng1 (tCons te tNil)) σ F H (nums n) := fun H1 s R q => h H1 s _ fun v H2 s2 hv => by
  cases hv
  refine ⟨_, rfl, by omega, by omega, q _ H2 s2 ⟨fun i H' _ hi => ?_, fun H' _ => ?_, fun i H' y H'' hi _ z => ?_⟩⟩
  · show i < ((n : Int)).toNat
    unfold nums at hi; rw [List.length_map, List.length_range] at hi; omega
  · show ((n : Int)).toNat ≤ (nums n).length
    unfold nums; rw [List.length_map, List.length_range]; omega
  · obtain ⟨rfl, rfl⟩ := z
    unfold nums at hi; rw [List.length_map, List.length_range] at hi
    refine ⟨.int (i : Nat), ?_, Same.refl _, by rw [Int.zero_add]; exact .int _⟩
    unfold nums; rw [List.getElem?_map, List.getElem?_range hi]; rfl
def zipD (xs ys : List PyData) : List PyData := List.zipWith (fun a b => .tuple [a, b]) xs ys
theorem ei_zip {ta : TA} {xs ys : List PyData} (h : EA K ta σ F H [.tuple xs, .tuple ys]) : EI K (RZ.iZipA K ta) σ F H (zipD xs ys) := fun H1 s R q => h H1 s _ fun vs H2 s2 hv => by
  cases hv with
  | cons a r =>
    cases r with
    | cons b r =>
      cases r
      cases a with
      | tup ha ra =>
        cases b with
        | tup hb rb =>
          refine ⟨_, _, _, _, rfl, .inr ⟨ha, hb, q _ H2 s2 ⟨fun i H' s3 hi => ?_, fun H' s3 => ?_, fun i H' y H'' _ s3 z => ?_⟩⟩⟩
          · have hi' : i < xs.length ∧ i < ys.length := by
              unfold zipD at hi; rw [List.length_zipWith] at hi; omega
            obtain ⟨v, e, _⟩ := dfs_get ra (List.getElem?_eq_getElem hi'.1)
            obtain ⟨v2, e2, _⟩ := dfs_get rb (List.getElem?_eq_getElem hi'.2)
            exact ⟨_, _, v, v2, sqt_F s3 ha, sqt_F s3 hb, e, e2⟩
          · refine ⟨_, _, sqt_F s3 ha, sqt_F s3 hb, ?_⟩
            unfold zipD; rw [List.length_zipWith, dfs_len ra, dfs_len rb]; omega
          · obtain ⟨T, x, x2, rfl, hT, rfl, e1, e2⟩ := z
            obtain ⟨d, q1, hd⟩ := dfs_get' (dfs_in ra) (e1 _ (sqt_F s3 ha))
            obtain ⟨d2, q2, hd2⟩ := dfs_get' (dfs_in rb) (e2 _ (sqt_F s3 hb))
            refine ⟨.tuple [d, d2], ?_, Same.newA hT, .tup (.of upd_same) (.cons (df_mono (Same.newA hT) (fun _ z => z) (df_monoF (s3.sub fun _ z => z.1) hd)) (.cons (df_mono (Same.newA hT) (fun _ z => z) (df_monoF (s3.sub fun _ z => z.1) hd2)) .nil))⟩
            unfold zipD; rw [List.getElem?_zipWith, q1, q2]
/-- a comprehension over data: the list made -/
theorem lc_run {wi : TI} {g : TG} {tt : TT} {vs : List Nat} {f : PyData → Bool} {m : PyData → PyData} (hi : EI K wi σ F H ds) (hl : ds.length ≤ 50000)
    (ht : ∀ F2 H1, Ext F H F2 H1 → ∀ v d, d ∈ ds → Df K F2 H1 v d → ∃ σ2, (∀ Q : L2.St → Hp → Prop, Q σ2 H1 → g v (wipe σ vs) H1 Q) ∧ wipe σ2 vs = wipe σ vs ∧ ET tt σ2 H1 (f d) ∧ (f d = true → ED K te σ2 F2 H1 (m d))) :
    ∀ H1, Same H H1 → ∀ Q : VK, (∀ D ys H', Same H1 H' → H1 D = none → H' D = some (.lst ys) → DfAll K (fun a => Fr F H1 a ∧ a ≠ D) H' ys ((ds.filter f).map m) → Q (.ref D) H') → tLc wi g tt te vs σ H1 Q := fun H1 s Q q => hi H1 s _ fun J H2 s2 W D hD => by
  have out : ∀ i, i ≤ ds.length → (((ds.take i).filter f).map m).length < 100000 := fun i hi => by
    rw [List.length_map]
    have := List.length_filter_le f (ds.take i)
    rw [List.length_take] at this
    omega
  have hD1 : H1 D = none := s2.freshA hD
  -- what items may be: lists not at D
  let F2 : Addr → Prop := fun a => Fr F H1 a ∧ a ≠ D
  have nF : ¬ F2 D := fun z => z.2 rfl
  refine ⟨fun i k H' => k = ds.length - i ∧ i ≤ ds.length ∧ Same H2 H' ∧ ∃ ys, H' D = some (.lst ys) ∧ DfAll K F2 H' ys (((ds.take i).filter f).map m), ⟨ds.length, by simp, Nat.zero_le _, Same.newA hD, [], upd_same, by simp; exact .nil⟩, ?_⟩
  rintro i k H' ⟨rfl, hi, s3, ys, e, r⟩
  by_cases lt : i < ds.length
  · refine .inr ⟨W.go i H' s3.F lt, fun H5 => Same H2 H5 ∧ ∃ ys, H5 D = some (.lst ys) ∧ DfAll K F2 H5 ys (((ds.take (i + 1)).filter f).map m), fun H5 ⟨a, b⟩ => ⟨ds.length - (i + 1), by omega, rfl, lt, a, b⟩, fun x H3 y => ?_⟩
    obtain ⟨d, hd, s4, hx⟩ := W.yld i H' x H3 lt s3.F y
    have hx2 : Df K F2 H3 x d := df_mono (Same.refl _) (fun a z => ⟨z.1, fun q => z.2 (q ▸ hD)⟩) hx
    obtain ⟨σ2, hg, hw, htt, hte⟩ := ht F2 H3 ⟨(((s.trans s2).trans s3).trans s4).F, fun a z n => ⟨.inl z, fun q => n (s.freshA (q ▸ hD1))⟩⟩ x d (List.mem_of_getElem? hd) hx2
    have tk : ds.take (i + 1) = ds.take i ++ [d] := by rw [List.take_succ, hd]; rfl
    refine hg _ ⟨hw, htt H3 (Same.refl _) _ fun H4 s5 => ?_⟩
    cases hf : f d with
    | true =>
      refine hte hf H4 s5 _ fun v H5 s6 hv => ?_
      have e4 : H4 D = some (.lst ys) := s5 _ _ (s4 _ _ e)
      have e5 : H5 D = some (.lst ys) := s6 _ _ e4
      have s45 := (s4.trans s5).trans s6
      have r5 : DfAll K F2 H5 ys (((ds.take i).filter f).map m) := dfs_mono s45 (fun _ z => z) r
      have v5 : Df K F2 H5 v (m d) := df_mono (Same.refl _) (fun a z => by
        rcases z with z | z
        · exact z
        · exact ⟨.inr (s2.freshA (s3.freshA ((s4.trans s5).freshA z))), fun q => by rw [q, e4] at z; cases z⟩) hv
      refine ⟨ys, e5, lt5 (by rw [dfs_len r5]; exact out i hi), fun a u h => ?_, ys ++ [v], upd_same, ?_⟩
      · rw [upd_ne (ne_of_none h hD)]; exact s45 _ _ (s3 _ _ h)
      · rw [tk, List.filter_append, List.map_append]
        have e1 : ([d].filter f).map m = [m d] := by simp [hf]
        rw [e1]
        exact dfs_app (dfs_upd e5 nF r5) (.cons (df_upd e5 nF v5) .nil)
    | false =>
      refine ⟨fun a u h => s5 _ _ (s4 _ _ (s3 _ _ h)), ys, s5 _ _ (s4 _ _ e), ?_⟩
      rw [tk, List.filter_append, List.map_append]
      have e1 : ([d].filter f).map m = [] := by simp [hf]
      rw [e1, List.append_nil]
      exact dfs_mono (s4.trans s5) (fun _ z => z) r
  · have : i = ds.length := by omega
    subst this
    refine .inl ⟨W.stop H' s3.F, q D ys H' (s2.trans s3) hD1 e ?_⟩
    rw [List.take_length] at r; exact r
/-- a comprehension over data -/
theorem ed_lc {wi : TI} {g : TG} {tt : TT} {vs : List Nat} {f : PyData → Bool} {m : PyData → PyData} (hi : EI K wi σ F H ds) (hl : ds.length ≤ 50000)
    (ht : ∀ F2 H1, Ext F H F2 H1 → ∀ v d, d ∈ ds → Df K F2 H1 v d → ∃ σ2, (∀ Q : L2.St → Hp → Prop, Q σ2 H1 → g v (wipe σ vs) H1 Q) ∧ wipe σ2 vs = wipe σ vs ∧ ET tt σ2 H1 (f d) ∧ (f d = true → ED K te σ2 F2 H1 (m d))) :
    ED K (tLc wi g tt te vs) σ F H (.list ((ds.filter f).map m)) := fun H1 s Q q => lc_run hi hl ht H1 s Q fun D ys H' s2 n e r => q _ _ s2 (.lst (.inl ⟨.inl e, .inr n⟩) (dfs_mono (Same.refl _) (fun _ z => z.1) r))
theorem et_yes : ET tYes σ H true := fun H1 _ _ q => q H1 (Same.refl _)
end
/-! ### statements over data -/
section
variable {K : PySem.W.Frag} {σ : L2.St} {F : Addr → Prop} {H : Hp} {te ta tb : TE} {t : TT} {d e : PyData} {D : Ends} {tu tw : TS}
theorem s_ret (h : ED K te σ F H d) (k : ∀ v H1, Same H H1 → Df K (Fr F H) H1 v d → D.rt v H1) : tRet te D σ H := h H (Same.refl _) _ k
theorem s_set {i : Nat} (h : ED K te σ F H d) (k : ∀ v H1, Same H H1 → Df K (Fr F H) H1 v d → D.nx (σ.set i (some v)) H1) : tAsg te (gName i) D σ H := h H (Same.refl _) _ k
theorem s_if {b : Bool} (h : ET t σ H b) (h1 : b = true → ∀ H1, Same H H1 → tu D σ H1) (h2 : b = false → ∀ H1, Same H H1 → tw D σ H1) : tIfS t tu tw D σ H := h H (Same.refl _) _ fun H1 s => by
  cases b with
  | true => exact h1 rfl H1 s
  | false => exact h2 rfl H1 s
theorem ed_notInS {c : Nat} {z : Str} (ha : ED K ta σ F H (.str ⟨#[c]⟩)) (hb : ED K tb σ F H (.str z)) :
    ED K (tOp (fun x y H Q => ∃ (c : Nat) (z : Str), x = .str ⟨#[c]⟩ ∧ y = .str z ∧ Q (.bl (!decide (c ∈ z.cps.toList))) H) ta tb) σ F H (.bool (!decide (c ∈ z.cps.toList))) :=
  ed_op ha hb fun F a b H1 hx hy Q q => by
    cases hx; cases hy; exact ⟨c, z, rfl, rfl, q _ _ (Same.refl _) (.bl _)⟩
theorem ed_inS {c : Nat} {z : Str} (ha : ED K ta σ F H (.str ⟨#[c]⟩)) (hb : ED K tb σ F H (.str z)) :
    ED K (tOp (fun x y H Q => ∃ (c : Nat) (z : Str), x = .str ⟨#[c]⟩ ∧ y = .str z ∧ Q (.bl (decide (c ∈ z.cps.toList))) H) ta tb) σ F H (.bool (decide (c ∈ z.cps.toList))) :=
  ed_op ha hb fun F a b H1 hx hy Q q => by
    cases hx; cases hy; exact ⟨c, z, rfl, rfl, q _ _ (Same.refl _) (.bl _)⟩
end
end Ag

set_option Elab.async false
set_option linter.all false
set_option maxRecDepth 100000
set_option maxHeartbeats 1000000
/-! More rules over data: x is True, in of texts, slices and sums of tuples, list.extend of a tuple. -/
namespace Ag
open PySem PySem.Spec PyProof.Rows L2
/-- a value of data -/
def isDat : V → Bool | .non | .bl _ | .int _ | .str _ | .ref _ => true | _ => false
def rIsX (neg : Bool) : R2 := fun x y H Q => ∃ b, y = .bl b ∧ isDat x = true ∧ Q (.bl (if neg then !decide (x = .bl b) else decide (x = .bl b))) H
theorem is_dat {v : Value} {x : V} {b : Bool} (r : RelV x v) (h : isDat x = true) : plainIs v (.bool b) = true ∧ (v == Value.bool b) = decide (x = .bl b) := by
  cases x with
  | non => cases r; exact ⟨rfl, by rw [decide_eq_false (fun z => nomatch z)]; rfl⟩
  | bl c => cases r; exact ⟨rfl, by cases c <;> cases b <;> decide⟩
  | int i => obtain ⟨t, rfl⟩ := r; exact ⟨rfl, by rw [decide_eq_false (fun z => nomatch z)]; rfl⟩
  | str i => obtain ⟨t, rfl⟩ := r; exact ⟨rfl, by rw [decide_eq_false (fun z => nomatch z)]; rfl⟩
  | ref a => cases r; exact ⟨rfl, by rw [decide_eq_false (fun z => nomatch z)]; rfl⟩
  | _ => cases h
theorem op_isB {X : Cx} : OpR X (compareOp .Is) (rIsX false) := by
  intro pins s σ H x y v u Q I rx ry h
  obtain ⟨b, rfl, hd, q⟩ := h
  cases (show u = Value.bool b from ry)
  obtain ⟨h1, h2⟩ := is_dat (b := b) rx hd
  exact wpAny_is_plain h1 ⟨.bl _, H, I, rfl, by rw [h2]; exact q⟩
theorem op_isnotB {X : Cx} : OpR X (compareOp .IsNot) (rIsX true) := by
  intro pins s σ H x y v u Q I rx ry h
  obtain ⟨b, rfl, hd, q⟩ := h
  cases (show u = Value.bool b from ry)
  obtain ⟨h1, h2⟩ := is_dat (b := b) rx hd
  exact wpAny_isNot_plain h1 ⟨.bl _, H, I, rfl, by rw [h2]; exact q⟩
end Ag
namespace PySem.AutoSeq1
open PySem PySem.Spec PyProof.Rows
set_option maxRecDepth 8000 in
theorem list_extend_tup (l : Addr) (items : Array Value) (n : Nat) (b : Addr) (items2 : Array Value) (n2 : Nat) (dd : Option Addr) (sl : Array (Option Value)) (hs0 : ¬(!items.isEmpty && Builtin.List.listTooLong (items.size + items2.size)) = true) (hs1 : items.size ≤ sizeLine) (hs2 : items.size + items2.size ≤ sizeLine + 1) :
    Meets (Builtin.«list.extend» ⟨[.ref l, .ref b], []⟩) (fun _ R s => s.heap.get? l = some { cls := .type "list", dict := none, data := .seq items n, slots := #[] } ∧ s.heap.get? b = some { cls := .type "tuple", dict := dd, data := .seq items2 n2, slots := sl } ∧ R (.ok (.ret Value.none)) { s with heap := s.heap.update l (Obj.mapSeq fun x => x ++ items2), toks := s.toks }) :=
  .of_wp fun prog w A R s h => by
    obtain ⟨hp, g, d, tk, os⟩ := s; obtain ⟨hl, hb, h⟩ := h; have f1 := idx_int; have f2 := sub_tuple_tuple; have f3 := sub_list_list; have f4 := sub_tuple_list; have f5 := sub_list_tuple;
    have hz' : (items ++ items2).size ≤ sizeLine + 1 := by rw [Array.size_append]; exact hs2
    wp_walk using (wpAny_updateSeq hl rfl (hz := hs1) (_hz' := hz')), wpAny_loadPart' hl, wpAny_loadPart' hb; exact ⟨_, rfl, h⟩
end PySem.AutoSeq1
namespace Ag
open PySem PySem.Spec PyProof.Rows L2
/-- l.extend(tuple) -/
def rExtendT (K : PySem.W.Frag) : V → List V → Hp → VK → Prop := fun x vs H Q => ∃ l b xs zs, x = .ref l ∧ vs = [.ref b] ∧ H l = some (.lst xs) ∧ SqT K H b zs ∧ xs.length + zs.length ≤ sizeLine ∧ Q .non (upd H l (.lst (xs ++ zs)))
theorem mt_extendT {X : Cx} : MtM X "list.extend" (rExtendT X.K) := by
  intro pins s σ H x vs v us Q I rx rv h
  obtain ⟨l, b, xs, zs, rfl, rfl, hH, hB, hz, q⟩ := h
  cases rx
  obtain ⟨u, rfl, ru⟩ := rv.one
  cases ru
  obtain ⟨z, its, n, r, hl, e⟩ := I.lstM hH
  obtain ⟨its2, r2, ⟨⟨oc, od, odt, osl⟩, e2, ec, n2, ed⟩, hz2⟩ := I.tuple hB
  simp only at ec ed
  subst ec ed
  have hl2 := r2.length
  have hsz : its.toArray.size + its2.toArray.size ≤ sizeLine := by rw [List.size_toArray, List.size_toArray]; omega
  have hlong : ¬ (!its.toArray.isEmpty && Builtin.List.listTooLong (its.toArray.size + its2.toArray.size)) = true := by
    rw [notLongL hsz, Bool.and_false]
    exact Bool.false_ne_true
  refine call_meets F.slot_list_extend ⟨_, e, rfl⟩ F.entry_list_extend (F.args_list_extend_2 _ _)
    (PySem.AutoSeq1.list_extend_tup l its.toArray n b its2.toArray n2 od osl hlong (by rw [List.size_toArray]; omega) (by omega)) ⟨e, e2, ?_⟩
  refine ⟨.non, _, I.lset (its' := its ++ its2) hH e (by simp) (r.append r2) ?_, rfl, q⟩
  rw [List.length_append]
  omega

section
variable {K : PySem.W.Frag} {σ : L2.St} {F : Addr → Prop} {H : Hp} {te ta tb : TE} {d e : PyData}
theorem df_isDat {x : V} (h : Df K F H x d) : isDat x = true := by cases h <;> rfl
def isB (b : Bool) : PyData → Bool | .bool c => c == b | _ => false
theorem isB_of {b : Bool} {x : V} (h : Df K F H x d) : decide (x = .bl b) = isB b d := by
  cases h with
  | bl c => cases c <;> cases b <;> decide
  | _ => exact decide_eq_false (fun z => nomatch z)
theorem ed_isB {b : Bool} (ha : ED K ta σ F H d) : ED K (tOp (rIsX false) ta (tC (.bl b))) σ F H (.bool (isB b d)) :=
  ed_op ha ed_bl fun F x y H1 hx hy Q q => by
    cases hy; refine ⟨b, rfl, df_isDat hx, ?_⟩
    show Q (.bl (decide (x = .bl b))) H1
    rw [isB_of hx]; exact q _ _ (Same.refl _) (.bl _)
theorem ed_isnotB {b : Bool} (ha : ED K ta σ F H d) : ED K (tOp (rIsX true) ta (tC (.bl b))) σ F H (.bool (!isB b d)) :=
  ed_op ha ed_bl fun F x y H1 hx hy Q q => by
    cases hy; refine ⟨b, rfl, df_isDat hx, ?_⟩
    show Q (.bl (!decide (x = .bl b))) H1
    rw [isB_of hx]; exact q _ _ (Same.refl _) (.bl _)
theorem inV_strs (x : Str) : ∀ (xs : List Str), inV (.str x) (xs.map V.str) = decide (x ∈ xs)
  | [] => rfl
  | y :: ys => by
    have ih := inV_strs x ys
    unfold inV at ih ⊢
    rw [List.map_cons, List.any_cons, ih]
    have e : eqV (.str y) (.str x) = decide (y = x) := rfl
    rw [e]
    by_cases h : x = y
    · subst h; simp
    · have h' : ¬ y = x := fun q => h q.symm
      simp [h, h']
theorem flat_strs : ∀ (xs : List Str), (xs.map V.str).all flatV = true
  | [] => rfl
  | y :: ys => by rw [List.map_cons, List.all_cons, flat_strs ys]; rfl
theorem ed_inSeq {x : Str} {xs : List Str} (ha : ED K ta σ F H (.str x)) (hb : ED K tb σ F H e) (he : e = .tuple (xs.map .str) ∨ e = .list (xs.map .str)) : ED K (tOp (rIn K false) ta tb) σ F H (.bool (decide (x ∈ xs))) :=
  ed_op ha hb fun F a b H1 hx hy Q q => by
    cases hx
    have h : ∃ p, b = .ref p ∧ (SqL K H1 p (xs.map V.str) ∨ SqT K H1 p (xs.map V.str)) := by
      rcases he with rfl | rfl
      · cases hy with
        | tup h r => rw [strs_dps (dfs_dps r)] at h; exact ⟨_, rfl, .inr h⟩
      · cases hy with
        | lst h r => rw [strs_dps (dfs_dps r)] at h; exact ⟨_, rfl, .inl (h.imp (fun z => z.1) id)⟩
    obtain ⟨p, rfl, h⟩ := h
    refine ⟨p, _, rfl, h, rfl, flat_strs xs, ?_⟩
    show Q (.bl (inV (.str x) (xs.map V.str))) H1
    rw [inV_strs]; exact q _ _ (Same.refl _) (.bl _)
theorem ed_notInSeq {x : Str} {xs : List Str} (ha : ED K ta σ F H (.str x)) (hb : ED K tb σ F H e) (he : e = .tuple (xs.map .str) ∨ e = .list (xs.map .str)) : ED K (tOp (rIn K true) ta tb) σ F H (.bool (!decide (x ∈ xs))) :=
  ed_op ha hb fun F a b H1 hx hy Q q => by
    cases hx
    have h : ∃ p, b = .ref p ∧ (SqL K H1 p (xs.map V.str) ∨ SqT K H1 p (xs.map V.str)) := by
      rcases he with rfl | rfl
      · cases hy with
        | tup h r => rw [strs_dps (dfs_dps r)] at h; exact ⟨_, rfl, .inr h⟩
      · cases hy with
        | lst h r => rw [strs_dps (dfs_dps r)] at h; exact ⟨_, rfl, .inl (h.imp (fun z => z.1) id)⟩
    obtain ⟨p, rfl, h⟩ := h
    refine ⟨p, _, rfl, h, rfl, flat_strs xs, ?_⟩
    show Q (.bl (!inV (.str x) (xs.map V.str))) H1
    rw [inV_strs]; exact q _ _ (Same.refl _) (.bl _)
theorem ed_catT {xs ys : List PyData} (ha : ED K ta σ F H (.tuple xs)) (hb : ED K tb σ F H (.tuple ys)) (hl : xs.length + ys.length ≤ 100000) : ED K (tOp (rCatA K) ta tb) σ F H (.tuple (xs ++ ys)) :=
  ed_op ha hb fun F a b H1 hx hy Q q => by
    cases hx with
    | tup h r =>
      cases hy with
      | tup h2 r2 =>
        refine ⟨_, _, _, _, rfl, rfl, h, h2, by rw [dfs_len r, dfs_len r2]; exact small5 hl, fun z => ?_, fun _ z => ?_, fun _ _ p hp => ?_⟩
        · subst z; cases r; exact q _ _ (Same.refl _) (.tup h2 (dfs_mono (Same.refl _) (fun _ z => .inl z) r2))
        · subst z; cases r2; exact q _ _ (Same.refl _) (by rw [List.append_nil]; exact .tup h (dfs_mono (Same.refl _) (fun _ z => .inl z) r))
        · exact q _ _ (Same.newA hp) (.tup (.of upd_same) (dfs_mono (Same.newA hp) (fun _ z => .inl z) (dfs_app r r2)))
def cutD (xs : List PyData) (lo hi : Option Int) : List PyData := (xs.drop (HT.sIx xs.length 0 lo)).take (HT.sIx xs.length xs.length hi - HT.sIx xs.length 0 lo)
theorem dfs_cut {vs : List V} {ds : List PyData} {lo hi : Option Int} (h : DfAll K F H vs ds) : DfAll K F H (cutV vs lo hi) (cutD ds lo hi) := by
  unfold cutV cutD; rw [dfs_len h]; exact dfs_take _ (dfs_drop _ h)
theorem cutD_all {ds : List PyData} {lo hi : Option Int} (h : HT.sIx ds.length 0 lo = 0 ∧ HT.sIx ds.length ds.length hi = ds.length) : cutD ds lo hi = ds := by
  unfold cutD; rw [h.1, h.2, List.drop_zero, Nat.sub_zero, List.take_length]
theorem eo_none : EO tNoPart σ H none := fun H1 s Q q => q H1 (Same.refl _)
theorem eo_some {i : Int} (h : ED K te σ F H (.int i)) : EO (tPart te) σ H (some i) := fun H1 s Q q => h H1 s _ fun v H2 s2 hv => by
  cases hv; exact ⟨i, rfl, q H2 s2⟩
theorem ed_slT {xs : List PyData} {tl th : TO} {lo hi : Option Int} (h : ED K te σ F H (.tuple xs)) (hl : EO tl σ H lo) (hh : EO th σ H hi) : ED K (tSl (rSlA K) te tl th) σ F H (.tuple (cutD xs lo hi)) := fun H1 s Q q =>
  h H1 s _ fun v H2 s2 hv => hl H2 (s.trans s2) _ fun H3 s3 => hh H3 ((s.trans s2).trans s3) _ fun H4 s4 => by
    cases hv with
    | tup ht r =>
      have s34 := s3.trans s4
      have s24 := s2.trans s34
      refine ⟨_, _, rfl, s34.stA ht, fun z => ?_, fun _ p hp => ?_⟩
      · rw [dfs_len r] at z
        exact q _ _ s24 (by rw [cutD_all z]; exact .tup (s34.stA ht) (dfs_mono s34 (fun _ z => z) r))
      · exact q _ _ (s24.trans (Same.newA hp)) (.tup (.of upd_same) (dfs_mono (s34.trans (Same.newA hp)) (fun _ z => z) (dfs_cut r)))
theorem ed_slL {xs : List PyData} {tl th : TO} {lo hi : Option Int} (h : ED K te σ F H (.list xs)) (hl : EO tl σ H lo) (hh : EO th σ H hi) : ED K (tSl (rSlL K) te tl th) σ F H (.list (cutD xs lo hi)) := fun H1 s Q q =>
  h H1 s _ fun v H2 s2 hv => hl H2 (s.trans s2) _ fun H3 s3 => hh H3 ((s.trans s2).trans s3) _ fun H4 s4 => by
    cases hv with
    | lst ht r =>
      have s34 := s3.trans s4
      have s24 := s2.trans s34
      refine ⟨_, _, rfl, s34.slA (ht.imp (fun z => z.1) id), fun p hp => ?_⟩
      exact q _ _ (s24.trans (Same.newA hp)) (.lst (.inl ⟨.inl upd_same, .inr (s24.freshA hp)⟩) (dfs_mono (s34.trans (Same.newA hp)) (fun _ z => z) (dfs_cut r)))
theorem filt_tt {α : Type} (l : List α) : l.filter (fun _ => true) = l := List.filter_eq_self.mpr fun _ _ => rfl
end
end Ag

set_option Elab.async false
set_option linter.all false
set_option maxRecDepth 100000
set_option maxHeartbeats 1000000
/-! A list beside the empty list, whatever its depth. -/
namespace Ag
open PySem PySem.Spec PyProof.Rows L2
def rNeE (K : PySem.W.Frag) : R2 := fun x y H Q => ∃ ds, Dp K H x (.list ds) ∧ Dp K H y (.list []) ∧ PyData.canLayAll0 ds = true ∧ Q (.bl (!ds.isEmpty)) H
def rEqE (K : PySem.W.Frag) : R2 := fun x y H Q => ∃ ds, Dp K H x (.list ds) ∧ Dp K H y (.list []) ∧ PyData.canLayAll0 ds = true ∧ Q (.bl ds.isEmpty) H
theorem eqv_empty : ∀ (ds : List PyData), PyData.eqv (.list ds) (.list []) = ds.isEmpty
  | [] => by simp [PyData.eqv, PyData.eqvAll]
  | _ :: _ => by simp [PyData.eqv, PyData.eqvAll]
theorem room_empty {A : Around} {d : PyData} (hu : A.units + 64 < cLine) : A.units + min d.depth (PyData.list []).depth < cLine := by
  have h : (PyData.list []).depth ≤ 64 := by decide
  have h2 : min d.depth (PyData.list []).depth ≤ (PyData.list []).depth := Nat.min_le_right _ _
  omega
theorem op_neE {X : Cx} (hu : X.A.units + 64 < cLine) : OpR X (compareOp .NotEq) (rNeE X.K) := by
  intro pins s σ H x y v u Q I rx ry h
  obtain ⟨ds, hd, he, sd, q⟩ := h
  obtain ⟨as, r1⟩ := Dp.reads I (.list ds) x v hd rx
  obtain ⟨bs, r2⟩ := Dp.reads I (.list []) y u he ry
  exact SeqAt.compareNe_reads r1 r2 (by simpa [PyData.canLay0] using sd) (by simp [PyData.canLay0, PyData.canLayAll0]) (room_empty hu) ⟨.bl _, H, I, rfl, by rw [eqv_empty]; exact q⟩
theorem op_eqE {X : Cx} (hu : X.A.units + 64 < cLine) : OpR X (compareOp .Eq) (rEqE X.K) := by
  intro pins s σ H x y v u Q I rx ry h
  obtain ⟨ds, hd, he, sd, q⟩ := h
  obtain ⟨as, r1⟩ := Dp.reads I (.list ds) x v hd rx
  obtain ⟨bs, r2⟩ := Dp.reads I (.list []) y u he ry
  exact SeqAt.compareEq_reads r1 r2 (by simpa [PyData.canLay0] using sd) (by simp [PyData.canLay0, PyData.canLayAll0]) (room_empty hu) ⟨.bl _, H, I, rfl, by rw [eqv_empty]; exact q⟩
section
variable {K : PySem.W.Frag} {σ : L2.St} {F : Addr → Prop} {H : Hp} {te ta tb : TE} {ds : List PyData}
theorem ed_neE (ha : ED K ta σ F H (.list ds)) (hb : ED K tb σ F H (.list [])) (hl : PyData.canLayAll0 ds = true) : ED K (tOp (rNeE K) ta tb) σ F H (.bool (!ds.isEmpty)) :=
  ed_op ha hb fun F a b H1 hx hy Q q => ⟨ds, df_dp hx, df_dp hy, hl, q _ _ (Same.refl _) (.bl _)⟩
theorem ed_eqE (ha : ED K ta σ F H (.list ds)) (hb : ED K tb σ F H (.list [])) (hl : PyData.canLayAll0 ds = true) : ED K (tOp (rEqE K) ta tb) σ F H (.bool ds.isEmpty) :=
  ed_op ha hb fun F a b H1 hx hy Q q => ⟨ds, df_dp hx, df_dp hy, hl, q _ _ (Same.refl _) (.bl _)⟩
theorem ed_emp : ED K (tLst tNil) σ F H (.list []) := ed_lst ea_nil (by decide)
/-- a comprehension of two clauses over data: the list made -/
theorem lc2_run {wi wi1 : TI} {g g1 : TG} {tt tt1 : TT} {vs vs1 : List Nat} {es : PyData → List PyData} {m : PyData → PyData} (hi : EI K wi σ F H ds) (hl : (ds.flatMap es).length ≤ 50000)
    (ht : ∀ F2 H1, Ext F H F2 H1 → ∀ v d, d ∈ ds → Df K F2 H1 v d → ∃ σ2, (∀ Q : L2.St → Hp → Prop, Q σ2 H1 → g v (wipe σ vs) H1 Q) ∧ wipe σ2 vs = wipe σ vs ∧ ET tt σ2 H1 true ∧ EI K wi1 σ2 F2 H1 (es d) ∧
      ∀ F3 H2, Ext F2 H1 F3 H2 → ∀ v2 d2, d2 ∈ es d → Df K F3 H2 v2 d2 → ∃ σ3, (∀ Q : L2.St → Hp → Prop, Q σ3 H2 → g1 v2 (wipe σ2 vs1) H2 Q) ∧ wipe σ3 vs1 = wipe σ2 vs1 ∧ ET tt1 σ3 H2 true ∧ ED K te σ3 F3 H2 (m d2)) :
    ∀ H1, Same H H1 → ∀ Q : VK, (∀ D ys H', Same H1 H' → H1 D = none → H' D = some (.lst ys) → DfAll K (fun a => Fr F H1 a ∧ a ≠ D) H' ys ((ds.flatMap es).map m) → Q (.ref D) H') → tLc2 wi g tt wi1 g1 tt1 te vs vs1 σ H1 Q := fun H1 s Q q => hi H1 s _ fun J H2 s2 W D hD => by
  have hD1 : H1 D = none := s2.freshA hD
  let F2 : Addr → Prop := fun a => Fr F H1 a ∧ a ≠ D
  have nF : ¬ F2 D := fun z => z.2 rfl
  refine ⟨fun i k H' => k = ds.length - i ∧ i ≤ ds.length ∧ Same H2 H' ∧ ∃ ys, H' D = some (.lst ys) ∧ DfAll K F2 H' ys (((ds.take i).flatMap es).map m), ⟨ds.length, by simp, Nat.zero_le _, Same.newA hD, [], upd_same, by simp; exact .nil⟩, ?_⟩
  rintro i k H' ⟨rfl, hi, s3, ys, e, r⟩
  by_cases lt : i < ds.length
  · refine .inr ⟨W.go i H' s3.F lt, fun H5 => Same H2 H5 ∧ ∃ ys, H5 D = some (.lst ys) ∧ DfAll K F2 H5 ys (((ds.take (i + 1)).flatMap es).map m), fun H5 ⟨a, b⟩ => ⟨ds.length - (i + 1), by omega, rfl, lt, a, b⟩, fun x H3 y => ?_⟩
    obtain ⟨d, hd, s4, hx⟩ := W.yld i H' x H3 lt s3.F y
    have hx2 : Df K F2 H3 x d := df_mono (Same.refl _) (fun a z => ⟨z.1, fun q => z.2 (q ▸ hD)⟩) hx
    obtain ⟨σ2, hg, hw, htt, hin, hte⟩ := ht F2 H3 ⟨(((s.trans s2).trans s3).trans s4).F, fun a z n => ⟨.inl z, fun q => n (s.freshA (q ▸ hD1))⟩⟩ x d (List.mem_of_getElem? hd) hx2
    have tk : ds.take (i + 1) = ds.take i ++ [d] := by rw [List.take_succ, hd]; rfl
    have tkf : (ds.take (i + 1)).flatMap es = (ds.take i).flatMap es ++ es d := by rw [tk, List.flatMap_append]; simp
    have bnd : ((ds.take i).flatMap es ++ es d).length ≤ 50000 := by
      rw [← tkf]
      refine Nat.le_trans ?_ hl
      conv => rhs; rw [← List.take_append_drop (i + 1) ds, List.flatMap_append, List.length_append]
      exact Nat.le_add_right _ _
    refine hg _ ⟨hw, htt H3 (Same.refl _) _ fun H4 s5 => ?_⟩
    have e4 : H4 D = some (.lst ys) := s5 _ _ (s4 _ _ e)
    refine hin H4 s5 _ fun J1 H6 s6 W1 => ?_
    have e6 := s6 _ _ e4
    have s36 := (s4.trans s5).trans s6
    have nF4 : ¬ Fr F2 H4 D := fun z => z.elim nF (fun z => by rw [e4] at z; cases z)
    have to2 : ∀ a, Fr F2 H4 a → F2 a := fun a z => z.elim id fun z => ⟨.inr (s2.freshA (s3.freshA ((s4.trans s5).freshA z))), fun q => by rw [q, e4] at z; cases z⟩
    refine ⟨fun j k H' => k = (es d).length - j ∧ j ≤ (es d).length ∧ Same H2 H' ∧ SameF (Fr F2 H4) H6 H' ∧ ∃ ys, H' D = some (.lst ys) ∧ DfAll K F2 H' ys (((ds.take i).flatMap es ++ (es d).take j).map m), ⟨(es d).length, by simp, Nat.zero_le _, s3.trans s36, SameF.refl, ys, e6, by simp only [List.take_zero, List.append_nil]; exact dfs_mono s36 (fun _ z => z) r⟩, ?_⟩
    rintro j k H' ⟨rfl, hj, t3, tF, zs, ez, rz⟩
    by_cases lj : j < (es d).length
    · refine .inr ⟨W1.go j H' tF lj, fun H5 => Same H2 H5 ∧ SameF (Fr F2 H4) H6 H5 ∧ ∃ ys, H5 D = some (.lst ys) ∧ DfAll K F2 H5 ys (((ds.take i).flatMap es ++ (es d).take (j + 1)).map m), fun H5 ⟨a, b, c⟩ => ⟨(es d).length - (j + 1), by omega, rfl, lj, a, b, c⟩, fun x2 H7 y2 => ?_⟩
      obtain ⟨d2, hd2, t4, hx3⟩ := W1.yld j H' x2 H7 lj tF y2
      have hx4 : Df K F2 H7 x2 d2 := df_mono (Same.refl _) (fun a z => to2 a z.1) hx3
      have F37 : SameF F2 H3 H7 := ((s5.trans s6).F.trans (tF.sub fun a z => .inl z)).trans t4.F
      obtain ⟨σ3, hg3, hw3, htt3, hte3⟩ := hte F2 H7 ⟨F37, fun a z _ => z⟩ x2 d2 (List.mem_of_getElem? hd2) hx4
      have tk2 : (es d).take (j + 1) = (es d).take j ++ [d2] := by rw [List.take_succ, hd2]; rfl
      refine hg3 _ ⟨hw3, htt3 H7 (Same.refl _) _ fun H8 t5 => ?_⟩
      refine hte3 H8 t5 _ fun v H9 t6 hv => ?_
      have t46 := (t4.trans t5).trans t6
      have e9 : H9 D = some (.lst zs) := t46 _ _ ez
      have r9 : DfAll K F2 H9 zs (((ds.take i).flatMap es ++ (es d).take j).map m) := dfs_mono t46 (fun _ z => z) rz
      have v9 : Df K F2 H9 v (m d2) := df_mono (Same.refl _) (fun a z => by
        rcases z with z | z
        · exact z
        · exact ⟨.inr (s2.freshA (t3.freshA ((t4.trans t5).freshA z))), fun q => by
            have := (t4.trans t5) _ _ ez
            rw [q, this] at z; cases z⟩) hv
      have len9 := dfs_len r9
      rw [List.length_map, List.length_append, List.length_take] at len9
      rw [List.length_append] at bnd
      refine ⟨zs, e9, lt5 (by omega), fun a u h => ?_, (tF.trans t46.F).trans (SameF.upd e9 nF4), zs ++ [v], upd_same, ?_⟩
      · rw [upd_ne (ne_of_none h hD)]; exact t46 _ _ (t3 _ _ h)
      · rw [tk2, ← List.append_assoc, List.map_append]
        exact dfs_app (dfs_upd e9 nF r9) (.cons (df_upd e9 nF v9) .nil)
    · have : j = (es d).length := by omega
      subst this
      refine .inl ⟨W1.stop H' tF, t3, zs, ez, ?_⟩
      rw [tkf]; rw [List.take_length] at rz; exact rz
  · have : i = ds.length := by omega
    subst this
    refine .inl ⟨W.stop H' s3.F, q D ys H' (s2.trans s3) hD1 e ?_⟩
    rw [List.take_length] at r; exact r
end
end Ag

set_option Elab.async false
set_option linter.all false
set_option maxRecDepth 100000
set_option maxHeartbeats 1000000
/-! A text times an int; data that is good, made without naming it. -/
namespace Ag
open PySem PySem.Spec PyProof.Rows L2
def rRepS : R2 := fun x y H Q => ∃ (z : Str) (n : Nat), x = .str z ∧ y = .int (n : Int) ∧ z.length ≤ 1000 ∧ n ≤ 1000 ∧ Q (.str (Txt.mul z n)) H
theorem op_repS {X : Cx} : OpR X (binaryOp .Mult) rRepS := by
  intro pins s σ H x y v u Q I rx ry h
  obtain ⟨z, n, rfl, rfl, h1, h2, q⟩ := h
  obtain ⟨t, rfl⟩ := rx
  obtain ⟨t', rfl⟩ := ry
  exact SB.mul (mulOk_of 1000 1000 h1 (by omega) (by omega) (by decide) (by decide)) fun t' k => ⟨.str _, H, I.tok _, ⟨_, rfl⟩, q⟩
end Ag

set_option Elab.async false
set_option linter.all false
set_option maxRecDepth 100000
set_option maxHeartbeats 1000000
/-! sorted(list of alike data) over the layer: texts, ints, tuples of such. -/
namespace Ag
open PySem PySem.Spec PyProof.Rows L2
open PySem.W (EachIs AllAlike Sortable dataKind sortLe dataLt keyToks)
/-- a is not behind b -/
def leD (a b : PyData) : Bool := !dataLt b a
theorem each_of {h : Heap} : ∀ {xs : List V} {us : List Value} {ds : List PyData} {as : List Addr}, Vals xs us → ReadsAll h us ds as → EachIs (fun (u : Value) (b : V × PyData) => RelV b.1 u ∧ (∃ as, Reads h u b.2 as) ∧ b.2 ∈ ds) us (xs.zip ds)
  | [], _, _, _, .nil, .nil => .nil
  | x :: xs, u :: us, _, _, .cons r t, .cons (d := d) (ds := ds) h1 h2 => by
    rw [List.zip_cons_cons]
    refine .cons ⟨r, ⟨_, h1⟩, List.mem_cons_self⟩ (EachIs.mono (fun u b z => ⟨z.1, z.2.1, List.mem_cons_of_mem _ z.2.2⟩) (each_of t h2))
theorem vals_each {us : List Value} {zs : List (V × PyData)} (h : EachIs (fun (u : Value) (b : V × PyData) => RelV b.1 u) us zs) : Vals (zs.map Prod.fst) us := by
  induction h with
  | nil => exact .nil
  | cons a _ ih => exact .cons a ih
theorem each_reads {h : Heap} : ∀ {us : List Value} {ds : List PyData} {as : List Addr}, ReadsAll h us ds as → EachIs (fun v d => ∃ as, Reads h v d as) us ds
  | [], _, _, .nil => .nil
  | _ :: _, _, _, .cons a r => .cons ⟨_, a⟩ (each_reads r)
/-- sorted(xs): the data in their order, equal ones as they stood; zs: the items beside their data -/
def rSortD (K : PySem.W.Frag) : List V → Hp → VK → Prop := fun vs H Q => ∃ (a : Addr) (xs : List V) (ds : List PyData), vs = [V.ref a] ∧ SqL K H a xs ∧ DpAll K H xs ds ∧ AllAlike ds ∧ Sortable ds ∧ (∀ d ∈ ds, d.depth ≤ 50) ∧
  ∀ (zs : List (V × PyData)) p, zs.Perm (xs.zip ds) → zs.map Prod.snd = ds.mergeSort leD → H p = none → Q (.ref p) (upd H p (.lst (zs.map Prod.fst)))
theorem cr_sortD {X : Cx} (hu : X.A.units + 64 < cLine) : CallR X (.builtin "sorted") (rSortD X.K) := by
  intro pins s σ H vs us Q I r h
  obtain ⟨a, xs, ds, rfl, hs, hd, al, so, dp, q⟩ := h
  obtain ⟨its, rv, hl, hz⟩ := I.list hs
  rw [Vals.ref1 r]
  obtain ⟨as, hr⟩ := Dp.readsAll I ds xs its hd rv
  have len : its.length = ds.length := by rw [← rv.length, dps_len hd]
  have hr2 : ReadsAll (PySem.W.sortingHeap (PySem.W.copyHeap s.heap its) (s.heap.objs.size + 1) its) its ds as := PyProof.Rows.ReadsAll.keeps (fun b o e => PySem.W.sorting_copy_old e) hr
  refine PySem.W.sorted_vals (κ := dataKind (PySem.W.sortingHeap (PySem.W.copyHeap s.heap its) (s.heap.objs.size + 1) its) ds) hl.isList (PySem.W.SortsAt.data (each_reads hr2) al so fun d hd => ?_) (by rw [← rv.length]; exact hz) ?_
  · have := dp d hd
    show X.A.units + 1 + 1 + d.depth < cLine
    omega
  · have e1 := each_of rv hr2
    have hk : EachIs (fun (v : Value) (b : V × PyData) => (dataKind (PySem.W.sortingHeap (PySem.W.copyHeap s.heap its) (s.heap.objs.size + 1) its) ds).keyOf v = some (keyToks b.2)) its (xs.zip ds) :=
      EachIs.mono (fun u b z => by
        obtain ⟨_, ⟨as, h2⟩, h3⟩ := z
        exact PySem.W.dataKind_some al h3 h2) e1
    have e2 : EachIs (fun (u : Value) (b : V × PyData) => RelV b.1 u) its (xs.zip ds) := EachIs.mono (fun u b z => z.1) e1
    have e3 := PySem.W.sortVals_each (κ := dataKind (PySem.W.sortingHeap (PySem.W.copyHeap s.heap its) (s.heap.objs.size + 1) its) ds) (rev := false) (ks := its) (fun b : V × PyData => keyToks b.2) e2 hk
    have hn : H (s.heap.objs.size + 1) = none := I.hok.fresh (Nat.le_succ _)
    have hv := vals_each e3
    have pm : ((xs.zip ds).mergeSort (sortLe (dataKind (PySem.W.sortingHeap (PySem.W.copyHeap s.heap its) (s.heap.objs.size + 1) its) ds).toKeyOrd false fun b : V × PyData => keyToks b.2)).Perm (xs.zip ds) := List.mergeSort_perm _ _
    obtain ⟨n, hat⟩ := sortedAll_at s.heap its (PySem.W.sortVals (dataKind (PySem.W.sortingHeap (PySem.W.copyHeap s.heap its) (s.heap.objs.size + 1) its) ds) false its its).toArray
    refine ⟨.ref (s.heap.objs.size + 1), upd H (s.heap.objs.size + 1) (.lst (((xs.zip ds).mergeSort (sortLe (dataKind (PySem.W.sortingHeap (PySem.W.copyHeap s.heap its) (s.heap.objs.size + 1) its) ds).toKeyOrd false fun b : V × PyData => keyToks b.2)).map Prod.fst)),
      I.laid (t' := s.toks) (fun b o e => sortedAll_old e) (Nat.le_succ _) ⟨?_, _, n, hv, hat⟩, rfl, q _ _ pm ?_ hn⟩
    · rw [List.length_map, pm.length_eq, List.length_zip]
      have := dps_len hd
      have := rv.length
      omega
    · exact (PySem.W.sort_maps (s := leD) Prod.snd fun p _ q _ => rfl).trans (by rw [List.map_snd_zip (by have := dps_len hd; omega)])
end Ag

set_option Elab.async false
set_option linter.all false
set_option maxRecDepth 100000
set_option maxHeartbeats 1000000
/-! Texts split and joined, as data. -/
namespace Ag
open PySem PySem.Spec PyProof.Rows L2
section
variable {K : PySem.W.Frag} {σ : L2.St} {F : Addr → Prop} {H : Hp} {to te : TE} {a b : Str}
theorem ed_split (ho : ED K to σ F H (.str a)) (he : ED K te σ F H (.str b)) (hb : (b.length == 0) = false) (ha : a.length ≤ 100000) :
    ED K (tM1 (fun x xs H Q => ∃ a b, x = .str a ∧ xs = [.str b] ∧ (b.length == 0) = false ∧ a.length + 2 ≤ sizeLine ∧ rNewStrs (Txt.split a b) H Q) to te) σ F H (.list ((Txt.split a b).map .str)) := fun H1 s Q q =>
  ho H1 s _ fun v H2 s2 hv => by
    cases hv
    refine ⟨⟨a, rfl⟩, he H2 (s.trans s2) _ fun u H3 s3 hu => ?_⟩
    cases hu
    refine ⟨a, b, rfl, rfl, hb, Nat.le_trans (Nat.add_le_add_right ha 2) (by decide), fun p hp => ?_⟩
    have s23 := s2.trans s3
    exact q _ _ (s23.trans (Same.newA hp)) (.lst (.inl ⟨.inl upd_same, .inr (s23.freshA hp)⟩) (dfs_strs _))
theorem ed_join {ys : List Str} {e : PyData} (ho : ED K to σ F H (.str a)) (he : ED K te σ F H e) (h : e = .list (ys.map .str) ∨ e = .tuple (ys.map .str)) (hl : (ys.map (·.length)).sum + ys.length * a.length ≤ 16777216) :
    ED K (tM1 (fun x xs H Q => ∃ a p, ∃ ys : List Str, x = .str a ∧ xs = [.ref p] ∧ (SqL K H p (ys.map V.str) ∨ SqT K H p (ys.map V.str)) ∧ (ys.map (·.length)).sum + ys.length * a.length ≤ 16777216 ∧ Q (.str (Txt.join a ys)) H) to te) σ F H (.str (Txt.join a ys)) := fun H1 s Q q =>
  ho H1 s _ fun v H2 s2 hv => by
    cases hv
    refine ⟨⟨a, rfl⟩, he H2 (s.trans s2) _ fun u H3 s3 hu => ?_⟩
    have hq : ∃ p, u = .ref p ∧ (SqL K H3 p (ys.map V.str) ∨ SqT K H3 p (ys.map V.str)) := by
      rcases h with rfl | rfl
      · cases hu with
        | lst h r => rw [strs_dps (dfs_dps r)] at h; exact ⟨_, rfl, .inl (h.imp (fun z => z.1) id)⟩
      · cases hu with
        | tup h r => rw [strs_dps (dfs_dps r)] at h; exact ⟨_, rfl, .inr h⟩
    obtain ⟨p, rfl, hs⟩ := hq
    exact ⟨a, p, ys, rfl, rfl, hs, hl, q _ _ (s2.trans s3) (.str _)⟩
end
end Ag

set_option Elab.async false
set_option linter.all false
set_option maxRecDepth 100000
set_option maxHeartbeats 1000000
/-! repr of data, where nothing is being shown. -/
namespace Ag
open PySem PySem.Spec PyProof.Rows L2
/-- data, or an empty dict -/
def Dx (K : PySem.W.Frag) (H : Hp) (v : V) (d : PyData) : Prop := Dp K H v d ∨ (d = .dict [] ∧ ∃ a, v = .ref a ∧ H a = some (.dK []))
theorem Dx.mono {K : PySem.W.Frag} {H H' : Hp} {v : V} {d : PyData} (e : Same H H') (h : Dx K H v d) : Dx K H' v d := h.imp (dp_mono e) fun ⟨a, b, c, q⟩ => ⟨a, b, c, e _ _ q⟩
theorem Dx.dp {K : PySem.W.Frag} {H : Hp} {v : V} {d : PyData} (h : Dp K H v d) : Dx K H v d := .inl h
theorem Dx.reads {X : Cx} {pins : List (Addr × Obj)} {σ : L2.St} {H : Hp} {s : Shared} (I : Inv X pins σ H s) {d : PyData} {v : V} {u : Value} (h : Dx X.K H v d) (r : RelV v u) : ∃ as, Reads s.heap u d as ∧ (d.hasDict = true → sysModules ∉ as) := by
  rcases h with h | ⟨rfl, a, rfl, h⟩
  · obtain ⟨as, q⟩ := Dp.reads I d v u h r
    refine ⟨as, q, fun z => ?_⟩
    have nd : d.hasDict = false := by
      have key : ∀ (d : PyData) (v : V), Dp X.K H v d → d.hasDict = false := by
        intro d v h
        exact Dp.rec (motive_1 := fun _ d _ => d.hasDict = false) (motive_2 := fun _ ds _ => PyData.hasDictAll ds = false) (by simp [PyData.hasDict]) (fun _ => by simp [PyData.hasDict]) (fun _ => by simp [PyData.hasDict]) (fun _ => by simp [PyData.hasDict])
          (fun _ _ ih => by simp only [PyData.hasDict]; exact ih) (fun _ _ ih => by simp only [PyData.hasDict]; exact ih) (by simp [PyData.hasDictAll]) (fun _ _ i1 i2 => by simp only [PyData.hasDictAll]; rw [i1, i2]; rfl) h
      exact key d v h
    rw [nd] at z; cases z
  · cases r
    obtain ⟨_, ns, vs, kv, o, es, ep, e1, ⟨c1, _⟩, e3, e4, e5, _⟩ := I.hok a _ h
    cases kv
    have ez : es.toList = [] := by
      cases q : es.toList with
      | nil => rfl
      | cons x r => rw [q] at e5; cases e5
    refine ⟨_, .dict e1 c1 e3 (by rw [ez]; exact .nil) (by rw [ez]; exact .nil), fun _ m => ?_⟩
    have m : sysModules = a := by simpa using m
    rw [m] at ns; simp at ns
def rRepr (K : PySem.W.Frag) : List V → Hp → VK → Prop := fun vs H Q => ∃ x d, vs = [x] ∧ Dx K H x d ∧ d.showable = true ∧ d.depth ≤ 50 ∧ d.shown.length ≤ sizeLine ∧ Q (.str d.shown) H
theorem cr_repr {X : Cx} (hg : X.A.guards = some []) (hu : X.A.units + 64 < cLine) : CallR X (.builtin "repr") (rRepr X.K) := by
  intro pins s σ H vs us Q I r h
  obtain ⟨x, d, rfl, hd, sh, dp, sz, q⟩ := h
  obtain ⟨u, rfl, ru⟩ := r.one
  obtain ⟨as, hr, hsm⟩ := Dx.reads I hd ru
  cases hr with
  | none => exact PySem.P.repr_of_none ⟨.str _, H, I.tok _, ⟨_, rfl⟩, q⟩
  | bool b => exact PySem.P.repr_of_bool ⟨.str _, H, I.tok _, ⟨_, rfl⟩, q⟩
  | int i t => exact PySem.P.repr_of_int (by simpa [PyData.showable] using sh) ⟨.str _, H, I.tok _, ⟨_, rfl⟩, q⟩
  | str x t => exact PySem.P.repr_of_str ⟨.str _, H, I.tok _, ⟨_, rfl⟩, q⟩ sz
  | list h1 h2 h3 h4 => exact PySem.repr_of_reads' (.list h1 h2 h3 h4) sh hsm hg (by omega) (fun _ _ e => e) (fun h' u tk hk => ⟨.str _, H, I.kept hk, ⟨_, rfl⟩, q⟩) sz
  | tuple h1 h2 h3 h4 => exact PySem.repr_of_reads' (.tuple h1 h2 h3 h4) sh hsm hg (by omega) (fun _ _ e => e) (fun h' u tk hk => ⟨.str _, H, I.kept hk, ⟨_, rfl⟩, q⟩) sz
  | dict h1 h2 h3 h4 h5 => exact PySem.repr_of_reads' (.dict h1 h2 h3 h4 h5) sh hsm hg (by omega) (fun _ _ e => e) (fun h' u tk hk => ⟨.str _, H, I.kept hk, ⟨_, rfl⟩, q⟩) sz
theorem ed_repr {K : PySem.W.Frag} {σ : L2.St} {F : Addr → Prop} {H : Hp} {ta : TE} {d : PyData} (ha : ED K ta σ F H d) (h1 : d.showable = true) (h2 : d.depth ≤ 50) (h3 : d.shown.length ≤ sizeLine) : ED K (tCB (rRepr K) (tCons ta tNil)) σ F H (.str d.shown) :=
  ed_cb (ea_cons ha ea_nil) fun F vs H1 hv Q q => by
    cases hv with
    | cons a r => cases r; exact ⟨_, d, rfl, .inl (df_dp a), h1, h2, h3, q _ _ (Same.refl _) (.str _)⟩
end Ag

set_option Elab.async false
set_option linter.all false
set_option maxRecDepth 100000
set_option maxHeartbeats 2000000
/-! A lambda of one parameter, handed to a method that calls it with the word it looks at. -/
namespace Ag
open PySem PySem.Spec PyProof.Rows L2 LamX
/-- the names of such a lambda: its parameter, captured ones, globals -/
structure LamP (sc lam : Scope) (pr : Str) : Prop where
  isFn : lam.kind = .function
  noCo : lam.isCoroutine = false
  noGen : lam.isGenerator = false
  par : lam.names.lookup pr = some .local
  noCell : ∀ y ∈ lam.names, y.2 ≠ .cell
  sole : ∀ y ∈ lam.names, y.2 = .local → y.1 = pr
  caught : ∀ y ∈ lam.names, y.2 = .free → sc.names.lookup y.1 = some .cell ∨ sc.names.lookup y.1 = some .free
def lamPB (sc lam : Scope) (pr : Str) : Bool :=
  (decide (lam.kind = .function) && (!lam.isCoroutine && !lam.isGenerator)) && (decide (lam.names.lookup pr = some .local) && lam.names.all fun y =>
    !decide (y.2 = .cell) && ((!decide (y.2 = .local) || decide (y.1 = pr)) && (!decide (y.2 = .free) || (decide (sc.names.lookup y.1 = some .cell) || decide (sc.names.lookup y.1 = some .free)))))
theorem lamP_by {sc lam : Scope} {pr : Str} (h : lamPB sc lam pr = true) : LamP sc lam pr := by
  unfold lamPB at h
  rw [Bool.and_eq_true, Bool.and_eq_true, Bool.and_eq_true, Bool.and_eq_true, List.all_eq_true] at h
  obtain ⟨⟨k1, k2, k3⟩, k4, k5⟩ := h
  have key : ∀ y ∈ lam.names, y.2 ≠ .cell ∧ (y.2 = .local → y.1 = pr) ∧ (y.2 = .free → sc.names.lookup y.1 = some .cell ∨ sc.names.lookup y.1 = some .free) := fun y hy => by
    have q := k5 y hy
    simp only [Bool.and_eq_true, Bool.or_eq_true, Bool.not_eq_true', decide_eq_true_eq, decide_eq_false_iff_not] at q
    exact ⟨q.1, fun e => q.2.1.resolve_left (fun z => z e), fun e => q.2.2.resolve_left (fun z => z e)⟩
  exact ⟨of_decide_eq_true k1, by simpa using k2, by simpa using k3, of_decide_eq_true k4, fun y hy => (key y hy).1, fun y hy => (key y hy).2.1, fun y hy => (key y hy).2.2⟩
theorem LamP.cells {X : Cx} {lam : Scope} {pr : Str} (L : LamP X.env.scope lam pr) (ok : X.Ok) : ∀ y ∈ lam.names, y.2 = .free → ∃ c, X.env.cells.lookup y.1 = some c :=
  fun y hy e => (L.caught y hy e).elim (fun k => ok.has _ (.inl k)) (fun k => ok.has _ (.inr k))
/-- the surroundings of the lambda's body: those of a lambda without a parameter, and one name more -/
def lamCxP (X : Cx) (A : Around) (outer : List Env) (s : Shared) (H : Hp) (lam : Scope) (f c' : Addr) (pr : Str) : Cx := { lamCx X A outer s H C8.E0 lam f c' with N := X.N ++ [pr] }
section
variable {X : Cx} {pins : List (Addr × Obj)} {σ : L2.St} {H HZ : Hp} {s s1 : Shared} {lam : Scope} {pr : Str}
theorem lam_caught (L : LamP X.env.scope lam pr) (ok : X.Ok) {y : Str} {c : Addr} (e : (cloFrom X.env.cells lam.names []).lookup y = some c) : X.env.cells.lookup y = some c := by
  rcases cloFrom_mem (PySem.mem_of_lookup e) with z | ⟨z, q⟩
  · exact (List.not_mem_nil z).elim
  · obtain ⟨c1, hc⟩ := L.cells ok _ z rfl
    have hc : X.env.cells.lookup y = some c1 := hc
    rw [q, hc]; rfl
theorem lam_has {y : Str} (h : lam.names.lookup y = some .free) : ∃ c, (cloFrom X.env.cells lam.names []).lookup y = some c :=
  mem_lookup (cloFrom_has (cells := X.env.cells) (acc := []) (PySem.mem_of_lookup h : (y, NameKind.free) ∈ lam.names))
theorem lam_enter {A : Around} {outer : List Env} {f c' : Addr} {g : Heap} {tk : Nat} {v : V} {u : Value} (I : Inv X pins σ H s) (L : LamP X.env.scope lam pr) (np : pr ∉ X.N) (e0 : Env0 X.prog X.w X.K X.mg X.base A outer s1 HZ)
    (hd : A.handled = none) (un : Un (frs X.stack) [] H HZ s.heap s1.heap) (rv : RelV v u) (hns : g.Ns s1.heap.objs.size fun y => ([(pr, u)] : List (Str × Value)).reverse.lookup y) (kp : ∀ b o, s1.heap.get? b = some o → g.get? b = some o) :
    Inv (lamCxP X A outer s1 HZ lam f c' pr) [] (σ ++ [some v]) HZ { s1 with heap := g, toks := tk } := by
  have back := fun {y : Str} {c : Addr} => lam_caught (y := y) (c := c) L I.ok
  have stays : ∀ {c : Addr} {o : Option Value}, H c = none → s.heap.IsCell c o → g.IsCell c o := fun n ⟨ob, h1, h2⟩ => by
    obtain ⟨sl, q⟩ := un.any h1 n (List.not_mem_nil)
    exact ⟨_, kp _ _ q, h2⟩
  have okP : (lamCxP X A outer s1 HZ lam f c' pr).Ok :=
    { mod := e0.mod, kind := L.isFn, glob := rfl, blt := rfl, above := Nat.le_refl _
      inj := fun y z c h1 h2 => I.ok.inj y z c (back h1) (back h2)
      has := fun y hy => hy.elim (fun k => (L.noCell _ (PySem.mem_of_lookup (show lam.names.lookup y = some .cell from k)) rfl).elim) fun k => lam_has (show lam.names.lookup y = some .free from k)
      cab := fun y c z => nomatch (show false = true from z)
      hd := fun _ => hd
      frames := Around.frames_deeper e0.frames
      stk := .inr ⟨rfl, rfl⟩
      exf := fun b z => (List.not_mem_nil (show b ∈ ([] : List Addr) from z)).elim
      bs := e0.bs, bsz := e0.bsz
      noex := fun b _ _ z => List.not_mem_nil (show b ∈ ([] : List Addr) from z)
      exfs := fun b z => (List.not_mem_nil (show b ∈ ([] : List Addr) from z)).elim
      funs := e0.funs, frf := e0.frf }
  refine { ok := okP, os := rfl, bare := e0.bare, base := Un.kept kp, loc := ⟨_, hns, fun i y w h1 h2 h3 => ?_⟩, cell := fun y c e => ?_, free := e0.hok.fresh (Nat.le_refl _), freeC := fun y c e => ?_, pin := fun q hq => (List.not_mem_nil (show q ∈ ([] : List (Addr × Obj)) from hq)).elim, hok := e0.hok.kept kp, len := ?_ }
  · have h1 : (X.N ++ [pr])[i]? = some y := h1
    have h3 : Vis lam y := h3
    have ln := I.len
    by_cases hi : i < X.N.length
    · rw [List.getElem?_append_left hi] at h1
      rw [List.getElem?_append_left (by rw [ln]; exact hi)] at h2
      have ny : y ≠ pr := fun q => np (q ▸ List.mem_of_getElem? h1)
      rcases h3 with k | k | k
      · exact (ny (L.sole _ (PySem.mem_of_lookup k) rfl)).elim
      · exact (L.noCell _ (PySem.mem_of_lookup k) rfl).elim
      · have up := L.caught _ (PySem.mem_of_lookup k) rfl
        obtain ⟨m, _, hl⟩ := I.loc
        obtain ⟨u2, r2, q⟩ := hl i y w h1 h2 (up.elim (fun z => .inr (.inl z)) fun z => .inr (.inr z))
        obtain ⟨c2, e2⟩ := lam_has (X := X) k
        refine ⟨u2, r2, .inr ⟨.inr k, c2, e2, ?_⟩⟩
        rcases q with ⟨z, _⟩ | ⟨_, c3, e3, z⟩
        · have z : X.env.scope.names.lookup y = some .local := z
          rcases up with up | up <;> (have up : X.env.scope.names.lookup y = _ := up; rw [up] at z; cases z)
        · rw [back e2] at e3
          cases e3
          exact stays (I.freeC y _ (back e2)) z
    · have lt := (List.getElem?_eq_some_iff.mp h1).1
      rw [List.length_append] at lt
      have lt : i < X.N.length + 1 := lt
      have ei : i = X.N.length := by omega
      subst ei
      rw [List.getElem?_append_right (Nat.le_refl _), Nat.sub_self] at h1
      rw [List.getElem?_append_right (by rw [ln]; exact Nat.le_refl _), ln, Nat.sub_self] at h2
      cases h1; cases h2
      exact ⟨u, rv, .inl ⟨L.par, by simp⟩⟩
  · obtain ⟨o, z⟩ := I.cell y c (back e)
    exact ⟨o, stays (I.freeC y c (back e)) z⟩
  · obtain ⟨o, ob, h1, _⟩ := I.cell y c (back e)
    exact un.free c ob h1 (I.freeC y c (back e)) List.not_mem_nil
  · show (σ ++ [some v]).length = (X.N ++ [pr]).length
    rw [List.length_append, List.length_append, I.len]; rfl
/-- a(y) in the method that got the lambda -/
theorem pe_act1 {Eg : XK} {Ng : List Str} {qg : Str} {sg : Scope} {g f c' : Addr} {cdg pm ctv : Value} {params : Arguments} {body : Expr} {k i j : Nat} {a y : Str} {tb : TE} {p1 p2 p3 : Pos} (I : Inv X pins σ H s) (L : LamP X.env.scope lam pr) (np : pr ∉ X.N)
    (hf : s.heap.get? f = some (PySem.W.kla_obj "<lambda>" (X.env.qual ++ "<lambda>") params body lam (cloFrom X.env.cells lam.names []) pm c' ctv)) (hfn : H f = none) (hfr : f ∉ frs X.stack)
    (hbind : ∀ u : Value, bindArgs (PySem.W.kla_fn "<lambda>" (X.env.qual ++ "<lambda>") params body lam (cloFrom X.env.cells lam.names []) pm (.ref c') ctv) ⟨[u], []⟩ = pure [(pr, u)])
    (hr : Room (k + 1) (X.A.deeper (envOfC qg sg s.heap.objs.size g cdg)))
    (hbody : ∀ (A : Around) (outer : List Env) (s : Shared) (H : Hp), Room k (A.deeper (lamEnv X lam s.heap.objs.size f c')) → PE (lamCxP X A outer s H lam f c' pr) body tb)
    (hN : Ng[i]? = some a) (hv : Vis sg a) (d1 : (a == ("__debug__" : Str)) = false) (d2 : (a == ("__classdict__" : Str)) = false) (hNy : Ng[j]? = some y) (hvy : Vis sg y) (d3 : (y == ("__debug__" : Str)) = false) (d4 : (y == ("__classdict__" : Str)) = false) :
    PE (cxOf (L2.CX X.prog X.w) X.prog X.w X.K X.mg X.base Ng qg sg g cdg X.A X.stack s H Eg) (.Call (.Name a p1) [.Name y p3] [] p2)
      (fun σZ HZ Q => σZ[i]? = some (some (.ref f)) ∧ ∃ v, σZ[j]? = some (some v) ∧ HZ c' = some (CodeO c' (X.env.qual ++ "<lambda>")) ∧ tb (σ ++ [some v]) HZ Q) := by
  refine ⟨fun pinsZ sZ σZ HZ Q IZ ⟨g1, v, g2, g3, g4⟩ => ?_⟩
  refine wpAny_Call_Name_kw (thn ((pe_var (pos := p1) (i := i) hN hv d1 d2).run pinsZ sZ σZ HZ (fun z H1 => z = .ref f ∧ H1 = HZ) IZ ⟨_, g1, rfl, rfl⟩) fun uf z1 ⟨_, _, I1, r1, e1, e2⟩ => ?_)
  subst e1
  rw [e2] at I1
  obtain rfl : uf = Value.ref f := r1
  have at1 : z1.heap.get? f = some (PySem.W.kla_obj "<lambda>" (X.env.qual ++ "<lambda>") params body lam (cloFrom X.env.cells lam.names []) pm c' ctv) := I1.base.keep f _ hf hfn hfr (List.not_mem_nil)
  refine PySem.W.callWith_F ⟨_, _, _, _, at1⟩ (thn ((pa_cons (pe_var (pos := p3) (i := j) hNy hvy d3 d4) pa_nil).run p2 pinsZ z1 σZ _ (fun zs H1 => zs = [v] ∧ H1 = HZ) I1 ⟨v, g2, rfl, rfl⟩) fun us z2 ⟨_, _, I2, r2, e1, e2⟩ => ?_)
  subst e1
  rw [e2] at I2
  have at2 : z2.heap.get? f = some (PySem.W.kla_obj "<lambda>" (X.env.qual ++ "<lambda>") params body lam (cloFrom X.env.cells lam.names []) pm c' ctv) := I2.base.keep f _ hf hfn hfr (List.not_mem_nil)
  refine ⟨⟨_, _, _, _, at2⟩, ?_⟩
  obtain ⟨u, rfl, rv⟩ : ∃ u, us = [u] ∧ RelV v u := by
    cases r2 with
    | cons a b => cases b; exact ⟨_, rfl, a⟩
  have un : Un (frs X.stack) [] H HZ s.heap z2.heap := I2.base
  obtain ⟨⟨oc, vs, t, hoc, hdc, hvc⟩, _, _⟩ := I2.hok c' _ g3
  have rc : codeAny (model X.prog X.w) (X.A.deeper (envOfC qg sg s.heap.objs.size g cdg)) (.call (.ref f) ⟨[u], []⟩) (CR (L2.CX X.prog X.w) (envOfC qg sg s.heap.objs.size g cdg :: X.stack) X.prog X.w HZ z2 Q C8.E0) z2 := by
    refine PySem.W.kla_callFunE hr.depth at2 rfl L.noCo L.noGen rfl ⟨c', oc, vs, t, rfl, hoc, hdc, hvc⟩ ?_
    rw [hbind]
    refine wpAny_pure (wpAny_newFunctionEnv L.noCell (fun q hq => by rw [List.mem_singleton.mp hq]; exact L.par) (fun h1 hns hsb => ⟨I2.nolimit.fresh _ hsb, ?_⟩) L.isFn)
    have kp : ∀ b o, z2.heap.get? b = some o → h1.get? b = some o := fun b o e => hsb.extBut b o (Nat.ne_of_lt (Heap.lt_size e)) (Heap.get?_push_of_some _ e)
    have J := lam_enter (f := f) (c' := c') (tk := z2.toks + ([(pr, u)] : List (Str × Value)).length) I L np I2.env0 hr.hd un rv hns kp
    refine PySem.W.kla_codeExpr (wpAny_mono ((hbody _ _ z2 HZ (hr.deeper _)).run [] _ _ _ Q J g4) (fun w s' hq => ?_) fun e s' hq => hq)
    obtain ⟨w', H', J', rw', q⟩ := hq
    exact ⟨w', H', J'.os, J'.bare, J'.base, J'.hok, rw', q⟩
  refine wpAny_call (codeAny_mono rc fun r s' hq => ?_)
  cases r with
  | error e =>
    obtain ⟨_, _, _, _, _, _, _, _, _, _, _, _, z⟩ := hq
    exact z.elim
  | ok fl =>
    cases fl with
    | ret u => exact I2.after hq
    | next => exact False.elim hq
    | brk => exact False.elim hq
    | cont => exact False.elim hq
end
/-- the method m(self, a) that calls what it got: TT: what it makes of the lambda's reading -/
def GivesM (X : Cx) (k : Nat) (Ng : List Str) (qual : Str) (sg : Scope) (g : Addr) (cdg : Value) (bg : List Stmt) (a q : Str) (TT : Addr → (V → Hp → VK → Prop) → Hp → VK → XK → Prop) : Prop :=
  ∀ (f c' o : Addr) (s : Shared) (H : Hp) (Q : VK) (E : XK) (tl : V → Hp → VK → Prop),
    (∀ (j : Nat) (y : Str) (p1 p2 p3 : Pos), Ng[j]? = some y → Vis sg y → (y == ("__debug__" : Str)) = false → (y == ("__classdict__" : Str)) = false →
      PE (cxOf (L2.CX X.prog X.w) X.prog X.w X.K X.mg X.base Ng qual sg g cdg X.A X.stack s H E) (.Call (.Name a p1) [.Name y p3] [] p2) (fun σZ HZ Q => σZ[1]? = some (some (.ref f)) ∧ ∃ v, σZ[j]? = some (some v) ∧ HZ c' = some (CodeO c' q) ∧ tl v HZ Q)) →
    Room k (X.A.deeper (envOfC qual sg s.heap.objs.size g cdg)) → H c' = some (CodeO c' q) → TT o tl H Q E →
    ∃ t, PSs (cxOf (L2.CX X.prog X.w) X.prog X.w X.K X.mg X.base Ng qual sg g cdg X.A X.stack s H E) bg t ∧ t { nx := fun _ H' => Q .non H', rt := Q } (L2.start Ng [.ref o, .ref f]) H
def tLamM (Tb : List (Addr × Str)) (C : Addr) (m : Str) (TT : Addr → (V → Hp → VK → Prop) → Hp → VK → XK → Prop) (E : XK) (ta t : TE) : TE := fun σ H Q => ta σ H fun x H1 => ∃ o dx fs, x = .ref o ∧ H1 o = some (.ins C dx fs) ∧ fs.lookup m = none ∧ Tabs Tb H1 ∧
  ∀ H2, ExtN H1 H2 → Tabs Tb H2 → TT o (fun v H' Q' => t (σ ++ [some v]) H' Q') H2 Q E
section
variable {X : Cx}
/-- o.m(lambda pr: body) -/
theorem pe_methlam {Tb : List (Addr × Str)} {TT : Addr → (V → Hp → VK → Prop) → Hp → VK → XK → Prop} {m a se qual pr : Str} {g c Pt C : Addr} {k : Nat} {pg : Arguments} {bg : List Stmt} {sg lam : Scope} {dV kV doc pm cdv ct oc : Value} {an od : Option Addr} {osl : Array (Option Value)} {Ng : List Str}
    {params : Arguments} {body o : Expr} {ta t : TE} {E : XK} {apos lpos pos : Pos} {pl : Sem Bool} (he : PE X o ta) (hc : Cls X.K C) (hm : Meth X.K C m g)
    (lk : X.K.lookup g = some ⟨oc, od, .func (PySem.W.fnOf m qual pg bg sg dV kV doc pm an cdv ct), osl⟩) (hcg : PySem.W.codeIn X.K cdv qual = true) (hb : L2.Binds X.K (PySem.W.fnOf m qual pg bg sg dV kV doc pm an cdv ct) [se, a] []) (Sg : FnScope Ng [se, a] sg)
    (hNa : Ng[1]? = some a) (hva : Vis sg a) (hG : GivesM X (k + 1) Ng qual sg g cdv bg a (X.env.qual ++ "<lambda>") TT) (TB : TabB X.base X.mg c Pt) (hcode : X.env.code = .ref c) (hmT : (Pt, X.env.qual ++ "<lambda>") ∈ Tb) (hu : ∀ p ∈ Tb, p.1 = Pt → p.2 = X.env.qual ++ "<lambda>")
    (hr : Room (k + 2) X.A) (hx : Passes (L2.CX X.prog X.w) X E) (L : LamP X.env.scope lam pr) (np : pr ∉ X.N) (hdef : defaultsOf params X.env = ([], []))
    (hbind : ∀ (q : Str) (cl : List (Str × Addr)) (pm cv ctv u : Value), bindArgs (PySem.W.kla_fn "<lambda>" q params body lam cl pm cv ctv) ⟨[u], []⟩ = pure [(pr, u)])
    (hbody : ∀ (A : Around) (outer : List Env) (s : Shared) (H : Hp) (f c' : Addr), Room k (A.deeper (lamEnv X lam s.heap.objs.size f c')) → PE (lamCxP X A outer s H lam f c' pr) body t)
    (d1 : (a == ("__debug__" : Str)) = false := by decide) (d2 : (a == ("__classdict__" : Str)) = false := by decide)
    (ht : eval (.Call (.Attribute o m apos) [.Lambda params body lam lpos] [] pos) X.env = (do
      let ov ← eval o X.env
      standAt apos.atName
      let (f, first) ← holding [ov] (getMethod ov m pl)
      callWith pos f first (backTo pos (starEach [.Lambda params body lam lpos] X.env)) (backToKw pos (keywordEach [] X.env))) := by rfl) :
    PE X (.Call (.Attribute o m apos) [.Lambda params body lam lpos] [] pos) (tLamM Tb C m TT E ta t) := by
  refine ⟨fun pins s σ H Q I h => PySem.W.methodCall_KW (pl := pl) (thn (he.run pins s σ H _ I h) fun uo s1 ⟨x, H1, I1, rx, oa, dx, fs, ex, ea, l, hT, q⟩ => ?_) ht⟩
  subst ex
  obtain rfl : uo = Value.ref oa := rx
  refine getmeth_ok I1 ea hc hm l (PySem.W.callWith_K (first := [.ref oa]) (h₀ := X.base) I.ok.mod.kin hm.kp ?_ (by rfl) (by rfl))
  show wpAny _ _ (spliced ((false, eval (.Lambda params body lam lpos) X.env) :: backTo pos (starEach [] X.env))) _ _ s1
  refine Calls.spliced_cons (lam_make2 I1 TB hcode hmT hu hT hdef (L.cells I1.ok) fun f c' pm' ctv H2 s2 I2 eN T2 hf hfn hfr hco => Calls.spliced_nil ⟨I2.kIn, ?_⟩)
  have rc : codeAny (model X.prog X.w) X.A (.call (.ref g) ⟨[.ref oa, .ref f], []⟩) (CR (L2.CX X.prog X.w) X.stack X.prog X.w H2 s2 Q E) s2 := by
    refine run_ofS (N := Ng) (ps := [se, a]) (us := [.ref oa, .ref f]) (vs := [.ref oa, .ref f]) lk hcg Sg hr I2.env0 (hb s2 [.ref oa, .ref f] I2.kIn rfl) (.cons rfl (.cons rfl .nil)) rfl fun hr' => ?_
    exact hG f c' oa s2 H2 Q E (fun v H' Q' => t (σ ++ [some v]) H' Q') (fun j y p1 p2 p3 hNy hvy d3 d4 => pe_act1 (i := 1) I2 L np hf hfn hfr (hbind _ _ _ _ _) hr' (fun A outer s H hr2 => hbody A outer s H f c' hr2) hNa hva d1 d2 hNy hvy d3 d4) hr' hco (q H2 eN T2)
  refine wpAny_call (codeAny_mono rc fun r s3 hq => ?_)
  cases r with
  | error e => exact hx pins σ H2 s2 e s3 I2 hq
  | ok fl =>
    cases fl with
    | ret u => exact I2.after hq
    | next => exact False.elim hq
    | brk => exact False.elim hq
    | cont => exact False.elim hq
end
/-- o.m(e, ..), m a field of the instance that holds a def of the text -/
def tFldC (C : Addr) (m : Str) (f : Addr) (sp : Sp) (E : XK) (ta : TE) (t : TA) : TE := fun σ H Q => ta σ H fun x H1 => ∃ o dx fs, x = .ref o ∧ H1 o = some (.ins C dx fs) ∧ fs.lookup m = some (.ref f) ∧ t σ H1 fun vs H2 => sp vs H2 Q E
theorem pe_fldcall {X : Cx} {CX : CXT} {C f : Addr} {m : Str} {k : Nat} {fd : FuncData} {ps : List Str} {sp : Sp} {E : XK} {o e : Expr} {es : List Expr} {ta : TE} {t : TA} {apos pos : Pos} {pl : Sem Bool} (he : PE X o ta) (c : Cls X.K C) (n : NoAttr X.K C m) (F : FnOk X.prog X.w X.K X.mg X.base CX k f fd ps sp) (hr : Room k X.A)
    (hk : PySem.W.keepIn X.K (.ref f) = true) (hb : L2.Binds X.K fd ps []) (hx : Passes CX X E) (ha : PA X (e :: es) t) (hst : starEach (e :: es) X.env = (false, eval e X.env) :: starEach es X.env := by rfl) (hpl : (backTo pos (starEach es X.env)).any (·.1) = false := by rfl)
    (ht : eval (.Call (.Attribute o m apos) (e :: es) [] pos) X.env = (do
      let ov ← eval o X.env
      standAt apos.atName
      let (f, first) ← holding [ov] (getMethod ov m pl)
      callWith pos f first (backTo pos (starEach (e :: es) X.env)) (backToKw pos (keywordEach [] X.env))) := by rfl) :
    PE X (.Call (.Attribute o m apos) (e :: es) [] pos) (tFldC C m f sp E ta t) := by
  refine ⟨fun pins s σ H Q I h => PySem.W.methodCall_KW (pl := pl) (thn (he.run pins s σ H _ I h) fun uo s1 ⟨x, H1, I1, rx, oa, dx, fs, ex, ea, l, q⟩ => ?_) ht⟩
  subst ex
  obtain rfl : uo = Value.ref oa := rx
  obtain ⟨mA, O, _⟩ := ins_get I1.hok ea
  obtain ⟨od, J, _⟩ := O.look
  have pg := PySem.W.plainGet_of (c.get m)
  refine PySem.W.method_usual I1.kIn J pg.1 pg.2 n rfl (getattr_ok I1 ea c n l fun u s2 I2 ru => ?_)
  obtain rfl : u = Value.ref f := ru
  refine PySem.W.callWith_K (first := []) (h₀ := X.base) I.ok.mod.kin hk (thn (ha.run pos pins s2 σ H1 _ I2 q) fun us s3 ⟨vs, H2, I3, r, q2⟩ => ⟨I3.kIn, ?_⟩) hst hpl
  exact run_fn (us := us) (vs := vs) F hr hb .nil hx I3 r (by rw [List.append_nil]; exact q2)
/-- a def or method that lets errors out, and whose code object is to be known -/
theorem okXC {P : Program} {w : World} {K : PySem.W.Frag} {mg : Str → Option Value} {base : Heap} {x qual : Str} {st : Stmt} {f : Addr} {fd : FuncData} {N ps : List Str} {k : Nat} {sp : Sp} (F : Fun K x qual st f fd) (S : FnScope N ps (defScope st)) (len : ∀ vs H Q E, sp vs H Q E → vs.length = ps.length)
    (hbody : ∀ (A : Around) (outer : List Env) (s : Shared) (H : Hp) (vs : List V) (Q : VK) (E : XK), Room k (A.deeper (envOfC qual (defScope st) s.heap.objs.size f fd.code)) → sp vs H Q E →
      ∃ t, PSs (cxOf (L2.CX P w) P w K mg base N qual (defScope st) f fd.code A outer s H E) (defBody st) t ∧ t { nx := fun _ H' => Q .non H', rt := Q } (start N vs) H) : FnOk P w K mg base (L2.CX P w) (k + 1) f fd ps sp := by
  obtain ⟨_, _, _, _, _, _, _, _, _, rfl, lk, hcd⟩ := F.ex
  exact fn_of lk hcd S len hbody
end Ag

set_option Elab.async false
set_option linter.all false
set_option maxRecDepth 100000
set_option maxHeartbeats 2000000
set_option pp.maxSteps 400
/-! tuple(d), d a dict that is written in the text with text keys; xs[::-1] of a tuple; data without lists. -/
namespace Ag
open PySem PySem.Spec PyProof.Rows L2
section
variable {prog : Program} {w : World} {A : Around} {E : Value → Shared → Prop} {s : Shared} {T : String} {r d : Addr} {n : Nat} {P : Nat → Value → Prop} {OK : Heap → Prop}
/-- what a source hands out, as a list of values -/
theorem collect_src {Q : List Value → Shared → Prop} (S : PySem.W.KdlSrc prog w T r d n P OK) (hh : A.handled = none) (ok : OK s.heap) (hn : n ≤ sizeLine)
    (hQ : ∀ (h' : Heap) (tk : Nat) (acc : Array Value), (∀ b o, s.heap.get? b = some o → h'.get? b = some o) → s.heap.objs.size < h'.objs.size → ItemsOf P acc n → Q acc.toList { s with heap := h', toks := tk }) : wpAny (model prog w) A (collect (.ref r)) Q E s := by
  have lt := S.there _ ok
  have at0 : (s.heap.push { cls := .type "list", data := .seq ([] : List Value).toArray }).get? s.heap.objs.size = some { cls := .type "list", data := .seq #[] 0 } := Heap.get?_push_size _ rfl
  have okS : OK (s.heap.push { cls := .type "list", data := .seq ([] : List Value).toArray }) := S.keep _ _ ok fun b _ o e => Heap.get?_push_of_some _ e
  unfold collect
  refine wpAny_bind (wpAny_runValue (codeAny_builtin F.entry_proto_collect ?_)); rw [Around.under_plainId F.plain_proto_collect _]
  show wpAny _ A.in1 (newList [] >>= fun z => again (.builtin "list.__iadd__" ⟨[z, .ref r], []⟩)) _ _ s
  refine wpAny_bind (wpAny_newObj_type (wpAny_pure ⟨plainId_quiet F.plain_list_iadd _, codeAny_builtin F.entry_list_iadd ?_⟩)); rw [Around.under_plainId F.plain_list_iadd _]
  show wpAny _ A.in1 (Builtin.List.listExtendWith (.ref s.heap.objs.size) (.ref r) (.ref s.heap.objs.size)) _ _ { s with heap := s.heap.push { cls := .type "list", data := .seq ([] : List Value).toArray } }
  have fin' : ∀ h' tk acc c', (∀ b o, b ≠ s.heap.objs.size → (s.heap.push { cls := .type "list", data := .seq ([] : List Value).toArray }).get? b = some o → h'.get? b = some o) → h'.get? s.heap.objs.size = some { cls := .type "list", dict := none, data := .seq acc c', slots := #[] } → ItemsOf P acc n →
      wpAny (model prog w) A (do
        match (← load s.heap.objs.size).data with
          | Data.seq xs _ => pure xs.toList
          | _ => unsupported "internal:collect") Q E { s with heap := h', toks := tk } := fun h' tk acc c' k1 k2 k3 =>
    wpAny_bind (wpAny_load k2 (wpAny_pure (hQ h' tk acc (fun b o e => k1 b o (Nat.ne_of_lt (Heap.lt_size e)) (Heap.get?_push_of_some _ e)) (Heap.lt_size k2) k3)))
  refine wpAny_mono (PySem.W.kdl_extend (A := A) (R := fun z s' => ∃ h' tk acc c', z = .ok (.ret (.ref s.heap.objs.size)) ∧ s' = { s with heap := h', toks := tk } ∧ (∀ b o, b ≠ s.heap.objs.size → (s.heap.push { cls := .type "list", data := .seq ([] : List Value).toArray }).get? b = some o → h'.get? b = some o) ∧ h'.get? s.heap.objs.size = some { cls := .type "list", dict := none, data := .seq acc c', slots := #[] } ∧ ItemsOf P acc n)
    (s := { s with heap := s.heap.push { cls := .type "list", data := .seq ([] : List Value).toArray } }) S hh okS s.heap.objs.size (Nat.ne_of_gt lt.1) (Nat.ne_of_gt lt.2) (.ref s.heap.objs.size) 0 at0 (fun h' tk acc c' k1 k2 k3 => ⟨h', tk, acc, c', rfl, rfl, k1, k2, k3⟩) hn) (fun z s' h => ?_) (fun e s' h => ?_)
  · cases z with
    | done f =>
      obtain ⟨h', tk, acc, c', e, rfl, k1, k2, k3⟩ := h
      cases e
      exact fin' h' tk acc c' k1 k2 k3
    | again c2 => exact ⟨h.1, codeAny_mono h.2 fun z s2 hz => by
        obtain ⟨h', tk, acc, c', rfl, rfl, k1, k2, k3⟩ := hz
        exact fin' h' tk acc c' k1 k2 k3⟩
  · obtain ⟨_, _, _, _, z, _⟩ := h
    exact nomatch z
theorem plain_tnew : plainId "tuple.__new__" = true := by decide +kernel
/-- tuple(r), r a source -/
theorem call_tuple_src {Q : Value → Shared → Prop} (S : PySem.W.KdlSrc prog w T r d n P OK) (hT : T = "dict") (hh : A.handled = none) (ok : OK s.heap) (hn : n ≤ sizeLine)
    (hQ : ∀ (h' : Heap) (tk : Nat) (acc : Array Value), (∀ b o, s.heap.get? b = some o → h'.get? b = some o) → s.heap.objs.size < h'.objs.size → ItemsOf P acc n → Q (.ref h'.objs.size) { s with heap := h'.push { cls := .type "tuple", data := .seq acc }, toks := tk }) :
    wpAny (model prog w) A (call (.type "tuple") [.ref r]) Q E s := by
  subst hT
  refine callType_codes (Q₁ := fun obj s₁ => s₁.TypeIs obj "tuple" ∧ Q obj s₁) F.called_tuple (F.typeCall_tuple_1 _) F.entry_object_init ?_ fun obj s₁ hq => ⟨hq.1, F.args_object_init_2 obj _, ?_⟩
  · refine codeAny_of_tree ?_
    show wpAny _ A.in1.in1 (do checkBuiltinCall "tuple.__new__" ⟨[.type "tuple", .ref r], []⟩; again (.builtin "tuple.__new__" ⟨[.type "tuple", .ref r], []⟩)) _ _ s
    refine wpAny_bind (wpAny_of_eq (F.newCall_tuple_1 (.ref r)) (wpAny_pure ⟨plainId_quiet plain_tnew _, codeAny_builtin F.entry_tuple_new ?_⟩)); rw [Around.under_plainId plain_tnew _]
    have hty := S.type s ok
    have hsub := sub_tuple_self
    have hinit := init_tuple_lookup
    have hmh := madeHere_tuple
    have hh2 : A.in1.in1.handled = none := by simp [hh]
    wp_walk using wpAny_typeOf hty, collect_src S hh2 ok hn
    intro h' tk acc k1 k0 k2
    show wpAny _ _ (Builtin.Tuple.tupleExact acc.toList.toArray >>= fun z => ret z) _ _ _
    unfold Builtin.Tuple.tupleExact
    refine wpAny_bind (wpAny_newObj_type (wpAny_pure ?_) (by show acc.toList.toArray.size ≤ sizeLine; rw [Array.toArray_toList, k2.1]; exact hn))
    rw [Array.toArray_toList]
    exact ⟨⟨_, Heap.get?_push_size _ rfl, rfl⟩, hQ h' tk acc k1 k0 k2⟩
  · exact object_init_meets F.called_tuple.init.lookup F.called_tuple.made (by decide) prog w A.in1 _ s₁ ⟨hq.1, rfl, hq.2⟩
end
/-! ### tuple(d), d written with text keys -/
def KeyL : List DictEntry → List Str → Prop
  | [], [] => True
  | e :: r, k :: q => (∃ t, e.key = .str k t) ∧ KeyL r q
  | _, _ => False
theorem keyL_pairs {P : Program} {w : World} : ∀ {es : List DictEntry} {ks : List Str}, PySem.W.KeysLit w.params es → KeyL es ks → ∃ kvs : List (Str × Value), Pairs (PySem.strKind P w) es kvs ∧ kvs.map (·.1) = ks ∧ ∀ e ∈ es, ∃ k, (PySem.strKind P w).is k e.key = true ∧ e.hash = (PySem.strKind P w).hash k
  | [], [], _, _ => ⟨[], .nil, rfl, fun _ h => absurd h List.not_mem_nil⟩
  | e :: es, k :: ks, ⟨⟨x, t, h1, h2⟩, hl⟩, ⟨⟨t', h3⟩, hr⟩ => by
    obtain ⟨kvs, p, m, q⟩ := keyL_pairs (P := P) hl hr
    have ex : x = k := by rw [h1] at h3; cases h3; rfl
    subst ex
    have is : (PySem.strKind P w).is x e.key = true := by rw [h1]; exact strKind_is _ _ _ _
    refine ⟨(x, e.val) :: kvs, .cons is rfl p, by rw [List.map_cons, m], fun y hy => ?_⟩
    rcases List.mem_cons.mp hy with rfl | hy
    · exact ⟨x, is, h2⟩
    · exact q y hy
def rTupKD (K : PySem.W.Frag) (w : World) : List V → Hp → VK → Prop := fun xs H Q => ∃ (d : Addr) (es : Array DictEntry) (n : Nat) (ks : List Str), xs = [.ref d] ∧ KDict K w d es n ∧ KeyL es.toList ks ∧ ks.Nodup ∧ ks.length ≤ 1000 ∧ ∀ l, H l = none → Q (.ref l) (upd H l (.tup (ks.map V.str)))
theorem vals_keys {P : Program} {w : World} : ∀ {us : List Value} {kvs : List (Str × Value)}, us.length = kvs.length → (∀ (j : Nat) (v : Value), us[j]? = some v → ∃ k x, kvs[j]? = some (k, x) ∧ (PySem.strKind P w).is k v = true) → Vals (kvs.map fun q => V.str q.1) us
  | [], [], _, _ => .nil
  | u :: us, q :: kvs, hl, h => by
    obtain ⟨k, x, e1, e2⟩ := h 0 u rfl
    cases e1
    obtain ⟨t, rfl⟩ := Value.isStrOf_shape e2
    exact .cons ⟨t, rfl⟩ (vals_keys (Nat.succ.inj hl) fun j v e => h (j + 1) v e)
theorem call_tuple_kd {X : Cx} (hc : X.calm = true) : CallR X (.type "tuple") (rTupKD X.K X.w) := by
  intro pins s σ H xs us Q I r q
  obtain ⟨d, es, n, ks, rfl, D, hk, nd, hl, q⟩ := q
  obtain ⟨u, rfl, rx⟩ := vals1 r
  obtain rfl : u = Value.ref d := rx
  obtain ⟨kvs, hp, hm, hh⟩ := keyL_pairs (P := X.prog) D.lit hk
  have at_ : s.heap.DictAt (PySem.strKind X.prog X.w) d kvs n := ⟨_, es, I.kIn _ _ D.at_, ⟨rfl, rfl, rfl⟩, rfl, fun e he => hh e (Array.mem_toList_iff.mpr he), hp, by rw [hm]; exact nd⟩
  have lk : kvs.length = ks.length := by rw [← hm, List.length_map]
  refine call_tuple_src (PySem.W.kdl_dict (knd := PySem.strKind X.prog X.w) (kvs := kvs) (ep := n) D.low) rfl (I.ok.hd hc) at_ (by rw [lk]; exact Nat.le_trans hl (by decide)) fun h' tk acc k1 k0 k2 => ?_
  have v : Vals (ks.map V.str) acc.toList := by
    have z := vals_keys (P := X.prog) (w := X.w) (us := acc.toList) (kvs := kvs) (by rw [Array.length_toList]; exact k2.1) fun j v e => k2.2 j v (by rw [← Array.getElem?_toList]; exact e)
    rw [← hm, List.map_map]; exact z
  have sz : s.heap.objs.size ≤ h'.objs.size := Nat.le_of_lt k0
  refine ⟨.ref h'.objs.size, upd H h'.objs.size (.tup (ks.map V.str)), I.laid (t' := tk) (fun b o e => Heap.get?_push_of_some _ (k1 b o e)) sz ?_, rfl, q _ (I.hok.fresh sz)⟩
  refine ⟨by rw [List.length_map]; exact Nat.le_trans hl (by decide), acc.toList, v, ?_⟩
  have e : acc.toList.toArray = acc := by simp
  rw [e]
  exact ⟨_, Heap.get?_push_size _ rfl, rfl, _, rfl⟩
end Ag

set_option Elab.async false
set_option linter.all false
set_option maxRecDepth 100000
set_option maxHeartbeats 2000000
set_option pp.maxSteps 400
/-! xs[::-1] of a tuple of two; data without lists. -/
namespace Ag
open PySem PySem.Spec PyProof.Rows L2
section
variable {prog : Program} {w : World} {A : Around} {E : Value → Shared → Prop} {s : Shared}
theorem rev_of_two {t sl : Addr} {x y : Value} {vl vu vs : Value} {Q : Value → Shared → Prop} (ht : IsTup s.heap t #[x, y]) (hs : s.heap.IsSliceOf sl vl vu vs) (pl : IsPart vl none) (pu : IsPart vu none) (ps : IsPart vs (some (-1)))
    (h : Q (.ref s.heap.objs.size) { s with heap := s.heap.push { cls := .type "tuple", data := .seq #[y, x] } }) : wpAny (model prog w) A (getItem (.ref t) (.ref sl)) Q E s := by
  obtain ⟨o, ho, hc, hd⟩ := id hs
  have ty : s.TypeIs (.ref sl) "slice" := ⟨o, ho, hc⟩
  unfold getItem
  try with_reducible refine wpAny_holding ?_
  first | refine wpAny_bind (wpAny_pure ?_) | skip
  refine wpAny_bind (wpAny_sequenceKey ht.typeIs (by decide) (wpAny_bind (wpAny_callSpecial?_slot (name := Str.ofString "__getitem__") ht.typeIs PyProof.Rows.slot_tuple_getitem (wpAny_call_entry PyProof.Rows.slot_tuple_getitem ht.typeIs entry_tuple_getitem ?_ (args_tuple_getitem _ _)))))
  show wpAny _ _ (Builtin.Tuple.tupleItemsOf (.ref t) >>= _) _ _ s
  refine wpAny_bind (tupleItemsOf_ ht (wpAny_bind (wpAny_typeOf ty ?_))); rw [if_pos (by decide)]
  have ap : ∀ {Q' : Int × Int × Nat → Shared → Prop}, Q' (1, -1, 2) s → wpAny (model prog w) A.in1 (Builtin.Slice.sliceApplied (.ref sl) (pure (((#[x, y] : Array Value).size : Nat) : Int))) Q' E s := fun {Q'} q => by
    unfold Builtin.Slice.sliceApplied Builtin.Slice.sliceFields
    refine wpAny_bind (wpAny_bind (wpAny_field ho hd (x := vl) rfl (wpAny_bind (wpAny_field ho hd (x := vu) rfl (wpAny_bind (wpAny_field ho hd (x := vs) rfl (wpAny_pure ?_)))))))
    refine wpAny_bind (HT.slicePart_ ps ?_)
    show wpAny _ _ (if ((-1 : Int) == 0) = true then _ else _) _ _ s
    rw [if_neg (by decide)]
    refine wpAny_bind (HT.slicePart_ pl (wpAny_bind (HT.slicePart_ pu (wpAny_bind (wpAny_pure ?_)))))
    show wpAny _ _ (match Builtin.Slice.sliceAdjust none none (-1) 2 with | (u, v) => pure (u, (-1 : Int), Builtin.Slice.slicePlaces u v (-1))) _ _ s
    rw [show Builtin.Slice.sliceAdjust none none (-1) 2 = (1, -1) by decide]
    show wpAny _ _ (pure ((1 : Int), (-1 : Int), Builtin.Slice.slicePlaces 1 (-1) (-1))) _ _ s
    rw [show Builtin.Slice.slicePlaces 1 (-1) (-1) = 2 by decide]
    exact wpAny_pure q
  refine wpAny_bind (wpAny_mono (ap (Q' := fun z s' => z = (1, -1, 2) ∧ s' = s) ⟨rfl, rfl⟩) (fun z s' hz => ?_) fun _ _ e => e)
  obtain ⟨rfl, rfl⟩ := hz
  show wpAny _ _ (if ((1 : Int) == 0 && (-1 : Int) == 1 && (2 : Nat) == (#[x, y] : Array Value).size) = true then _ else _) _ _ s'
  rw [if_neg (by simp)]
  have e : ((List.range 2).filterMap fun (m : Nat) => (#[x, y] : Array Value)[((1 : Int) + (m : Int) * (-1)).toNat]?).toArray = #[y, x] := rfl
  rw [e]
  first
    | exact wpAny_bind (m := Builtin.Tuple.tupleExact _) (wpAny_newObj_type (wpAny_pure ⟨_, rfl, wpAny_pure h⟩) (by show 2 ≤ sizeLine; rw [sizeLine_eq]; omega))
    | exact wpAny_bind (m := Builtin.Tuple.tupleExact _) (wpAny_newObj_type (wpAny_bind (wpAny_pure (wpAny_pure ⟨_, rfl, wpAny_pure h⟩))) (by show 2 ≤ sizeLine; rw [sizeLine_eq]; omega))
    | exact wpAny_bind (wpAny_bind (m := Builtin.Tuple.tupleExact _) (wpAny_newObj_type (wpAny_pure (wpAny_pure ⟨_, rfl, wpAny_pure h⟩)) (by show 2 ≤ sizeLine; rw [sizeLine_eq]; omega)))
    | exact wpAny_bind (wpAny_bind (m := Builtin.Tuple.tupleExact _) (wpAny_newObj_type (wpAny_pure ⟨_, rfl, wpAny_pure h⟩) (by show 2 ≤ sizeLine; rw [sizeLine_eq]; omega)))
end
/-- t[::-1], t of two -/
def tRev2 (K : PySem.W.Frag) (te : TE) : TE := fun σ H Q => te σ H fun x H1 => ∃ a u v, x = .ref a ∧ SqT K H1 a [u, v] ∧ ∀ p, H1 p = none → Q (.ref p) (upd H1 p (.tup [v, u]))
theorem pe_rev2 {X : Cx} {e : Expr} {te : TE} {k : Nat} {p1 p2 p3 pos : Pos} (he : PE X e te) : PE X (.Subscript e (.Slice none none (some (.UnaryOp .USub (.Constant (.int 1) k p1) p2)) p3) pos) (tRev2 X.K te) := by
  refine ⟨fun pins s σ H Q I h => Subscript_ (thn (he.run pins s σ H _ I h) fun v s1 ⟨x, H1, I1, r1, a, y1, y2, ex, hx, q⟩ => ?_)⟩
  subst ex
  obtain rfl : v = Value.ref a := r1
  refine wpAny_Slice (thn (po_none.run pins s1 σ H1 (fun o G => o = none ∧ G = H1) I1 ⟨rfl, rfl⟩) fun vl s2 ⟨l, H2, I2, pl, el, e2⟩ => ?_)
  subst el e2
  refine thn (po_none.run pins s2 σ H2 (fun o G => o = none ∧ G = H2) I2 ⟨rfl, rfl⟩) fun vu s3 ⟨u, H3, I3, pu, eu, e3⟩ => ?_
  subst eu e3
  refine thn ((po_some (pe_un un_neg pe_int) : PO X (some (.UnaryOp .USub (.Constant (.int 1) k p1) p2)) (tPart (tUn (rU fun i => .int (-i)) (tC (.int 1))))).run pins s3 σ H3 (fun o G => o = some (-1) ∧ G = H3) I3 ⟨1, rfl, -1, rfl, rfl, rfl⟩) fun vs s4 ⟨o, H4, I4, ps, eo, e4⟩ => ?_
  subst eo e4
  have I5 : Inv X pins σ H4 { s4 with heap := s4.heap.push { cls := .type "slice", data := .fields #[vl, vu, vs] } } := I4.kept (t' := s4.toks) fun b ob z => Heap.get?_push_of_some _ z
  obtain ⟨its, r, ht, hz⟩ := I5.tuple hx
  obtain ⟨u1, u2, rfl, r1, r2⟩ := r.two
  refine tail_any (ops := [.ref a, .ref s4.heap.objs.size]) ht.typeIs PyProof.Rows.slot_tuple_getitem.lookup (rev_of_two ht (Heap.IsSliceOf.new _ vl vu vs) pl pu ps ?_) (by with_unfolding_all rfl)
  exact ⟨.ref _, _, I5.laid (t' := s4.toks) (o := .tup [y2, y1]) (fun b ob z => Heap.get?_push_of_some _ z) (Nat.le_refl _) ⟨by show 2 ≤ sizeLine; rw [sizeLine_eq]; omega, [u2, u1], .cons r2 (.cons r1 .nil), IsTup.new _ _⟩, rfl, q _ (I5.hok.fresh (Nat.le_refl _))⟩
/-! ### data without lists, and what keeps it -/
def nof : Addr → Prop := fun _ => False
def isTup : HO → Bool | .tup _ => true | .frz _ (.tup _) => true | _ => false
/-- all tuples stay -/
def KeepT (H H' : Hp) : Prop := ∀ a u, H a = some u → isTup u = true → H' a = some u
theorem KeepT.of {H H' : Hp} (s : Same H H') : KeepT H H' := fun a u h _ => s _ _ h
theorem KeepT.trans {H H1 H2 : Hp} (a : KeepT H H1) (b : KeepT H1 H2) : KeepT H H2 := fun x u h t => b x u (a x u h t) t
theorem KeepT.stT {K : PySem.W.Frag} {H H' : Hp} {a : Addr} {xs : List V} (k : KeepT H H') (h : SqT K H a xs) : SqT K H' a xs := h.imp (fun z => z.elim (fun z => .inl (k _ _ z rfl)) fun ⟨o, z⟩ => .inr ⟨o, k _ _ z rfl⟩) id
mutual
theorem df_keepT {K : PySem.W.Frag} {H H' : Hp} (k : KeepT H H') : ∀ {v : V} {d : PyData}, Df K nof H v d → Df K nof H' v d
  | _, _, .non => .non
  | _, _, .bl b => .bl b
  | _, _, .int i => .int i
  | _, _, .str x => .str x
  | _, _, .lst h r => .lst (h.imp (fun z => z.2.elim) id) (dfs_keepT k r)
  | _, _, .tup h r => .tup (k.stT h) (dfs_keepT k r)
theorem dfs_keepT {K : PySem.W.Frag} {H H' : Hp} (k : KeepT H H') : ∀ {vs : List V} {ds : List PyData}, DfAll K nof H vs ds → DfAll K nof H' vs ds
  | _, _, .nil => .nil
  | _, _, .cons h r => .cons (df_keepT k h) (dfs_keepT k r)
end
end Ag

set_option Elab.async false
set_option linter.all false
set_option maxRecDepth 100000
set_option maxHeartbeats 1000000
/-! Defs that are only to be run where nothing is being shown (repr of data in a helper of the law). -/
namespace Ag
open PySem PySem.Spec PyProof.Rows L2 LamX
structure FnG (P : Program) (w : World) (K : PySem.W.Frag) (mg : Str → Option Value) (base : Heap) (CX : CXT) (k : Nat) (f : Addr) (fd : FuncData) (ps : List Str) (sp : Sp) : Prop where
  len : ∀ vs H Q E, sp vs H Q E → vs.length = ps.length
  run : ∀ (A : Around) (outer : List Env) (s : Shared) (H : Hp) (us : List Value) (vs : List V) (Q : VK) (E : XK), A.guards = some [] → Room k A → Env0 P w K mg base A outer s H → BindsTo s fd ⟨us, []⟩ (ps.zip us) → Vals vs us → sp vs H Q E →
    codeAny (model P w) A (.call (.ref f) ⟨us, []⟩) (CR CX outer P w H s Q E) s
section
variable {X : Cx} {CX : CXT} {k : Nat} {f : Addr} {fd : FuncData} {ps : List Str} {sp : Sp} {E : XK} {x : Str} {e : Expr} {es : List Expr} {t : TA} {p pos : Pos}
theorem run_fnG {pins : List (Addr × Obj)} {σ : L2.St} {H : Hp} {s : Shared} {Q : VK} {us : List Value} {vs : List V} (F : FnG X.prog X.w X.K X.mg X.base CX k f fd ps sp) (hgd : X.A.guards = some []) (hr : Room k X.A) (hb : Binds X.K fd ps []) (hx : Passes CX X E)
    (I : Inv X pins σ H s) (r : Vals vs us) (h : sp vs H Q E) : wpAny (model X.prog X.w) X.A (call (.ref f) us) (EP X pins σ Q) X.xe s := by
  have hl : us.length = ps.length := by rw [← r.length]; exact F.len _ _ _ _ h
  have hb' := hb s us I.kIn (by rw [List.append_nil]; exact hl)
  rw [List.append_nil] at hb'
  refine wpAny_call (codeAny_mono (F.run X.A X.stack s H us vs Q E hgd hr I.env0 hb' r h) fun r s' hq => ?_)
  cases r with
  | error e => exact hx pins σ H s e s' I hq
  | ok fl =>
    cases fl with
    | ret u => exact I.after hq
    | next => exact False.elim hq
    | brk => exact False.elim hq
    | cont => exact False.elim hq
theorem pe_callG (F : FnG X.prog X.w X.K X.mg X.base CX k f fd ps sp) (hgd : X.A.guards = some []) (hr : Room k X.A) (hg : Gl X x) (hm : X.mg x = some (.ref f)) (hk : PySem.W.keepIn X.K (.ref f) = true) (hb : Binds X.K fd ps []) (hx : Passes CX X E)
    (ha : PA X (e :: es) t) (hdb : (x == ("__debug__" : Str)) = false := by decide) (he : starEach (e :: es) X.env = (false, eval e X.env) :: starEach es X.env := by rfl) (hpl : (backTo pos (starEach es X.env)).any (·.1) = false := by rfl) :
    PE X (.Call (.Name x p) (e :: es) [] pos) (tCall sp [] E t) := by
  refine ⟨fun pins s σ H Q I h => ?_⟩
  refine wpAny_Call_Name_kw (ld_glob I hg hm ?_ hdb)
  refine PySem.W.callWith_K (h₀ := X.base) I.ok.mod.kin hk (thn (ha.run pos pins s σ H _ I h) fun us s1 ⟨vs, H1, I1, r, q⟩ => ⟨I1.kIn, ?_⟩) he hpl
  have q : sp (vs ++ []) H1 Q E := q
  rw [List.append_nil] at q
  exact run_fnG F hgd hr hb hx I1 r q
end
/-- a def that lets nothing out, whose code object is to be known, run where nothing is being shown -/
theorem okG {P : Program} {w : World} {K : PySem.W.Frag} {mg : Str → Option Value} {base : Heap} {x qual : Str} {st : Stmt} {f : Addr} {fd : FuncData} {N ps : List Str} {k : Nat} {sp : Sp} (F : Fun K x qual st f fd) (S : FnScope N ps (defScope st)) (len : ∀ vs H Q E, sp vs H Q E → vs.length = ps.length)
    (hbody : ∀ (A : Around) (outer : List Env) (s : Shared) (H : Hp) (vs : List V) (Q : VK) (E : XK), A.guards = some [] → Room k (A.deeper (envOfC qual (defScope st) s.heap.objs.size f fd.code)) → sp vs H Q E →
      ∃ t, PSs (cxOf CX0 P w K mg base N qual (defScope st) f fd.code A outer s H E) (defBody st) t ∧ t { nx := fun _ H' => Q .non H', rt := Q } (start N vs) H) : FnG P w K mg base CX0 (k + 1) f fd ps sp := by
  obtain ⟨_, _, _, _, _, _, _, _, _, rfl, lk, hcd⟩ := F.ex
  refine ⟨len, fun A outer s H us vs Q E hgd hr e0 hb r hsp => ?_⟩
  exact run_ofS (N := N) lk hcd S hr e0 hb r (len _ _ _ _ hsp) fun hr' => hbody A outer s H vs Q E hgd hr' hsp
end Ag

set_option Elab.async false
set_option linter.all false
set_option maxRecDepth 100000
set_option maxHeartbeats 1000000
/-! The order of alike data over the layer. -/
namespace Ag
open PySem PySem.Spec PyProof.Rows L2
open PySem.W (alike alikeAll dataLt)
def rLtD (K : PySem.W.Frag) : R2 := fun x y H Q => ∃ d e, Dp K H x d ∧ Dp K H y e ∧ alike d e = true ∧ d ≠ .none ∧ min d.depth e.depth ≤ 50 ∧ Q (.bl (dataLt d e)) H
def rGtD (K : PySem.W.Frag) : R2 := fun x y H Q => ∃ d e, Dp K H x d ∧ Dp K H y e ∧ alike d e = true ∧ d ≠ .none ∧ min d.depth e.depth ≤ 50 ∧ Q (.bl (dataLt e d)) H
theorem op_ltD {X : Cx} (hu : X.A.units + 64 < cLine) : OpR X (compareOp .Lt) (rLtD X.K) := by
  intro pins s σ H x y v u Q I rx ry h
  obtain ⟨d, e, hd, he, al, nn, dp, q⟩ := h
  obtain ⟨as, r1⟩ := Dp.reads I d x v hd rx
  obtain ⟨bs, r2⟩ := Dp.reads I e y u he ry
  exact PySem.W.lt_data r1 r2 al nn (by omega) ⟨.bl _, H, I, rfl, q⟩
theorem op_gtD {X : Cx} (hu : X.A.units + 64 < cLine) : OpR X (compareOp .Gt) (rGtD X.K) := by
  intro pins s σ H x y v u Q I rx ry h
  obtain ⟨d, e, hd, he, al, nn, dp, q⟩ := h
  obtain ⟨as, r1⟩ := Dp.reads I d x v hd rx
  obtain ⟨bs, r2⟩ := Dp.reads I e y u he ry
  exact PySem.W.gt_data r1 r2 al nn (by omega) ⟨.bl _, H, I, rfl, q⟩
theorem alike_strs : ∀ (xs ys : List Str), alikeAll (xs.map .str) (ys.map .str) = true
  | [], _ => by simp [alikeAll]
  | _ :: _, [] => by simp [alikeAll]
  | x :: xs, y :: ys => by
    simp only [List.map_cons, alikeAll, Bool.and_eq_true]
    exact ⟨by simp [alike], alike_strs xs ys⟩
section
variable {K : PySem.W.Frag} {σ : L2.St} {F : Addr → Prop} {H : Hp} {ta tb : TE} {d e : PyData}
theorem ed_ltD (ha : ED K ta σ F H d) (hb : ED K tb σ F H e) (h1 : alike d e = true) (h2 : d ≠ .none) (h3 : min d.depth e.depth ≤ 50) : ED K (tOp (rLtD K) ta tb) σ F H (.bool (dataLt d e)) :=
  ed_op ha hb fun F x y H1 hx hy Q q => ⟨d, e, df_dp hx, df_dp hy, h1, h2, h3, q _ _ (Same.refl _) (.bl _)⟩
theorem ed_gtD (ha : ED K ta σ F H d) (hb : ED K tb σ F H e) (h1 : alike d e = true) (h2 : d ≠ .none) (h3 : min d.depth e.depth ≤ 50) : ED K (tOp (rGtD K) ta tb) σ F H (.bool (dataLt e d)) :=
  ed_op ha hb fun F x y H1 hx hy Q q => ⟨d, e, df_dp hx, df_dp hy, h1, h2, h3, q _ _ (Same.refl _) (.bl _)⟩
end
theorem strs_depth : ∀ (xs : List Str), PyData.depthAll (xs.map .str) ≤ 1
  | [] => by simp [PyData.depthAll]
  | x :: xs => by
    have := strs_depth xs
    simp only [List.map_cons, PyData.depthAll, PyData.depth]
    omega
end Ag

set_option Elab.async false
set_option linter.all false
set_option maxRecDepth 100000
set_option maxHeartbeats 1000000
/-! Either of two promises; the empty dict asked for its kind. -/
namespace Ag
open PySem PySem.Spec PyProof.Rows L2
/-- a promise that holds where one of two does -/
def spOr (sp sp' : Sp) : Sp := fun vs H Q E => sp vs H Q E ∨ sp' vs H Q E
theorem fn_or {P : Program} {w : World} {K : PySem.W.Frag} {mg : Str → Option Value} {base : Heap} {CX : CXT} {k : Nat} {f : Addr} {fd : FuncData} {ps : List Str} {sp sp' : Sp} (F : FnOk P w K mg base CX k f fd ps sp) (G : FnOk P w K mg base CX k f fd ps sp') :
    FnOk P w K mg base CX k f fd ps (spOr sp sp') :=
  ⟨fun vs H Q E q => q.elim (F.len vs H Q E) (G.len vs H Q E), fun A outer s H args us vs Q E hr he hb hv hs => hs.elim (fun z => F.run A outer s H args us vs Q E hr he hb hv z) (fun z => G.run A outer s H args us vs Q E hr he hb hv z)⟩
section
variable {K : PySem.W.Frag} {σ : L2.St} {F : Addr → Prop} {H : Hp}
theorem kit_dict {T : String} (hT : T = "str" ∨ T = "tuple" ∨ T = "list" ∨ T = "int" ∨ T = "bool") : PySem.W.kitOne K (.type "dict") (.type T) = some false := by
  rcases hT with rfl | rfl | rfl | rfl | rfl
  · exact kit_ty (show kitB "dict" "str" = some false by decide +kernel)
  · exact kit_ty (show kitB "dict" "tuple" = some false by decide +kernel)
  · exact kit_ty (show kitB "dict" "list" = some false by decide +kernel)
  · exact kit_ty (show kitB "dict" "int" = some false by decide +kernel)
  · exact kit_ty (show kitB "dict" "bool" = some false by decide +kernel)
theorem ed_isiE {i : Nat} {a : Addr} {T : String} (h : σ[i]? = some (some (.ref a))) (ha : H a = some (.dK [])) (hT : T = "str" ∨ T = "tuple" ∨ T = "list" ∨ T = "int" ∨ T = "bool") :
    ED K (tCB (rIsi K) (tCons (tVar i) (tCons (tC (.ty T)) tNil))) σ F H (.bool false) := fun H1 s Q q =>
  ⟨_, h, .ref a, .ty T, _, _, _, rfl, .ty T, .base (.dK (s _ _ ha)), kit_dict hT, q _ _ (Same.refl _) (.bl _)⟩
theorem dp_strsF {v : V} {xs : List Str} (h : Dp K H v (.tuple (xs.map .str))) : Df K F H v (.tuple (xs.map .str)) := by
  cases h with
  | tup hs r => have := strs_dps r; subst this; exact .tup hs (dfs_strs xs)
end
end Ag

set_option Elab.async false
set_option linter.all false
set_option maxRecDepth 100000
set_option maxHeartbeats 1000000
/-! Texts of plain signs and how long they may be; lists of texts, made and joined anew. -/
namespace Ag
open PySem PySem.Spec PyProof.Rows L2
/-- plain signs, at most n of them -/
def As (n : Nat) (x : Str) : Prop := (∀ c ∈ x.cps.toList, c < 128) ∧ x.length ≤ n
theorem As.more {m n : Nat} {x : Str} (h : As m x) (l : m ≤ n) : As n x := ⟨h.1, Nat.le_trans h.2 l⟩
theorem as_cat {m n : Nat} {x y : Str} (h : As m x) (k : As n y) : As (m + n) (x ++ y) := by
  refine ⟨fun c hc => ?_, by rw [Str.length_append]; exact Nat.add_le_add h.2 k.2⟩
  have e : (x ++ y).cps.toList = x.cps.toList ++ y.cps.toList := TL.tl_append x y
  rw [e] at hc
  exact (List.mem_append.mp hc).elim (h.1 c) (k.1 c)
theorem as_cut {n : Nat} {x : Str} {lo hi : Option Int} (h : As n x) : As n (cutS x lo hi) := by
  have e : (cutS x lo hi).cps.toList = (x.cps.toList.drop (HT.sIx x.length 0 lo)).take (HT.sIx x.length x.length hi - HT.sIx x.length 0 lo) := by
    unfold cutS; simp
  refine ⟨fun c hc => h.1 c ?_, ?_⟩
  · rw [e] at hc; exact List.mem_of_mem_drop (List.mem_of_mem_take hc)
  · show (cutS x lo hi).cps.size ≤ n
    rw [← Array.length_toList, e, List.length_take, List.length_drop, Array.length_toList]
    have : x.cps.size ≤ n := h.2
    omega
theorem up1_lt : ∀ c, c < 128 → PyProof.Rows.up1 c < 128 := by decide +kernel
theorem as_upper {n : Nat} {x : Str} (h : As n x) : As n (Txt.upper x) := by
  rw [PyProof.Rows.upper_ascii h.1]
  refine ⟨fun c hc => ?_, ?_⟩
  · have hc : c ∈ (x.cps.map PyProof.Rows.up1).toList := hc
    rw [Array.toList_map] at hc
    obtain ⟨b, hb, rfl⟩ := List.mem_map.mp hc
    exact up1_lt b (h.1 b hb)
  · show (x.cps.map PyProof.Rows.up1).size ≤ n
    rw [Array.size_map]; exact h.2
/-- a checked text -/
def asB (n : Nat) (x : Str) : Bool := x.cps.toList.all (fun c => decide (c < 128)) && decide (x.length ≤ n)
theorem as_of {n : Nat} {x : Str} (h : asB n x = true) : As n x := by
  unfold asB at h
  obtain ⟨h1, h2⟩ := Bool.and_eq_true_iff.mp h
  exact ⟨fun c hc => of_decide_eq_true (List.all_eq_true.mp h1 c hc), of_decide_eq_true h2⟩
theorem as_join {s : Str} {n m : Nat} (hs : As m s) : ∀ {xs : List Str}, (∀ x ∈ xs, As n x) → As (xs.length * (n + m)) (Str.join s xs)
  | [], _ => ⟨fun c hc => absurd hc (List.not_mem_nil), (Nat.zero_le _)⟩
  | [x], h => ((h x List.mem_cons_self).more (by simp))
  | x :: y :: r, h => by
    have i := as_join hs (xs := y :: r) fun z hz => h z (List.mem_cons_of_mem _ hz)
    have e : Str.join s (x :: y :: r) = x ++ s ++ Str.join s (y :: r) := rfl
    rw [e]
    refine (as_cat (as_cat (h x List.mem_cons_self) hs) i).more ?_
    simp only [List.length_cons, Nat.add_mul, Nat.one_mul]; omega
section
variable {K : PySem.W.Frag} {σ : L2.St} {F : Addr → Prop} {H : Hp} {te ta tb : TE} {d e : PyData}
theorem ed_slS {x : Str} {tl th : TO} {lo hi : Option Int} (h : ED K te σ F H (.str x)) (hx : x.length ≤ 100000) (hl : EO tl σ H lo) (hh : EO th σ H hi) : ED K (tSl rSlS te tl th) σ F H (.str (cutS x lo hi)) := fun H1 s Q q =>
  h H1 s _ fun v H2 s2 hv => by
    cases hv
    refine hl H2 (s.trans s2) _ fun H3 s3 => hh H3 ((s.trans s2).trans s3) _ fun H4 s4 => ?_
    exact ⟨x, rfl, small5 hx, q _ _ ((s2.trans s3).trans s4) (.str _)⟩
theorem ed_upper {x : Str} (h : ED K te σ F H (.str x)) (hx : x.length ≤ 100000) : ED K (tM0 (fun x xs H Q => ∃ a, x = .str a ∧ xs = [] ∧ a.length ≤ 5592405 ∧ Q (.str (Txt.upper a)) H) te) σ F H (.str (Txt.upper x)) := fun H1 s Q q =>
  h H1 s _ fun v H2 s2 hv => by
    cases hv
    exact ⟨⟨x, rfl⟩, x, rfl, rfl, by omega, q _ _ s2 (.str _)⟩
/-- gives a list of these texts -/
def EL (te : TE) (σ : L2.St) (H : Hp) (xs : List Str) : Prop := ∀ H1, Same H H1 → ∀ Q : VK, (∀ p H2, Same H1 H2 → H2 p = some (.lst (xs.map V.str)) → Q (.ref p) H2) → te σ H1 Q
theorem EL.mono {H' : Hp} {xs : List Str} (s : Same H H') (h : EL te σ H xs) : EL te σ H' xs := fun H1 a Q q => h H1 (s.trans a) Q q
theorem el_var {i : Nat} {p : Addr} {xs : List Str} (h : σ[i]? = some (some (.ref p))) (hp : H p = some (.lst (xs.map V.str))) : EL (tVar i) σ H xs := fun H1 s Q q => ⟨_, h, q p H1 (Same.refl _) (s _ _ hp)⟩
theorem el_cat {xs ys : List Str} (ha : EL ta σ H xs) (hb : EL tb σ H ys) (hl : xs.length + ys.length ≤ 100000) : EL (tOp rCat ta tb) σ H (xs ++ ys) := fun H1 s Q q =>
  ha H1 s _ fun p H2 s2 hp => hb H2 (s.trans s2) _ fun b H3 s3 hb3 =>
    ⟨p, b, _, _, rfl, rfl, s3 _ _ hp, hb3, by rw [List.length_map, List.length_map]; exact small5 hl, fun l hn => q l _ ((s2.trans s3).trans (Same.newA hn)) (by rw [upd_same, List.map_append])⟩
theorem el_lst {t : TA} {xs : List Str} (h : EA K t σ F H (xs.map .str)) (hl : xs.length ≤ 100000) : EL (tLst t) σ H xs := fun H1 s Q q =>
  h H1 s _ fun vs H2 s2 hv => by
    have e := strs_dps (dfs_dps hv)
    subst e
    exact ⟨by rw [List.length_map]; exact small5 hl, fun p hp => q p _ (s2.trans (Same.newA hp)) upd_same⟩
def cutW (xs : List Str) (lo hi : Option Int) : List Str := (xs.drop (HT.sIx xs.length 0 lo)).take (HT.sIx xs.length xs.length hi - HT.sIx xs.length 0 lo)
theorem cutW_map (xs : List Str) (lo hi : Option Int) : cutV (xs.map V.str) lo hi = (cutW xs lo hi).map V.str := by
  unfold cutV cutW; rw [List.length_map, List.map_take, List.map_drop]
theorem cutW_mem {xs : List Str} {lo hi : Option Int} {x : Str} (h : x ∈ cutW xs lo hi) : x ∈ xs := List.mem_of_mem_drop (List.mem_of_mem_take h)
theorem cutW_len {xs : List Str} {lo hi : Option Int} : (cutW xs lo hi).length ≤ xs.length := by
  unfold cutW; rw [List.length_take, List.length_drop]; omega
theorem el_slice {xs : List Str} {tl th : TO} {lo hi : Option Int} (h : EL te σ H xs) (hl : EO tl σ H lo) (hh : EO th σ H hi) : EL (tSl (rSlL K) te tl th) σ H (cutW xs lo hi) := fun H1 s Q q =>
  h H1 s _ fun p H2 s2 hp => hl H2 (s.trans s2) _ fun H3 s3 => hh H3 ((s.trans s2).trans s3) _ fun H4 s4 =>
    ⟨p, _, rfl, .inl (.inl (s4 _ _ (s3 _ _ hp))), fun l hn => q l _ (((s2.trans s3).trans s4).trans (Same.newA hn)) (by rw [upd_same, cutW_map])⟩
theorem el_rep2 {xs : List Str} {tb : TE} (ha : EL ta σ H xs) (hb : ED K tb σ F H (.int 2)) (hl : xs.length ≤ 50000) : EL (tOp rRep ta tb) σ H (xs ++ xs) := fun H1 s Q q =>
  ha H1 s _ fun p H2 s2 hp => hb H2 (s.trans s2) _ fun b H3 s3 hb3 => by
    cases hb3
    refine ⟨p, 2, _, rfl, rfl, s3 _ _ hp, by decide, by decide, ?_, fun l hn => q l _ ((s2.trans s3).trans (Same.newA hn)) ?_⟩
    · rw [List.length_map]; refine small5 ?_
      show xs.length * 2 ≤ _
      omega
    · rw [upd_same]
      show some (HO.lst (List.replicate 2 (xs.map V.str)).flatten) = _
      rw [List.map_append]; simp [List.replicate]
theorem el_if {t : TT} {b : Bool} {xs ys : List Str} (h : ET t σ H b) (h1 : b = true → EL ta σ H xs) (h2 : b = false → EL tb σ H ys) : EL (tIf t ta tb) σ H (if b then xs else ys) := fun H1 s Q q => h H1 s _ fun H2 s2 => by
  cases b with
  | true => exact h1 rfl H2 (s.trans s2) _ fun p H3 s3 hp => q p H3 (s2.trans s3) hp
  | false => exact h2 rfl H2 (s.trans s2) _ fun p H3 s3 hp => q p H3 (s2.trans s3) hp
end
end Ag

set_option Elab.async false
set_option linter.all false
set_option maxRecDepth 100000
set_option maxHeartbeats 1000000
/-! What stays where the pen is drawn and tables of code objects grow. -/
namespace Ag
open PySem PySem.Spec PyProof.Rows L2 LamX
/-- all but the pen and the tables is kept -/
def Kp (p : Addr) (H H' : Hp) : Prop := ∀ a o, a ≠ p → (∀ ps, o ≠ .tbl ps) → H a = some o → H' a = some o
theorem Kp.refl (p : Addr) (H : Hp) : Kp p H H := fun _ _ _ _ h => h
theorem Kp.trans {p : Addr} {H H1 H2 : Hp} (a : Kp p H H1) (b : Kp p H1 H2) : Kp p H H2 := fun x o n t h => b x o n t (a x o n t h)
theorem Kp.but {p : Addr} {H H1 : Hp} (b : But p H H1) : Kp p H H1 := fun x o n _ h => b x o n h
theorem Kp.of {p : Addr} {H H1 : Hp} (b : Same H H1) : Kp p H H1 := fun x o _ _ h => b x o h
theorem Kp.ext {p : Addr} {H H1 : Hp} (b : ExtN H H1) : Kp p H H1 := fun x o _ t h => b x o h t
section
variable {K : PySem.W.Frag} {p c : Addr} {n : Nat} {H H' : Hp}
theorem Pen.rdK {a : Addr} {u : HO} (h : Pen p c n H) (b : Kp p H H') (r : Rd H a u) (no : ∀ kvs, u ≠ .dK kvs) (nt : ∀ ps, u ≠ .tbl ps) : Rd H' a u := by
  rcases r with r | ⟨o, r⟩
  · exact .inl (b _ _ (h.ne r no) nt r)
  · exact .inr ⟨o, b _ _ (h.ne r (fun _ z => nomatch z)) (fun _ z => nomatch z) r⟩
theorem Pen.slK {a : Addr} {xs : List V} (h : Pen p c n H) (b : Kp p H H') (r : SqL K H a xs) : SqL K H' a xs := r.imp (fun z => h.rdK b z (fun _ z => nomatch z) (fun _ z => nomatch z)) id
theorem Pen.stK {a : Addr} {xs : List V} (h : Pen p c n H) (b : Kp p H H') (r : SqT K H a xs) : SqT K H' a xs := r.imp (fun z => h.rdK b z (fun _ z => nomatch z) (fun _ z => nomatch z)) id
mutual
theorem Pen.dpK (h : Pen p c n H) (b : Kp p H H') : ∀ {v : V} {d : PyData}, Dp K H v d → Dp K H' v d
  | _, _, .non => .non
  | _, _, .bl b => .bl b
  | _, _, .int i => .int i
  | _, _, .str x => .str x
  | _, _, .lst q r => .lst (h.slK b q) (Pen.dpsK h b r)
  | _, _, .tup q r => .tup (h.stK b q) (Pen.dpsK h b r)
theorem Pen.dpsK (h : Pen p c n H) (b : Kp p H H') : ∀ {vs : List V} {ds : List PyData}, DpAll K H vs ds → DpAll K H' vs ds
  | _, _, .nil => .nil
  | _, _, .cons q r => .cons (Pen.dpK h b q) (Pen.dpsK h b r)
end
theorem Pen.ext (h : Pen p c n H) (b : ExtN H H') : Pen p c n H' := by
  obtain ⟨cells, a, d, k, f, hp, hc, r⟩ := h
  refine ⟨cells, a, d, k, f, b _ _ hp (fun _ z => nomatch z), ?_, r⟩
  rcases hc with hc | ⟨o, hc⟩
  · exact .inl (b _ _ hc (fun _ z => nomatch z))
  · exact .inr ⟨o, b _ _ hc (fun _ z => nomatch z)⟩
/-- the tables stand where but the pen is changed -/
theorem tabs_but {T : List (Addr × Str)} (h : Pen p c n H) (b : But p H H') (t : Tabs T H) : Tabs T H' := fun q hq => by
  obtain ⟨ps, e, tr, co⟩ := t q hq
  refine ⟨ps, b _ _ (h.ne e (fun _ z => nomatch z)) e, tr, fun pos cv hcv => ?_⟩
  obtain ⟨cc, rfl, hc⟩ := co pos cv hcv
  exact ⟨cc, rfl, b _ _ (h.ne hc (fun _ z => nomatch z)) hc⟩
end
end Ag

set_option Elab.async false
set_option linter.all false
set_option maxRecDepth 100000
set_option maxHeartbeats 1000000
namespace Ag
open PySem PySem.Spec PyProof.Rows L2
/-! ### the text by places -/
def top (i : Nat) : Stmt := PySem.Challenge.pw_againnotes_k06_whole_first_wrong_words.main.body.getD i (.Pass ⟨0, 0, 0, 0⟩)
abbrev s_BadText___init__ : Stmt := inClass (top 2) 0
abbrev s_BadNumber___init__ : Stmt := inClass (top 3) 0
abbrev s_BadRow___init__ : Stmt := inClass (top 4) 0
abbrev s_NoName___init__ : Stmt := inClass (top 5) 0
abbrev s_Unlike___init__ : Stmt := inClass (top 6) 0
abbrev s_TooMany___init__ : Stmt := inClass (top 7) 0
abbrev s_is_numeral : Stmt := top 10
abbrev s_rows_of : Stmt := top 11
abbrev s_Cursor___init__ : Stmt := inClass (top 12) 0
abbrev s_Cursor_seen : Stmt := inClass (top 12) 1
abbrev s_Cursor_refuse : Stmt := inClass (top 12) 2
abbrev s_Cursor_take : Stmt := inClass (top 12) 3
abbrev s_Cursor_need : Stmt := inClass (top 12) 4
abbrev s_Cursor_need_number : Stmt := inClass (top 12) 5
abbrev s_Cursor_need_end : Stmt := inClass (top 12) 6
abbrev s_Cursor_is_last : Stmt := inClass (top 12) 7
abbrev s_Cursor_goes_on : Stmt := inClass (top 12) 8
abbrev s_is_name : Stmt := top 16
abbrev s_DutyReader___init__ : Stmt := inClass (top 23) 0
abbrev s_DutyReader_kinds : Stmt := inClass (top 23) 1
abbrev s_DutyReader_names : Stmt := inClass (top 23) 2
abbrev s_DutyReader_plain : Stmt := inClass (top 23) 3
abbrev s_DutyReader_begin : Stmt := inClass (top 23) 4
abbrev s_DutyReader_end : Stmt := inClass (top 23) 5
abbrev s_DutyReader_duty : Stmt := inClass (top 23) 6
abbrev s_duty_read : Stmt := top 24
abbrev s_law_pen : Stmt := top 26
abbrev s_law_draw : Stmt := top 27
abbrev s_law_pick : Stmt := top 28
abbrev s_law_shuffled : Stmt := top 29
abbrev s_law_name : Stmt := top 30
abbrev s_law_names : Stmt := top 31
abbrev s_law_is_name : Stmt := top 32
abbrev s_law_is_figures : Stmt := top 33
abbrev s_law_calls : Stmt := top 34
abbrev s_law_why : Stmt := top 35
abbrev s_law_some_plain : Stmt := top 36
abbrev s_law_some_duty : Stmt := top 37
abbrev s_law_plain_names : Stmt := top 38
abbrev s_law_duty_words : Stmt := top 39
abbrev s_law_bent_words : Stmt := top 40
abbrev s_law_read_plain : Stmt := top 41
abbrev s_law_due : Stmt := top 42
abbrev s_law_is_read : Stmt := top 43
abbrev s_law : Stmt := top 44
structure DefAt (K : PySem.W.Frag) (mg : Str → Option Value) (x : Str) (st : Stmt) (ps : List Str) (a : Addr) (fd : FuncData) : Prop where
  fn : Fun K x x st a fd
  mg : mg x = some (.ref a)
  bd : Binds K fd ps []
structure MethAt (K : PySem.W.Frag) (x qual : Str) (st : Stmt) (ps : List Str) (a : Addr) (fd : FuncData) : Prop where
  fn : Fun K x qual st a fd
  bd : Binds K fd ps []
structure DefAtD (K : PySem.W.Frag) (mg : Str → Option Value) (x : Str) (st : Stmt) (ps : List Str) (dvs : List V) (a : Addr) (fd : FuncData) : Prop where
  fn : FunD K x x (defArgs st) (defBody st) (defScope st) dvs [] a fd
  mg : mg x = some (.ref a)
  bd : Binds K fd ps []
structure MethAtD (K : PySem.W.Frag) (x qual : Str) (st : Stmt) (ps : List Str) (dvs : List V) (a : Addr) (fd : FuncData) : Prop where
  fn : FunD K x qual (defArgs st) (defBody st) (defScope st) dvs [] a fd
  bd : Binds K fd ps []
theorem bt_all : bootBuiltins ("all" : Str) = some (.builtin "all") := by decide +kernel
theorem bt_range : bootBuiltins ("range" : Str) = some (.type "range") := by decide +kernel
theorem bt_tuple : bootBuiltins ("tuple" : Str) = some (.type "tuple") := by decide +kernel
theorem bt_isinstance : bootBuiltins ("isinstance" : Str) = some (.builtin "isinstance") := by decide +kernel
theorem bt_str : bootBuiltins ("str" : Str) = some (.type "str") := by decide +kernel
theorem bt_int : bootBuiltins ("int" : Str) = some (.type "int") := by decide +kernel
theorem bt_list : bootBuiltins ("list" : Str) = some (.type "list") := by decide +kernel
theorem bt_len : bootBuiltins ("len" : Str) = some (.builtin "len") := by decide +kernel
theorem bt_sorted : bootBuiltins ("sorted" : Str) = some (.builtin "sorted") := by decide +kernel
theorem bt_dict : bootBuiltins ("dict" : Str) = some (.type "dict") := by decide +kernel
theorem bt_repr : bootBuiltins ("repr" : Str) = some (.builtin "repr") := by decide +kernel
structure Txt (w : World) (K : PySem.W.Frag) (mg : Str → Option Value) where
  C_AgainError : Addr
  g_AgainError : mg "AgainError" = some (.ref C_AgainError)
  ox_AgainError : OexC K C_AgainError
  xf_AgainError : XfC K C_AgainError
  sb_AgainError : PySem.W.subIn K (.ref C_AgainError) (.ref C_AgainError) = some true
  C_BadText : Addr
  g_BadText : mg "BadText" = some (.ref C_BadText)
  a_BadText___init__ : Addr
  d_BadText___init__ : FuncData
  D_BadText___init__ : MethAt K "__init__" "BadText.__init__" s_BadText___init__ ["self", "line", "word"] a_BadText___init__ d_BadText___init__
  na_BadText_line : NoAttr K C_BadText "line"
  na_BadText_word : NoAttr K C_BadText "word"
  ox_BadText : OexC K C_BadText
  xf_BadText : XfC K C_BadText
  sb_BadText : PySem.W.subIn K (.ref C_BadText) (.ref C_BadText) = some true
  ic_BadText : PySem.W.findIn K (.ref C_BadText) "__init__" = some (some (.ref a_BadText___init__))
  ti_BadText : PySem.W.typeIn K (.ref a_BadText___init__) = some (.type "function")
  C_BadNumber : Addr
  g_BadNumber : mg "BadNumber" = some (.ref C_BadNumber)
  a_BadNumber___init__ : Addr
  d_BadNumber___init__ : FuncData
  D_BadNumber___init__ : MethAt K "__init__" "BadNumber.__init__" s_BadNumber___init__ ["self", "what", "number"] a_BadNumber___init__ d_BadNumber___init__
  na_BadNumber_what : NoAttr K C_BadNumber "what"
  na_BadNumber_number : NoAttr K C_BadNumber "number"
  ox_BadNumber : OexC K C_BadNumber
  xf_BadNumber : XfC K C_BadNumber
  sb_BadNumber : PySem.W.subIn K (.ref C_BadNumber) (.ref C_BadNumber) = some true
  ic_BadNumber : PySem.W.findIn K (.ref C_BadNumber) "__init__" = some (some (.ref a_BadNumber___init__))
  ti_BadNumber : PySem.W.typeIn K (.ref a_BadNumber___init__) = some (.type "function")
  C_BadRow : Addr
  g_BadRow : mg "BadRow" = some (.ref C_BadRow)
  a_BadRow___init__ : Addr
  d_BadRow___init__ : FuncData
  D_BadRow___init__ : MethAt K "__init__" "BadRow.__init__" s_BadRow___init__ ["self", "what", "row"] a_BadRow___init__ d_BadRow___init__
  na_BadRow_what : NoAttr K C_BadRow "what"
  na_BadRow_row : NoAttr K C_BadRow "row"
  ox_BadRow : OexC K C_BadRow
  xf_BadRow : XfC K C_BadRow
  sb_BadRow : PySem.W.subIn K (.ref C_BadRow) (.ref C_BadRow) = some true
  ic_BadRow : PySem.W.findIn K (.ref C_BadRow) "__init__" = some (some (.ref a_BadRow___init__))
  ti_BadRow : PySem.W.typeIn K (.ref a_BadRow___init__) = some (.type "function")
  C_NoName : Addr
  g_NoName : mg "NoName" = some (.ref C_NoName)
  a_NoName___init__ : Addr
  d_NoName___init__ : FuncData
  D_NoName___init__ : MethAt K "__init__" "NoName.__init__" s_NoName___init__ ["self", "name"] a_NoName___init__ d_NoName___init__
  na_NoName_name : NoAttr K C_NoName "name"
  ox_NoName : OexC K C_NoName
  xf_NoName : XfC K C_NoName
  sb_NoName : PySem.W.subIn K (.ref C_NoName) (.ref C_NoName) = some true
  ic_NoName : PySem.W.findIn K (.ref C_NoName) "__init__" = some (some (.ref a_NoName___init__))
  ti_NoName : PySem.W.typeIn K (.ref a_NoName___init__) = some (.type "function")
  C_Unlike : Addr
  g_Unlike : mg "Unlike" = some (.ref C_Unlike)
  a_Unlike___init__ : Addr
  d_Unlike___init__ : FuncData
  D_Unlike___init__ : MethAt K "__init__" "Unlike.__init__" s_Unlike___init__ ["self", "what"] a_Unlike___init__ d_Unlike___init__
  na_Unlike_what : NoAttr K C_Unlike "what"
  ox_Unlike : OexC K C_Unlike
  xf_Unlike : XfC K C_Unlike
  sb_Unlike : PySem.W.subIn K (.ref C_Unlike) (.ref C_Unlike) = some true
  ic_Unlike : PySem.W.findIn K (.ref C_Unlike) "__init__" = some (some (.ref a_Unlike___init__))
  ti_Unlike : PySem.W.typeIn K (.ref a_Unlike___init__) = some (.type "function")
  C_TooMany : Addr
  g_TooMany : mg "TooMany" = some (.ref C_TooMany)
  a_TooMany___init__ : Addr
  d_TooMany___init__ : FuncData
  D_TooMany___init__ : MethAt K "__init__" "TooMany.__init__" s_TooMany___init__ ["self", "what", "many", "limit"] a_TooMany___init__ d_TooMany___init__
  na_TooMany_what : NoAttr K C_TooMany "what"
  na_TooMany_many : NoAttr K C_TooMany "many"
  na_TooMany_limit : NoAttr K C_TooMany "limit"
  ox_TooMany : OexC K C_TooMany
  xf_TooMany : XfC K C_TooMany
  sb_TooMany : PySem.W.subIn K (.ref C_TooMany) (.ref C_TooMany) = some true
  ic_TooMany : PySem.W.findIn K (.ref C_TooMany) "__init__" = some (some (.ref a_TooMany___init__))
  ti_TooMany : PySem.W.typeIn K (.ref a_TooMany___init__) = some (.type "function")
  C_Cursor : Addr
  g_Cursor : mg "Cursor" = some (.ref C_Cursor)
  a_Cursor___init__ : Addr
  d_Cursor___init__ : FuncData
  D_Cursor___init__ : MethAt K "__init__" "Cursor.__init__" s_Cursor___init__ ["self", "rows"] a_Cursor___init__ d_Cursor___init__
  a_Cursor_seen : Addr
  d_Cursor_seen : FuncData
  D_Cursor_seen : MethAt K "seen" "Cursor.seen" s_Cursor_seen ["self"] a_Cursor_seen d_Cursor_seen
  a_Cursor_refuse : Addr
  d_Cursor_refuse : FuncData
  D_Cursor_refuse : MethAt K "refuse" "Cursor.refuse" s_Cursor_refuse ["self"] a_Cursor_refuse d_Cursor_refuse
  a_Cursor_take : Addr
  d_Cursor_take : FuncData
  D_Cursor_take : MethAt K "take" "Cursor.take" s_Cursor_take ["self", "is_right"] a_Cursor_take d_Cursor_take
  a_Cursor_need : Addr
  d_Cursor_need : FuncData
  D_Cursor_need : MethAt K "need" "Cursor.need" s_Cursor_need ["self", "some"] a_Cursor_need d_Cursor_need
  a_Cursor_need_number : Addr
  d_Cursor_need_number : FuncData
  D_Cursor_need_number : MethAt K "need_number" "Cursor.need_number" s_Cursor_need_number ["self", "least", "most"] a_Cursor_need_number d_Cursor_need_number
  a_Cursor_need_end : Addr
  d_Cursor_need_end : FuncData
  D_Cursor_need_end : MethAt K "need_end" "Cursor.need_end" s_Cursor_need_end ["self"] a_Cursor_need_end d_Cursor_need_end
  a_Cursor_is_last : Addr
  d_Cursor_is_last : FuncData
  D_Cursor_is_last : MethAt K "is_last" "Cursor.is_last" s_Cursor_is_last ["self"] a_Cursor_is_last d_Cursor_is_last
  a_Cursor_goes_on : Addr
  d_Cursor_goes_on : FuncData
  D_Cursor_goes_on : MethAt K "goes_on" "Cursor.goes_on" s_Cursor_goes_on ["self", "may_end", "may_follow"] a_Cursor_goes_on d_Cursor_goes_on
  na_Cursor_rows : NoAttr K C_Cursor "rows"
  na_Cursor_line : NoAttr K C_Cursor "line"
  na_Cursor_at : NoAttr K C_Cursor "at"
  cl_Cursor : Cls K C_Cursor
  mk_Cursor : Mk K C_Cursor a_Cursor___init__
  mt_Cursor_seen : Meth K C_Cursor "seen" a_Cursor_seen
  mt_Cursor_refuse : Meth K C_Cursor "refuse" a_Cursor_refuse
  mt_Cursor_take : Meth K C_Cursor "take" a_Cursor_take
  mt_Cursor_need : Meth K C_Cursor "need" a_Cursor_need
  mt_Cursor_need_number : Meth K C_Cursor "need_number" a_Cursor_need_number
  mt_Cursor_need_end : Meth K C_Cursor "need_end" a_Cursor_need_end
  mt_Cursor_is_last : Meth K C_Cursor "is_last" a_Cursor_is_last
  mt_Cursor_goes_on : Meth K C_Cursor "goes_on" a_Cursor_goes_on
  C_DutyReader : Addr
  g_DutyReader : mg "DutyReader" = some (.ref C_DutyReader)
  a_DutyReader___init__ : Addr
  d_DutyReader___init__ : FuncData
  D_DutyReader___init__ : MethAt K "__init__" "DutyReader.__init__" s_DutyReader___init__ ["self", "cursor", "is_let"] a_DutyReader___init__ d_DutyReader___init__
  a_DutyReader_kinds : Addr
  d_DutyReader_kinds : FuncData
  D_DutyReader_kinds : MethAt K "kinds" "DutyReader.kinds" s_DutyReader_kinds ["self"] a_DutyReader_kinds d_DutyReader_kinds
  a_DutyReader_names : Addr
  d_DutyReader_names : FuncData
  D_DutyReader_names : MethAt K "names" "DutyReader.names" s_DutyReader_names ["self", "kind"] a_DutyReader_names d_DutyReader_names
  a_DutyReader_plain : Addr
  d_DutyReader_plain : FuncData
  D_DutyReader_plain : MethAt K "plain" "DutyReader.plain" s_DutyReader_plain ["self", "kind"] a_DutyReader_plain d_DutyReader_plain
  a_DutyReader_begin : Addr
  d_DutyReader_begin : FuncData
  D_DutyReader_begin : MethAt K "begin" "DutyReader.begin" s_DutyReader_begin ["self"] a_DutyReader_begin d_DutyReader_begin
  a_DutyReader_end : Addr
  d_DutyReader_end : FuncData
  D_DutyReader_end : MethAt K "end" "DutyReader.end" s_DutyReader_end ["self", "duty"] a_DutyReader_end d_DutyReader_end
  a_DutyReader_duty : Addr
  d_DutyReader_duty : FuncData
  D_DutyReader_duty : MethAt K "duty" "DutyReader.duty" s_DutyReader_duty ["self"] a_DutyReader_duty d_DutyReader_duty
  na_DutyReader_cursor : NoAttr K C_DutyReader "cursor"
  na_DutyReader_is_let : NoAttr K C_DutyReader "is_let"
  na_DutyReader_read : NoAttr K C_DutyReader "read"
  na_DutyReader_due : NoAttr K C_DutyReader "due"
  na_DutyReader_frames : NoAttr K C_DutyReader "frames"
  cl_DutyReader : Cls K C_DutyReader
  mk_DutyReader : Mk K C_DutyReader a_DutyReader___init__
  mt_DutyReader_kinds : Meth K C_DutyReader "kinds" a_DutyReader_kinds
  mt_DutyReader_names : Meth K C_DutyReader "names" a_DutyReader_names
  mt_DutyReader_plain : Meth K C_DutyReader "plain" a_DutyReader_plain
  mt_DutyReader_begin : Meth K C_DutyReader "begin" a_DutyReader_begin
  mt_DutyReader_end : Meth K C_DutyReader "end" a_DutyReader_end
  mt_DutyReader_duty : Meth K C_DutyReader "duty" a_DutyReader_duty
  a_is_numeral : Addr
  d_is_numeral : FuncData
  D_is_numeral : DefAt K mg "is_numeral" s_is_numeral ["word"] a_is_numeral d_is_numeral
  a_rows_of : Addr
  d_rows_of : FuncData
  D_rows_of : DefAt K mg "rows_of" s_rows_of ["text"] a_rows_of d_rows_of
  a_is_name : Addr
  d_is_name : FuncData
  D_is_name : DefAt K mg "is_name" s_is_name ["value"] a_is_name d_is_name
  a_duty_read : Addr
  d_duty_read : FuncData
  D_duty_read : DefAt K mg "duty_read" s_duty_read ["text"] a_duty_read d_duty_read
  a_law_pen : Addr
  d_law_pen : FuncData
  D_law_pen : DefAt K mg "_law_pen" s_law_pen ["script"] a_law_pen d_law_pen
  a_law_draw : Addr
  d_law_draw : FuncData
  D_law_draw : DefAt K mg "_law_draw" s_law_draw ["pen", "many"] a_law_draw d_law_draw
  a_law_pick : Addr
  d_law_pick : FuncData
  D_law_pick : DefAt K mg "_law_pick" s_law_pick ["pen", "some"] a_law_pick d_law_pick
  a_law_shuffled : Addr
  d_law_shuffled : FuncData
  D_law_shuffled : DefAt K mg "_law_shuffled" s_law_shuffled ["pen", "some"] a_law_shuffled d_law_shuffled
  a_law_name : Addr
  d_law_name : FuncData
  D_law_name : DefAt K mg "_law_name" s_law_name ["pen", "index"] a_law_name d_law_name
  a_law_names : Addr
  d_law_names : FuncData
  D_law_names : DefAt K mg "_law_names" s_law_names ["pen", "many"] a_law_names d_law_names
  a_law_is_name : Addr
  d_law_is_name : FuncData
  D_law_is_name : DefAt K mg "_law_is_name" s_law_is_name ["value"] a_law_is_name d_law_is_name
  a_law_is_figures : Addr
  d_law_is_figures : FuncData
  D_law_is_figures : DefAt K mg "_law_is_figures" s_law_is_figures ["word"] a_law_is_figures d_law_is_figures
  a_law_calls : Addr
  d_law_calls : FuncData
  D_law_calls : DefAt K mg "_law_calls" s_law_calls ["pen", "many"] a_law_calls d_law_calls
  a_law_why : Addr
  d_law_why : FuncData
  D_law_why : DefAt K mg "_law_why" s_law_why ["call"] a_law_why d_law_why
  a_law_some_plain : Addr
  d_law_some_plain : FuncData
  D_law_some_plain : DefAt K mg "_law_some_plain" s_law_some_plain ["pen", "calls"] a_law_some_plain d_law_some_plain
  a_law_some_duty : Addr
  d_law_some_duty : FuncData
  D_law_some_duty : DefAt K mg "_law_some_duty" s_law_some_duty ["pen", "calls", "many", "deep"] a_law_some_duty d_law_some_duty
  a_law_plain_names : Addr
  d_law_plain_names : FuncData
  D_law_plain_names : DefAt K mg "_law_plain_names" s_law_plain_names ["duty"] a_law_plain_names d_law_plain_names
  a_law_duty_words : Addr
  d_law_duty_words : FuncData
  D_law_duty_words : DefAt K mg "_law_duty_words" s_law_duty_words ["duty"] a_law_duty_words d_law_duty_words
  a_law_bent_words : Addr
  d_law_bent_words : FuncData
  D_law_bent_words : DefAt K mg "_law_bent_words" s_law_bent_words ["pen", "words", "more"] a_law_bent_words d_law_bent_words
  a_law_read_plain : Addr
  d_law_read_plain : FuncData
  D_law_read_plain : DefAt K mg "_law_read_plain" s_law_read_plain ["words", "at"] a_law_read_plain d_law_read_plain
  a_law_due : Addr
  d_law_due : FuncData
  D_law_due : DefAt K mg "_law_due" s_law_due ["text"] a_law_due d_law_due
  a_law_is_read : Addr
  d_law_is_read : FuncData
  D_law_is_read : DefAt K mg "_law_is_read" s_law_is_read ["text"] a_law_is_read d_law_is_read
  a_law : Addr
  d_law : FuncData
  D_law : DefAt K mg "law" s_law ["script"] a_law d_law
  t_FIGURES : Tok
  g_FIGURES : mg "FIGURES" = some (.str "0123456789" t_FIGURES)
  t_END : Tok
  g_END : mg "END" = some (.str ";" t_END)
  t_LETTERS : Tok
  g_LETTERS : mg "LETTERS" = some (.str "abcdefghijklmnopqrstuvwxyz" t_LETTERS)
  t_MOST_PLAIN : Tok
  g_MOST_PLAIN : mg "MOST_PLAIN" = some (.int 4 t_MOST_PLAIN)
  t_MOST_AROUND : Tok
  g_MOST_AROUND : mg "MOST_AROUND" = some (.int 4 t_MOST_AROUND)
  a_LEAST_CALLS : Addr
  g_LEAST_CALLS : mg "LEAST_CALLS" = some (.ref a_LEAST_CALLS)
  es_LEAST_CALLS : Array DictEntry
  n_LEAST_CALLS : Nat
  kd_LEAST_CALLS : KDict K w a_LEAST_CALLS es_LEAST_CALLS n_LEAST_CALLS
  in_LEAST_CALLS : ∀ z : Str, ∃ r, PySem.W.nsIn K a_LEAST_CALLS z = some r ∧ r.isSome = decide (z ∈ (["call", "row", "steps", "answer", "never"] : List Str))
  at_LEAST_CALLS : ∀ (z : Str) (i : Int), (z, i) ∈ ([("call", 1), ("row", 2), ("steps", 2), ("answer", 2), ("never", 1)] : List (Str × Int)) → KDct K w a_LEAST_CALLS z (.int i)
  ke_LEAST_CALLS : KeyL es_LEAST_CALLS.toList ["call", "row", "steps", "answer", "never"]
  a_MOST_CALLS : Addr
  g_MOST_CALLS : mg "MOST_CALLS" = some (.ref a_MOST_CALLS)
  es_MOST_CALLS : Array DictEntry
  n_MOST_CALLS : Nat
  kd_MOST_CALLS : KDict K w a_MOST_CALLS es_MOST_CALLS n_MOST_CALLS
  in_MOST_CALLS : ∀ z : Str, ∃ r, PySem.W.nsIn K a_MOST_CALLS z = some r ∧ r.isSome = decide (z ∈ (["call", "row", "steps", "answer", "never"] : List Str))
  at_MOST_CALLS : ∀ (z : Str) (i : Int), (z, i) ∈ ([("call", 1), ("row", 4), ("steps", 4), ("answer", 2), ("never", 4)] : List (Str × Int)) → KDct K w a_MOST_CALLS z (.int i)
  ke_MOST_CALLS : KeyL es_MOST_CALLS.toList ["call", "row", "steps", "answer", "never"]
  a_JOINTS : Addr
  g_JOINTS : mg "JOINTS" = some (.ref a_JOINTS)
  sq_JOINTS : ∀ H, SqT K H a_JOINTS [.str "all", .str "any"]
  b_all : mg "all" = none
  b_range : mg "range" = none
  b_tuple : mg "tuple" = none
  b_isinstance : mg "isinstance" = none
  b_str : mg "str" = none
  b_int : mg "int" = none
  b_list : mg "list" = none
  b_len : mg "len" = none
  b_sorted : mg "sorted" = none
  b_dict : mg "dict" = none
  b_repr : mg "repr" = none
theorem sc_BadText___init__ : FnScope ["self", "line", "word"] ["self", "line", "word"] (defScope s_BadText___init__) := ⟨rfl, rfl, rfl, by decide +kernel, rfl, by decide +kernel, by decide +kernel⟩
theorem sc_BadNumber___init__ : FnScope ["self", "what", "number"] ["self", "what", "number"] (defScope s_BadNumber___init__) := ⟨rfl, rfl, rfl, by decide +kernel, rfl, by decide +kernel, by decide +kernel⟩
theorem sc_BadRow___init__ : FnScope ["self", "what", "row"] ["self", "what", "row"] (defScope s_BadRow___init__) := ⟨rfl, rfl, rfl, by decide +kernel, rfl, by decide +kernel, by decide +kernel⟩
theorem sc_NoName___init__ : FnScope ["self", "name"] ["self", "name"] (defScope s_NoName___init__) := ⟨rfl, rfl, rfl, by decide +kernel, rfl, by decide +kernel, by decide +kernel⟩
theorem sc_Unlike___init__ : FnScope ["self", "what"] ["self", "what"] (defScope s_Unlike___init__) := ⟨rfl, rfl, rfl, by decide +kernel, rfl, by decide +kernel, by decide +kernel⟩
theorem sc_TooMany___init__ : FnScope ["self", "what", "many", "limit"] ["self", "what", "many", "limit"] (defScope s_TooMany___init__) := ⟨rfl, rfl, rfl, by decide +kernel, rfl, by decide +kernel, by decide +kernel⟩
theorem sc_is_numeral : FnScope ["word", "sign"] ["word"] (defScope s_is_numeral) := ⟨rfl, rfl, rfl, by decide +kernel, rfl, by decide +kernel, by decide +kernel⟩
theorem sc_rows_of : FnScope ["text", "line"] ["text"] (defScope s_rows_of) := ⟨rfl, rfl, rfl, by decide +kernel, rfl, by decide +kernel, by decide +kernel⟩
theorem sc_Cursor___init__ : FnScope ["self", "rows"] ["self", "rows"] (defScope s_Cursor___init__) := ⟨rfl, rfl, rfl, by decide +kernel, rfl, by decide +kernel, by decide +kernel⟩
theorem sc_Cursor_seen : FnScope ["self", "row"] ["self"] (defScope s_Cursor_seen) := ⟨rfl, rfl, rfl, by decide +kernel, rfl, by decide +kernel, by decide +kernel⟩
theorem sc_Cursor_refuse : FnScope ["self"] ["self"] (defScope s_Cursor_refuse) := ⟨rfl, rfl, rfl, by decide +kernel, rfl, by decide +kernel, by decide +kernel⟩
theorem sc_Cursor_take : FnScope ["self", "is_right", "word"] ["self", "is_right"] (defScope s_Cursor_take) := ⟨rfl, rfl, rfl, by decide +kernel, rfl, by decide +kernel, by decide +kernel⟩
theorem sc_Cursor_need : FnScope ["self", "some"] ["self", "some"] (defScope s_Cursor_need) := ⟨rfl, rfl, rfl, by decide +kernel, rfl, by decide +kernel, by decide +kernel⟩
theorem sc_Cursor_need_number : FnScope ["self", "least", "most"] ["self", "least", "most"] (defScope s_Cursor_need_number) := ⟨rfl, rfl, rfl, by decide +kernel, rfl, by decide +kernel, by decide +kernel⟩
theorem sc_Cursor_need_end : FnScope ["self"] ["self"] (defScope s_Cursor_need_end) := ⟨rfl, rfl, rfl, by decide +kernel, rfl, by decide +kernel, by decide +kernel⟩
theorem sc_Cursor_is_last : FnScope ["self"] ["self"] (defScope s_Cursor_is_last) := ⟨rfl, rfl, rfl, by decide +kernel, rfl, by decide +kernel, by decide +kernel⟩
theorem sc_Cursor_goes_on : FnScope ["self", "may_end", "may_follow"] ["self", "may_end", "may_follow"] (defScope s_Cursor_goes_on) := ⟨rfl, rfl, rfl, by decide +kernel, rfl, by decide +kernel, by decide +kernel⟩
theorem sc_is_name : FnScope ["value", "sign"] ["value"] (defScope s_is_name) := ⟨rfl, rfl, rfl, by decide +kernel, rfl, by decide +kernel, by decide +kernel⟩
theorem sc_DutyReader___init__ : FnScope ["self", "cursor", "is_let"] ["self", "cursor", "is_let"] (defScope s_DutyReader___init__) := ⟨rfl, rfl, rfl, by decide +kernel, rfl, by decide +kernel, by decide +kernel⟩
theorem sc_DutyReader_kinds : FnScope ["self", "has_room"] ["self"] (defScope s_DutyReader_kinds) := ⟨rfl, rfl, rfl, by decide +kernel, rfl, by decide +kernel, by decide +kernel⟩
theorem sc_DutyReader_names : FnScope ["self", "kind", "found", "is_unlike"] ["self", "kind"] (defScope s_DutyReader_names) := ⟨rfl, rfl, rfl, by decide +kernel, rfl, by decide +kernel, by decide +kernel⟩
theorem sc_DutyReader_plain : FnScope ["self", "kind", "names"] ["self", "kind"] (defScope s_DutyReader_plain) := ⟨rfl, rfl, rfl, by decide +kernel, rfl, by decide +kernel, by decide +kernel⟩
theorem sc_DutyReader_begin : FnScope ["self", "kind", "many"] ["self"] (defScope s_DutyReader_begin) := ⟨rfl, rfl, rfl, by decide +kernel, rfl, by decide +kernel, by decide +kernel⟩
theorem sc_DutyReader_end : FnScope ["self", "duty", "kind", "many", "found"] ["self", "duty"] (defScope s_DutyReader_end) := ⟨rfl, rfl, rfl, by decide +kernel, rfl, by decide +kernel, by decide +kernel⟩
theorem sc_DutyReader_duty : FnScope ["self", "told"] ["self"] (defScope s_DutyReader_duty) := ⟨rfl, rfl, rfl, by decide +kernel, rfl, by decide +kernel, by decide +kernel⟩
theorem sc_duty_read : FnScope ["text", "cursor", "told"] ["text"] (defScope s_duty_read) := ⟨rfl, rfl, rfl, by decide +kernel, rfl, by decide +kernel, by decide +kernel⟩
theorem sc_law_pen : FnScope ["script", "fold", "cell"] ["script"] (defScope s_law_pen) := ⟨rfl, rfl, rfl, by decide +kernel, rfl, by decide +kernel, by decide +kernel⟩
theorem sc_law_draw : FnScope ["pen", "many", "cell", "digit", "blend"] ["pen", "many"] (defScope s_law_draw) := ⟨rfl, rfl, rfl, by decide +kernel, rfl, by decide +kernel, by decide +kernel⟩
theorem sc_law_pick : FnScope ["pen", "some"] ["pen", "some"] (defScope s_law_pick) := ⟨rfl, rfl, rfl, by decide +kernel, rfl, by decide +kernel, by decide +kernel⟩
theorem sc_law_shuffled : FnScope ["pen", "some", "left", "found", "lap"] ["pen", "some"] (defScope s_law_shuffled) := ⟨rfl, rfl, rfl, by decide +kernel, rfl, by decide +kernel, by decide +kernel⟩
theorem sc_law_name : FnScope ["pen", "index", "word", "spot", "place"] ["pen", "index"] (defScope s_law_name) := ⟨rfl, rfl, rfl, by decide +kernel, rfl, by decide +kernel, by decide +kernel⟩
theorem sc_law_names : FnScope ["pen", "many", "index"] ["pen", "many"] (defScope s_law_names) := ⟨rfl, rfl, rfl, by decide +kernel, rfl, by decide +kernel, by decide +kernel⟩
theorem sc_law_is_name : FnScope ["value", "sign"] ["value"] (defScope s_law_is_name) := ⟨rfl, rfl, rfl, by decide +kernel, rfl, by decide +kernel, by decide +kernel⟩
theorem sc_law_is_figures : FnScope ["word", "sign"] ["word"] (defScope s_law_is_figures) := ⟨rfl, rfl, rfl, by decide +kernel, rfl, by decide +kernel, by decide +kernel⟩
theorem sc_law_calls : FnScope ["pen", "many"] ["pen", "many"] (defScope s_law_calls) := ⟨rfl, rfl, rfl, by decide +kernel, rfl, by decide +kernel, by decide +kernel⟩
theorem sc_law_why : FnScope ["call", "found", "error"] ["call"] (defScope s_law_why) := ⟨rfl, rfl, rfl, by decide +kernel, rfl, by decide +kernel, by decide +kernel⟩
theorem sc_law_some_plain : FnScope ["pen", "calls", "kind", "spot"] ["pen", "calls"] (defScope s_law_some_plain) := ⟨rfl, rfl, rfl, by decide +kernel, rfl, by decide +kernel, by decide +kernel⟩
theorem sc_law_some_duty : FnScope ["pen", "calls", "many", "deep", "first", "parts"] ["pen", "calls", "many", "deep"] (defScope s_law_some_duty) := ⟨rfl, rfl, rfl, by decide +kernel, rfl, by decide +kernel, by decide +kernel⟩
theorem sc_law_plain_names : FnScope ["duty"] ["duty"] (defScope s_law_plain_names) := ⟨rfl, rfl, rfl, by decide +kernel, rfl, by decide +kernel, by decide +kernel⟩
theorem sc_law_duty_words : FnScope ["duty", "found", "part"] ["duty"] (defScope s_law_duty_words) := ⟨rfl, rfl, rfl, by decide +kernel, rfl, by decide +kernel, by decide +kernel⟩
theorem sc_law_bent_words : FnScope ["pen", "words", "more", "at", "way", "other"] ["pen", "words", "more"] (defScope s_law_bent_words) := ⟨rfl, rfl, rfl, by decide +kernel, rfl, by decide +kernel, by decide +kernel⟩
theorem sc_law_read_plain : FnScope ["words", "at", "kind", "names", "least", "most", "lap", "here", "told"] ["words", "at"] (defScope s_law_read_plain) := ⟨rfl, rfl, rfl, by decide +kernel, rfl, by decide +kernel, by decide +kernel⟩
theorem sc_law_due : FnScope ["text", "lines", "line", "words", "frames", "read", "due", "at", "told", "lap", "here", "has_room", "wrong", "kind", "many", "found"] ["text"] (defScope s_law_due) := ⟨rfl, rfl, rfl, by decide +kernel, rfl, by decide +kernel, by decide +kernel⟩
theorem sc_law_is_read : FnScope ["text", "told", "found"] ["text"] (defScope s_law_is_read) := ⟨rfl, rfl, rfl, by decide +kernel, rfl, by decide +kernel, by decide +kernel⟩
theorem sc_law : FnScope ["script", "pen", "lap", "calls", "duty", "words", "more", "turn", "bent", "change", "text", "spot", "rows", "kind", "deep"] ["script"] (defScope s_law) := ⟨rfl, rfl, rfl, by decide +kernel, rfl, by decide +kernel, by decide +kernel⟩
end Ag

set_option Elab.async false
set_option linter.all false
set_option maxRecDepth 100000
set_option maxHeartbeats 1000000
namespace Ag
open PySem PySem.Spec PyProof.Rows L2
theorem rd_but {H : Hp} {p : Addr} {o : HO} : But p H (upd H p o) := fun a u n h => by rw [upd_ne n]; exact h
theorem rd_upd {H : Hp} {p c : Addr} {o : HO} {xs : List V} {kvs : List (Key × V)} (hp : H p = some (.dK kvs)) (h : Rd H c (.lst xs)) : Rd (upd H p o) c (.lst xs) := by
  rcases h with h | ⟨u, h⟩
  · exact .inl (by rw [upd_ne (ne_of h hp (fun z => nomatch z))]; exact h)
  · exact .inr ⟨u, by rw [upd_ne (ne_of h hp (fun z => nomatch z))]; exact h⟩
section
variable {P : Program} {w : World} {K : PySem.W.Frag} {mg : Str → Option Value} {base : Heap} (T : Txt w K mg)
theorem ok_draw : FnOk P w K mg base CX0 1 T.a_law_draw T.d_law_draw ["pen", "many"] spDraw := by
  refine T.D_law_draw.fn.ok sc_law_draw (fun vs H Q E h => ?_) (fun cdv A outer s H vs Q E hr h => ?_)
  · obtain ⟨p, c, many, n, rfl, _⟩ := h; rfl
  · obtain ⟨p, c, many, n, rfl, hP, m0, m1, n1, k⟩ := h
    refine ⟨_, (pss_cons (ps_dput (hu_of hr) (pv 0) pe_str (pe_op op_add (pe_dget (hu_of hr) (pv 0) pe_str (fun _ _ => rfl)) pe_int) rfl)
      (C8.pss_cut (ps_if (PW.pt (pw_and (pt_cmpR op_eq (pe_dget (hu_of hr) (pv 0) pe_str (fun _ _ => rfl)) pe_int (nomark _)) (pw_and1 (pt_cmpR op_lt (pe_dget (hu_of hr) (pv 0) pe_str (fun _ _ => rfl)) (pe_callB call_len (by rfl) T.b_len bt_len (pa_cons (pe_dget (hu_of hr) (pv 0) pe_str (fun _ _ => rfl)) pa_nil)) (nomark _))))) (pss_cons (ps_set (i := 2) sc_law_draw.nd rfl (by first | exact Or.inl rfl | exact Or.inr rfl) (pe_ix ix_seq (pe_dget (hu_of hr) (pv 0) pe_str (fun _ _ => rfl)) (pe_dget (hu_of hr) (pv 0) pe_str (fun _ _ => rfl)) (fun _ _ => rfl)))
      (pss_cons (ps_dput (hu_of hr) (pv 0) pe_str (pe_op op_add (pe_dget (hu_of hr) (pv 0) pe_str (fun _ _ => rfl)) pe_int) rfl)
      (pss_one (ps_if (pt_cmpR op_ge (pv 2) (pe_op op_pow pe_int pe_int) (nomark _)) (pss_one (ps_dput (hu_of hr) (pv 0) pe_str (pe_op op_sub (pv 2) (pe_op op_pow pe_int pe_int)) rfl)) (pss_one (ps_dput (hu_of hr) (pv 0) pe_str (pe_op op_mod (pe_callTy call_int1 (by rfl) T.b_int bt_int (pa_cons (pe_op op_add (pe_op op_mul (pe_dget (hu_of hr) (pv 0) pe_str (fun _ _ => rfl)) pe_int) (pv 2)) pa_nil)) pe_int) rfl)))))) pss_nil)
      (pss_cons (ps_if (pt_cmpR op_gt (pe_dget (hu_of hr) (pv 0) pe_str (fun _ _ => rfl)) pe_int (nomark _)) (pss_cons (ps_set (i := 3) sc_law_draw.nd rfl (by first | exact Or.inl rfl | exact Or.inr rfl) (pe_op op_mod (pe_callTy call_int1 (by rfl) T.b_int bt_int (pa_cons (pe_dget (hu_of hr) (pv 0) pe_str (fun _ _ => rfl)) pa_nil)) (pv 1)))
      (pss_cons (ps_dput (hu_of hr) (pv 0) pe_str (pe_op op_fdiv (pe_dget (hu_of hr) (pv 0) pe_str (fun _ _ => rfl)) (pv 1)) rfl)
      (pss_one (ps_ret (pv 3))))) pss_nil)
      (pss_cons (ps_set (i := 4) sc_law_draw.nd rfl (by first | exact Or.inl rfl | exact Or.inr rfl) (pe_op op_add (pe_op op_add (pe_dget (hu_of hr) (pv 0) pe_str (fun _ _ => rfl)) (pe_op op_mul (pe_dget (hu_of hr) (pv 0) pe_str (fun _ _ => rfl)) pe_int)) pe_int))
      (pss_one (ps_ret (pe_op op_mod (pe_op op_fdiv (pe_callTy call_int1 (by rfl) T.b_int bt_int (pa_cons (pe_op op_mod (pe_op op_pow (pv 4) pe_int) pe_int) pa_nil)) pe_int) (pv 1)))))))), ?_⟩
    obtain ⟨cells, a, d, cn, f, hp, hc, a0, d0, c0, cnn, f0, f1⟩ := hP
    -- pen["count"] = pen["count"] + 1
    refine ⟨_, rfl, p, _, rfl, pg_cnt hp, _, _, rfl, rfl, _, rfl, p, _, rfl, pp_cnt hp, ?_⟩
    have b1 : But p H (upd H p (.dK (penKV c a d (cn + 1) f))) := rd_but
    have c1 := rd_upd (o := .dK (penKV c a d (cn + 1) f)) hp hc
    have p1 : (upd H p (.dK (penKV c a d (cn + 1) f))) p = some (.dK (penKV c a d (cn + 1) f)) := upd_same
    generalize upd H p (.dK (penKV c a d (cn + 1) f)) = H1 at b1 c1 p1
    refine ⟨fun σ' H' => ∃ (a' d' f' : Int) (o : Option V), σ' = [some (.ref p), some (.int many), o, none, none] ∧ 0 ≤ a' ∧ 0 ≤ d' ∧ 0 ≤ f' ∧ f' < 2147483648 ∧ H' p = some (.dK (penKV c a' d' (cn + 1) f')) ∧ Rd H' c (.lst (cells.map V.int)) ∧ But p H H', ?_, ?_⟩
    · -- if pen["digits"] == 0 and pen["at"] < len(pen["cells"]):
      refine ⟨_, rfl, p, _, rfl, pg_dig p1, rfl, _, rfl, ?_⟩
      refine ite2 (fun hz => ?_) (fun hz => ?_)
      · refine ⟨_, rfl, p, _, rfl, pg_at p1, _, rfl, p, _, rfl, pg_cells p1, _, _, rfl, .inl ⟨_, .inl c1, rfl⟩, _, _, rfl, rfl, _, rfl, ?_⟩
        refine ite2 (fun hl => ?_) (fun hl => ?_)
        · -- the next cell
          have hl := of_decide_eq_true hl
          obtain ⟨x, hx⟩ : ∃ x, cells[a.toNat]? = some x := ⟨_, List.getElem?_eq_getElem (by rw [List.length_map] at hl; omega)⟩
          have hx' : (cells.map V.int)[a.toNat]? = some (V.int x) := by rw [List.getElem?_map, hx]; rfl
          have ea : ((a.toNat : Nat) : Int) = a := by omega
          refine ⟨_, rfl, p, _, rfl, pg_cells p1, _, rfl, p, _, rfl, pg_at p1, .inl ⟨_, _, _, _, rfl, rfl, .inl c1, by rw [← ea]; exact atI_nat hx', ?_⟩⟩
          refine ⟨_, rfl, p, _, rfl, pg_at p1, _, _, rfl, rfl, _, rfl, p, _, rfl, pp_at p1, ?_⟩
          have b2 : But p H (upd H1 p (.dK (penKV c (a + 1) d (cn + 1) f))) := b1.trans rd_but
          have c2 := rd_upd (o := .dK (penKV c (a + 1) d (cn + 1) f)) p1 c1
          have p2 : (upd H1 p (.dK (penKV c (a + 1) d (cn + 1) f))) p = some (.dK (penKV c (a + 1) d (cn + 1) f)) := upd_same
          generalize upd H1 p (.dK (penKV c (a + 1) d (cn + 1) f)) = H2 at b2 c2 p2
          refine ⟨_, rfl, _, _, rfl, rfl, ⟨by decide, by decide, by decide⟩, _, _, rfl, rfl, _, rfl, ?_⟩
          refine ite2 (fun hg => ?_) (fun hg => ?_)
          · refine ⟨_, rfl, _, _, rfl, rfl, ⟨by decide, by decide, by decide⟩, _, _, rfl, rfl, _, rfl, p, _, rfl, pp_dig p2, ?_⟩
            exact ⟨a + 1, _, f, _, rfl, by omega, by have := of_decide_eq_true hg; omega, f0, f1, upd_same, rd_upd p2 c2, b2.trans rd_but⟩
          · refine ⟨_, rfl, p, _, rfl, pg_fold p2, _, _, rfl, rfl, .inl ⟨by omega, by omega⟩, _, rfl, _, _, rfl, rfl, .inl ⟨_, rfl, _, _, rfl, rfl, (by show (0 : Int) < 2147483269; decide), _, rfl, p, _, rfl, pp_fold p2, ?_⟩⟩
            exact ⟨a + 1, d, _, _, rfl, by omega, d0, Int.emod_nonneg _ (by decide), Int.lt_trans (Int.emod_lt_of_pos _ (by decide)) (by decide), upd_same, rd_upd p2 c2, b2.trans rd_but⟩
        · exact ⟨a, d, f, _, rfl, a0, d0, f0, f1, p1, c1, b1⟩
      · exact ⟨a, d, f, _, rfl, a0, d0, f0, f1, p1, c1, b1⟩
    · rintro σ' H' ⟨a', d', f', o, rfl, a0, d0, f0, f1, p1, c1, b1⟩
      refine ⟨_, rfl, p, _, rfl, pg_dig p1, _, _, rfl, rfl, _, rfl, ?_⟩
      refine ite2 (fun hg => ?_) (fun hg => ?_)
      · -- a digit
        refine ⟨_, rfl, p, _, rfl, pg_dig p1, .inl ⟨_, rfl, _, rfl, _, _, rfl, rfl, m0, ?_⟩⟩
        refine ⟨_, rfl, p, _, rfl, pg_dig p1, _, rfl, _, _, rfl, rfl, ⟨m0, by omega⟩, _, rfl, p, _, rfl, pp_dig p1, ?_⟩
        refine ⟨_, rfl, ?_⟩
        exact k _ _ (Int.emod_nonneg _ (by omega)) (Int.emod_lt_of_pos _ m0) (b1.trans rd_but) ⟨cells, a', _, cn + 1, f', upd_same, rd_upd p1 c1, a0, Int.ediv_nonneg d0 (by omega), by omega, by omega, f0, f1⟩
      · -- the mix
        refine ⟨_, rfl, p, _, rfl, pg_fold p1, _, rfl, p, _, rfl, pg_cnt p1, _, _, rfl, rfl, .inr ⟨by decide, by decide⟩, _, _, rfl, rfl, _, _, rfl, rfl, ?_⟩
        refine ⟨_, rfl, _, _, rfl, rfl, ⟨by decide, by decide, by omega⟩, _, _, rfl, rfl, (by show (0 : Int) < 2305843009213693951; decide), .inl ⟨_, rfl, _, _, rfl, rfl, ⟨by decide, by decide⟩, _, rfl, _, _, rfl, rfl, m0, ?_⟩⟩
        exact k _ _ (Int.emod_nonneg _ (by omega)) (Int.emod_lt_of_pos _ m0) b1 ⟨cells, a', d', cn + 1, f', p1, c1, a0, d0, by omega, by omega, f0, f1⟩
end
end Ag

set_option Elab.async false
set_option linter.all false
set_option maxRecDepth 100000
set_option maxHeartbeats 1000000
set_option exponentiation.threshold 2000
namespace Ag
open PySem PySem.Spec PyProof.Rows L2
theorem atI_int {α : Type} {xs : List α} {i : Int} {v : α} (h0 : 0 ≤ i) (h : xs[i.toNat]? = some v) : atI xs i = some v := by
  obtain ⟨k, rfl⟩ : ∃ k : Nat, i = k := ⟨i.toNat, by omega⟩
  exact atI_nat h

/-! ### names, as texts -/
abbrev S (l : List Nat) : Str := SX.S l
def Digs (i : Nat) : List Nat := (Str.ofString (toString (i : Int))).cps.toList
theorem digs_ok : ∀ i, i < 32 → 1 ≤ (Digs i).length ∧ (Digs i).length ≤ 2 ∧ ∀ c ∈ Digs i, 48 ≤ c ∧ c ≤ 57 := by decide +kernel
theorem digs_inj : ∀ i, i < 32 → ∀ j, j < 32 → Digs i = Digs j → i = j := by decide +kernel
def Nm (i : Nat) (s : Str) : Prop := ∃ a b : List Nat, s = S (a ++ Digs i ++ b) ∧ 1 ≤ a.length ∧ a.length + b.length ≤ 8 ∧ ∀ c ∈ a ++ b, 97 ≤ c ∧ c ≤ 122
theorem nm_filter {i : Nat} {a b : List Nat} (hi : i < 32) (h : ∀ c ∈ a ++ b, 97 ≤ c ∧ c ≤ 122) : (a ++ Digs i ++ b).filter (fun c => decide (c ≤ 57)) = Digs i := by
  have ha : a.filter (fun c => decide (c ≤ 57)) = [] := List.filter_eq_nil_iff.mpr fun c hc => by have := h c (List.mem_append_left _ hc); simp; omega
  have hb : b.filter (fun c => decide (c ≤ 57)) = [] := List.filter_eq_nil_iff.mpr fun c hc => by have := h c (List.mem_append_right _ hc); simp; omega
  have hd : (Digs i).filter (fun c => decide (c ≤ 57)) = Digs i := List.filter_eq_self.mpr fun c hc => by have := (digs_ok i hi).2.2 c hc; simp; omega
  rw [List.filter_append, List.filter_append, ha, hb, hd]; simp
theorem nm_inj {i j : Nat} {s : Str} (hi : i < 32) (hj : j < 32) (h1 : Nm i s) (h2 : Nm j s) : i = j := by
  obtain ⟨a, b, e1, _, _, h⟩ := h1
  obtain ⟨a', b', e2, _, _, h'⟩ := h2
  have e : a ++ Digs i ++ b = a' ++ Digs j ++ b' := SX.S_inj (e1.symm.trans e2)
  have q := congrArg (List.filter (fun c => decide (c ≤ 57))) e
  rw [nm_filter hi h, nm_filter hj h'] at q
  exact digs_inj i hi j hj q
/-- the names of the indices below m, in some order -/
def Nms (m : Nat) (ns : List Str) : Prop := ∃ ms : List Str, ms.length = m ∧ (∀ j s, ms[j]? = some s → Nm j s) ∧ ns.Perm ms
theorem nms_nodup {m : Nat} {ns : List Str} (hm : m ≤ 32) (h : Nms m ns) : ns.Nodup := by
  obtain ⟨ms, hl, hn, hp⟩ := h
  refine hp.nodup_iff.mpr (List.nodup_iff_pairwise_ne.mpr (List.pairwise_iff_getElem.mpr fun i j hi hj hij e => ?_))
  have h1 := hn i _ (List.getElem?_eq_getElem hi)
  have h2 := hn j _ (List.getElem?_eq_getElem hj)
  rw [e] at h1
  have := nm_inj (by omega) (by omega) h1 h2
  omega
theorem nms_mem {m : Nat} {ns : List Str} (h : Nms m ns) {s : Str} (hs : s ∈ ns) : ∃ j, j < m ∧ Nm j s := by
  obtain ⟨ms, hl, hn, hp⟩ := h
  obtain ⟨j, hj, e⟩ := List.getElem_of_mem (hp.mem_iff.mp hs)
  exact ⟨j, by omega, hn j s (by rw [List.getElem?_eq_getElem hj, e])⟩
theorem nms_len {m : Nat} {ns : List Str} (h : Nms m ns) : ns.length = m := by
  obtain ⟨ms, hl, hn, hp⟩ := h; rw [hp.length_eq, hl]
theorem cut_take (l : List Nat) (k : Nat) (h : k ≤ l.length) : cutS (S l) none (some (k : Int)) = S (l.take k) := by
  unfold cutS
  rw [HT.sIx_none, HT.sIx_nat, SX.S_len, Nat.min_eq_left h]
  simp [SX.S]
theorem cut_drop (l : List Nat) (k : Nat) (h : k ≤ l.length) : cutS (S l) (some (k : Int)) none = S (l.drop k) := by
  unfold cutS
  rw [HT.sIx_none, HT.sIx_nat, SX.S_len, Nat.min_eq_left h]
  have e : (l.drop k).take (l.length - k) = l.drop k := List.take_of_length_le (by rw [List.length_drop]; exact Nat.le_refl _)
  simp [SX.S, e]
theorem cut_takeI (l : List Nat) (k : Int) (h0 : 0 ≤ k) (h : k ≤ l.length) : cutS (S l) none (some k) = S (l.take k.toNat) := by
  obtain ⟨j, rfl⟩ : ∃ j : Nat, k = j := ⟨k.toNat, by omega⟩
  exact cut_take l j (by omega)
theorem cut_dropI (l : List Nat) (k : Int) (h0 : 0 ≤ k) (h : k ≤ l.length) : cutS (S l) (some k) none = S (l.drop k.toNat) := by
  obtain ⟨j, rfl⟩ : ∃ j : Nat, k = j := ⟨k.toNat, by omega⟩
  exact cut_drop l j (by omega)
theorem letters_at : ∀ d, d < 26 → ("abcdefghijklmnopqrstuvwxyz" : Str).cps.toList[d]? = some (97 + d) := by decide +kernel
theorem S_one (c : Nat) : (⟨#[c]⟩ : Str) = S [c] := rfl
theorem letters_short : ("abcdefghijklmnopqrstuvwxyz" : Str).length ≤ sizeLine := by decide +kernel

/-! ### promises -/
def spPick (K : PySem.W.Frag) : Sp := fun vs H Q _ => ∃ (p c a : Addr) (xs : List V) (n : Nat), vs = [.ref p, .ref a] ∧ Pen p c n H ∧ (SqL K H a xs ∨ SqT K H a xs) ∧ 0 < xs.length ∧ xs.length < 100000 ∧ n < 1000000000000 ∧
  ∀ (i : Nat) v H', xs[i]? = some v → But p H H' → Pen p c (n + 1) H' → Q v H'
def spShuf (K : PySem.W.Frag) : Sp := fun vs H Q _ => ∃ (p c a : Addr) (xs : List V) (n : Nat), vs = [.ref p, .ref a] ∧ Pen p c n H ∧ (SqL K H a xs ∨ SqT K H a xs) ∧ xs.length < 100000 ∧ n + 100000 < 1000000000000 ∧
  ∀ (l : Addr) (ys : List V) H', ys.Perm xs → H l = none → H' l = some (.lst ys) → But p H H' → Pen p c (n + xs.length) H' → Q (.ref l) H'
def spName : Sp := fun vs H Q _ => ∃ (p c : Addr) (i n : Nat), vs = [.ref p, .int (i : Int)] ∧ Pen p c n H ∧ i < 32 ∧ n + 100000 < 1000000000000 ∧
  ∀ (s : Str) H', Nm i s → But p H H' → Pen p c (n + 10) H' → Q (.str s) H'
def spNames (K : PySem.W.Frag) : Sp := fun vs H Q _ => ∃ (p c : Addr) (m n : Nat), vs = [.ref p, .int (m : Int)] ∧ Pen p c n H ∧ m ≤ 31 ∧ n + 200000 < 1000000000000 ∧
  ∀ (l : Addr) (ns : List Str) H', Nms m ns → H l = none → H' l = some (.lst (ns.map V.str)) → But p H H' → Pen p c (n + 400) H' → Q (.ref l) H'
/-- tuple(sorted(names)) -/
def spCalls (K : PySem.W.Frag) : Sp := fun vs H Q _ => ∃ (p c : Addr) (m n : Nat), vs = [.ref p, .int (m : Int)] ∧ Pen p c n H ∧ m ≤ 31 ∧ n + 200000 < 1000000000000 ∧
  ∀ (l : Addr) (ns : List Str) H', Nms m ns → sortedS ns = true → H' l = some (.tup (ns.map V.str)) → But p H H' → Pen p c (n + 400) H' → Q (.ref l) H'

theorem seq_at {n : Nat} {i : Int} (h0 : 0 ≤ i) (h1 : i < n) : seqIndex? i n = some i.toNat := (ixN_seq (by unfold ixN; rw [if_pos h0, if_pos h1])).1

section
variable {P : Program} {w : World} {K : PySem.W.Frag} {mg : Str → Option Value} {base : Heap} (T : Txt w K mg)
theorem ok_pick : FnOk P w K mg base CX0 2 T.a_law_pick T.d_law_pick ["pen", "some"] (spPick K) := by
  have G_law_draw := ok_draw (P := P) (base := base) T
  refine T.D_law_pick.fn.ok sc_law_pick (fun vs H Q E h => ?_) (fun cdv A outer s H vs Q E hr h => ?_)
  · obtain ⟨p, c, a, xs, n, rfl, _⟩ := h; rfl
  · obtain ⟨p, c, a, xs, n, rfl, hP, hs, x0, x1, n1, k⟩ := h
    refine ⟨_, (pss_one (ps_ret (pe_ix ix_seq (pv 1) (pe_call (G_law_draw) (hr.mono (by omega)) (by rfl) T.D_law_draw.mg T.D_law_draw.fn.kp T.D_law_draw.bd .nil pass0 (pa_cons (pv 0) (pa_cons (pe_callB call_len (by rfl) T.b_len bt_len (pa_cons (pv 1) pa_nil)) pa_nil))) (fun _ _ => rfl)))), ?_⟩
    have hl : LenV K (.ref a) H xs.length := hs.elim (fun z => .inl ⟨_, z, rfl⟩) fun z => .inr ⟨_, z, rfl⟩
    refine ⟨_, rfl, _, rfl, _, rfl, _, _, rfl, hl, p, c, _, n, rfl, hP, by omega, by omega, n1, fun d H1 d0 d1 b1 P1 => ?_⟩
    have hd : d.toNat < xs.length := by omega
    have ed : ((d.toNat : Nat) : Int) = d := by omega
    have hx : xs[d.toNat]? = some xs[d.toNat] := List.getElem?_eq_getElem hd
    rcases hs with hs | hs
    · exact .inl ⟨_, _, _, _, rfl, rfl, hP.sl b1 hs, atI_int d0 hx, k _ _ _ hx b1 P1⟩
    · exact .inr (.inl ⟨_, _, _, _, rfl, rfl, hP.st b1 hs, atI_int d0 hx, k _ _ _ hx b1 P1⟩)

theorem ok_shuf : FnOk P w K mg base CX0 2 T.a_law_shuffled T.d_law_shuffled ["pen", "some"] (spShuf K) := by
  have G_law_draw := ok_draw (P := P) (base := base) T
  refine T.D_law_shuffled.fn.ok sc_law_shuffled (fun vs H Q E h => ?_) (fun cdv A outer s H vs Q E hr h => ?_)
  · obtain ⟨p, c, a, xs, n, rfl, _⟩ := h; rfl
  · obtain ⟨p, c, a, xs, n, rfl, hP, hs, x1, n1, k⟩ := h
    refine ⟨_, (pss_cons (ps_par (i := 2) (j := 3) (by rfl) sc_law_shuffled.nd rfl rfl (by decide) rfl rfl (pa_cons (pe_callTy call_list_of (by rfl) T.b_list bt_list (pa_cons (pv 1) pa_nil)) (pa_cons (pe_lst pa_nil) pa_nil)) (by rfl))
      (pss_cons (ps_for PassesOwn.never rfl (pi_range1 (by rfl) T.b_range (pa_cons (pe_callB call_len (by rfl) T.b_len bt_len (pa_cons (pv 1) pa_nil)) pa_nil)) (pg_name (i := 4) sc_law_shuffled.nd rfl (by first | exact Or.inl rfl | exact Or.inr rfl)) (pss_one (ps_expr (pe_bm PySem.F.plainAttrs_list PySem.F.slot_list_append PySem.F.type_list_append mt_append (pv 3) (pa_cons (pe_bm PySem.F.plainAttrs_list PySem.F.slot_list_pop PySem.F.type_list_pop mt_popAt (pv 2) (pa_cons (pe_call (G_law_draw) (hr.mono (by omega)) (by rfl) T.D_law_draw.mg T.D_law_draw.fn.kp T.D_law_draw.bd .nil pass0 (pa_cons (pv 0) (pa_cons (pe_callB call_len (by rfl) T.b_len bt_len (pa_cons (pv 2) pa_nil)) pa_nil))) pa_nil)) pa_nil)))))
      (pss_one (ps_ret (pv 3))))), ?_⟩
    refine ⟨_, rfl, _, _, rfl, hs, fun l1 hl1 => ⟨Nat.zero_le _, fun l2 hl2 => ⟨_, _, rfl, ?_⟩⟩⟩
    have n12 : l1 ≠ l2 := fun z => by rw [z, upd_same] at hl2; cases hl2
    have hl2' : H l2 = none := by rw [upd_ne (Ne.symm n12)] at hl2; exact hl2
    have s1 : Same H (upd (upd H l1 (.lst xs)) l2 (.lst [])) := (Same.newA hl1).trans (Same.newA hl2)
    have e1 : (upd (upd H l1 (.lst xs)) l2 (.lst [])) l1 = some (.lst xs) := by rw [upd_ne n12]; exact upd_same
    have e2 : (upd (upd H l1 (.lst xs)) l2 (.lst [])) l2 = some (.lst []) := upd_same
    generalize upd (upd H l1 (.lst xs)) l2 (.lst []) = H1 at s1 e1 e2
    have hs1 : SqL K H1 a xs ∨ SqT K H1 a xs := hs.imp s1.slA s1.stA
    have hl : LenV K (.ref a) H1 xs.length := hs1.elim (fun z => .inl ⟨_, z, rfl⟩) fun z => .inr ⟨_, z, rfl⟩
    refine ⟨_, rfl, _, _, rfl, hl, _, rfl, by omega, by omega, for_range (n := xs.length) (fun i σ' H' => ∃ (ls fs : List V) (o : Option V), σ' = [some (.ref p), some (.ref a), some (.ref l1), some (.ref l2), o] ∧
      H' l1 = some (.lst ls) ∧ H' l2 = some (.lst fs) ∧ fs.length = i ∧ (fs ++ ls).Perm xs ∧ But p H H' ∧ Pen p c (n + i) H') ⟨xs, [], none, rfl, e1, e2, rfl, .refl _, .of s1, hP.same s1⟩ ?_ ?_⟩
    · rintro i σ' H' hi ⟨ls, fs, o, rfl, f1, f2, fl, pm, b1, P1⟩
      have tot := pm.length_eq
      rw [List.length_append] at tot
      refine ⟨_, rfl, .inl ⟨rfl, _, SqL.of f2⟩, _, rfl, .inl ⟨rfl, _, SqL.of f1⟩, _, rfl, _, rfl, _, _, rfl, .inl ⟨_, SqL.of f1, rfl⟩, p, c, _, n + i, rfl, P1, by omega, by omega, by omega, fun d H2 d0 d1 b2 P2 => ?_⟩
      have g1 : H2 l1 = some (.lst ls) := b2 _ _ (P1.ne f1 (fun _ z => nomatch z)) f1
      have g2 : H2 l2 = some (.lst fs) := b2 _ _ (P1.ne f2 (fun _ z => nomatch z)) f2
      have hd : d.toNat < ls.length := by omega
      refine ⟨_, _, _, _, _, rfl, rfl, g1, by omega, by omega, seq_at d0 (by omega), List.getElem?_eq_getElem hd, ?_⟩
      refine ⟨_, _, _, rfl, rfl, by rw [upd_ne (Ne.symm n12)]; exact g2, by rw [fl]; exact lt5 (by omega), ?_⟩
      refine ⟨ls.eraseIdx d.toNat, fs ++ [ls[d.toNat]], some (.int (0 + (i : Int))), rfl, ?_, upd_same, by rw [List.length_append, fl]; rfl, ?_, ?_, ?_⟩
      · rw [upd_ne n12]; exact upd_same
      · refine List.Perm.trans ?_ pm
        rw [List.append_assoc]
        exact List.Perm.append_left fs (erase_perm _ _ _ (List.getElem?_eq_getElem hd))
      · intro b u nb e
        rw [upd_ne (ne_of_none e hl2'), upd_ne (ne_of_none e hl1)]
        exact b2 _ _ nb (b1 _ _ nb e)
      · exact (P2.upd (hP.ne_p hl1) (hP.ne_c hl1)).upd (hP.ne_p hl2') (hP.ne_c hl2')
    · rintro σ' H' ⟨ls, fs, o, rfl, f1, f2, fl, pm, b1, P1⟩
      have tot := pm.length_eq
      rw [List.length_append] at tot
      have : ls = [] := List.length_eq_zero_iff.mp (by omega)
      subst this
      rw [List.append_nil] at pm
      exact ⟨_, rfl, k _ _ _ pm hl2' f2 b1 P1⟩

theorem ok_name : FnOk P w K mg base CX0 2 T.a_law_name T.d_law_name ["pen", "index"] spName := by
  have G_law_draw := ok_draw (P := P) (base := base) T
  refine T.D_law_name.fn.ok sc_law_name (fun vs H Q E h => ?_) (fun cdv A outer s H vs Q E hr h => ?_)
  · obtain ⟨p, c, i, n, rfl, _⟩ := h; rfl
  · obtain ⟨p, c, ix, n, rfl, hP, hi, n1, k⟩ := h
    refine ⟨_, (pss_cons (ps_set (i := 2) sc_law_name.nd rfl (by first | exact Or.inl rfl | exact Or.inr rfl) pe_str)
      (pss_cons (ps_for PassesOwn.never rfl (pi_range1 (by rfl) T.b_range (pa_cons (pe_op op_add pe_int (pe_call (G_law_draw) (hr.mono (by omega)) (by rfl) T.D_law_draw.mg T.D_law_draw.fn.kp T.D_law_draw.bd .nil pass0 (pa_cons (pv 0) (pa_cons pe_int pa_nil)))) pa_nil)) (pg_name (i := 3) sc_law_name.nd rfl (by first | exact Or.inl rfl | exact Or.inr rfl)) (pss_one (ps_set (i := 2) sc_law_name.nd rfl (by first | exact Or.inl rfl | exact Or.inr rfl) (pe_op op_add_str (pv 2) (pe_ix ix_seq pe_str (pe_call (G_law_draw) (hr.mono (by omega)) (by rfl) T.D_law_draw.mg T.D_law_draw.fn.kp T.D_law_draw.bd .nil pass0 (pa_cons (pv 0) (pa_cons pe_int pa_nil))) (fun _ _ => rfl))))))
      (pss_cons (ps_set (i := 4) sc_law_name.nd rfl (by first | exact Or.inl rfl | exact Or.inr rfl) (pe_op op_add pe_int (pe_call (G_law_draw) (hr.mono (by omega)) (by rfl) T.D_law_draw.mg T.D_law_draw.fn.kp T.D_law_draw.bd .nil pass0 (pa_cons (pv 0) (pa_cons (pe_callB call_len (by rfl) T.b_len bt_len (pa_cons (pv 2) pa_nil)) pa_nil)))))
      (pss_one (ps_ret (pe_op op_add_str (pe_op op_add_str (pe_slice sl_str (pv 2) po_none (po_some (pv 4))) (pe_callTy call_str_int (by rfl) T.b_str bt_str (pa_cons (pv 1) pa_nil))) (pe_slice sl_str (pv 2) (po_some (pv 4)) po_none))))))), ?_⟩
    refine ⟨_, rfl, p, c, 8, n, rfl, hP, by decide, by decide, by omega, fun d H1 d0 d1 b1 P1 => ?_⟩
    refine ⟨_, _, rfl, rfl, _, rfl, by omega, by omega, for_range (n := (1 + d).toNat) (fun i σ' H' => ∃ (cs : List Nat) (o : Option V), σ' = [some (.ref p), some (.int (ix : Int)), some (.str (S cs)), o, none] ∧
      cs.length = i ∧ (∀ x ∈ cs, 97 ≤ x ∧ x ≤ 122) ∧ But p H H' ∧ Pen p c (n + 1 + i) H') ⟨[], none, rfl, rfl, (fun x hx => by cases hx), b1, P1⟩ ?_ ?_⟩
    · rintro i σ' H' hi ⟨cs, o, rfl, hc, hx, b2, P2⟩
      refine ⟨_, rfl, _, rfl, p, c, 26, _, rfl, P2, by decide, by decide, by omega, fun d2 H2 e0 e1 b3 P3 => ?_⟩
      have ed : ((d2.toNat : Nat) : Int) = d2 := by omega
      refine .inr (.inr ⟨_, _, _, rfl, rfl, letters_short, atI_int e0 (letters_at d2.toNat (by omega)), ?_⟩)
      refine ⟨_, _, rfl, rfl, ?_, ?_⟩
      · rw [SX.S_len]; refine small5 ?_
        show cs.length + 1 ≤ _
        omega
      · refine ⟨cs ++ [97 + d2.toNat], some (.int (0 + (i : Int))), ?_, by rw [List.length_append, hc]; rfl, fun x hx' => ?_, b2.trans b3, P3⟩
        · rw [S_one, SX.S_cat]; rfl
        · rcases List.mem_append.mp hx' with h | h
          · exact hx x h
          · rw [List.mem_singleton.mp h]; omega
    · rintro σ' H' ⟨cs, o, rfl, hc, hx, b2, P2⟩
      refine ⟨_, rfl, _, rfl, _, _, rfl, ⟨by rw [SX.S_len]; exact small5 (by omega), rfl⟩, p, c, _, _, rfl, P2, by rw [SX.S_len]; omega, by rw [SX.S_len]; omega, by omega, fun d2 H2 e0 e1 b3 P3 => ?_⟩
      rw [SX.S_len] at e1
      have lc : cs.length = (1 + d).toNat := hc
      have ct := cut_takeI cs (1 + d2) (by omega) (by omega)
      have cd := cut_dropI cs (1 + d2) (by omega) (by omega)
      have lg : (ix : Int).natAbs.log2 < 1920 := by
        have : (ix : Int).natAbs < 2 ^ 1920 := Nat.lt_of_lt_of_le (by omega : (ix : Int).natAbs < 32) (by decide)
        by_cases z : (ix : Int).natAbs = 0
        · rw [z]; decide
        · exact (Nat.log2_lt z).mpr this
      have eS : cutS (S cs) none (some (1 + d2)) ++ Str.ofString (toString (ix : Int)) ++ cutS (S cs) (some (1 + d2)) none = S (cs.take (1 + d2).toNat ++ Digs ix ++ cs.drop (1 + d2).toNat) := by
        rw [ct, cd, ← SX.S_tl (Str.ofString (toString (ix : Int))), SX.S_cat, SX.S_cat]; rfl
      have l1 : (cutS (S cs) none (some (1 + d2))).length + (Str.ofString (toString (ix : Int))).length ≤ 100000 := by
        rw [ct, SX.S_len, List.length_take, ← SX.S_tl (Str.ofString (toString (ix : Int))), SX.S_len]
        have := (digs_ok ix hi).2.1
        show _ + (Digs ix).length ≤ _
        omega
      have l2 : (cutS (S cs) none (some (1 + d2)) ++ Str.ofString (toString (ix : Int))).length + (cutS (S cs) (some (1 + d2)) none).length ≤ 100000 := by
        rw [ct, cd, ← SX.S_tl (Str.ofString (toString (ix : Int))), SX.S_cat, SX.S_len, SX.S_len, List.length_append, List.length_take, List.length_drop]
        have := (digs_ok ix hi).2.1
        show _ + (Digs ix).length + _ ≤ _
        omega
      refine ⟨_, _, rfl, rfl, _, rfl, _, rfl, _, rfl, _, rfl, by rw [SX.S_len]; exact small5 (by omega), _, rfl, _, rfl, lg, _, _, rfl, rfl, small5 l1, ?_⟩
      refine ⟨_, rfl, _, rfl, _, rfl, _, rfl, by rw [SX.S_len]; exact small5 (by omega), _, _, rfl, rfl, small5 l2, ?_⟩
      refine k _ _ ⟨cs.take (1 + d2).toNat, cs.drop (1 + d2).toNat, eS, ?_, ?_, fun x h => hx x ?_⟩ (b2.trans b3) (P3.more (by omega))
      · rw [List.length_take]; omega
      · rw [List.length_take, List.length_drop]; omega
      · rw [List.take_append_drop] at h; exact h
end
end Ag

set_option Elab.async false
set_option linter.all false
set_option maxRecDepth 100000
set_option maxHeartbeats 1000000
namespace Ag
open PySem PySem.Spec PyProof.Rows L2
theorem vstr_perm {ys : List V} {ms : List Str} (h : ys.Perm (ms.map V.str)) : ∃ ns : List Str, ns.Perm ms ∧ ys = ns.map V.str := by
  have hm : ∀ y ∈ ys, ∃ s, y = V.str s := fun y hy => by
    obtain ⟨s, _, e⟩ := List.mem_map.mp (h.mem_iff.mp hy); exact ⟨s, e.symm⟩
  let f : V → Str := fun v => match v with | .str s => s | _ => Str.empty
  refine ⟨ys.map f, ?_, ?_⟩
  · have := h.map f
    rw [List.map_map] at this
    have e : ms.map (f ∘ V.str) = ms := by
      have q : ms.map (f ∘ V.str) = ms.map id := List.map_congr_left fun s _ => rfl
      rw [q, List.map_id]
    rw [e] at this; exact this
  · rw [List.map_map]
    have e : ys.map (V.str ∘ f) = ys.map id := List.map_congr_left fun y hy => by
      obtain ⟨s, rfl⟩ := hm y hy; rfl
    rw [e, List.map_id]
section
variable {P : Program} {w : World} {K : PySem.W.Frag} {mg : Str → Option Value} {base : Heap} (T : Txt w K mg)
theorem ok_names : FnOk P w K mg base CX0 3 T.a_law_names T.d_law_names ["pen", "many"] (spNames K) := by
  have G_law_name := ok_name (P := P) (base := base) T
  have G_law_shuffled := ok_shuf (P := P) (base := base) T
  refine T.D_law_names.fn.ok sc_law_names (fun vs H Q E h => ?_) (fun cdv A outer s H vs Q E hr h => ?_)
  · obtain ⟨p, c, m, n, rfl, _⟩ := h; rfl
  · obtain ⟨p, c, m, n, rfl, hP, m31, n1, k⟩ := h
    refine ⟨_, (pss_one (ps_ret (pe_call (G_law_shuffled) (hr.mono (by omega)) (by rfl) T.D_law_shuffled.mg T.D_law_shuffled.fn.kp T.D_law_shuffled.bd .nil pass0 (pa_cons (pv 0) (pa_cons (pe_lc (own := [("index", 2)]) rfl sc_law_names.nd (pi_range1 (by rfl) T.b_range (pa_cons (pv 1) pa_nil)) (blkOk_by (own := [("index", 2)]) (N := ["pen", "many", "index"]) (sc := defScope s_law_names) (by decide +kernel)) (fun _ _ _ _ _ => (pg_name (i := 2) sc_law_names.nd rfl (by first | exact Or.inl rfl | exact Or.inr rfl))) (fun _ _ _ _ _ => pts_nil) (fun _ _ _ _ _ => (pe_call (G_law_name) (hr.mono (by omega)) (by rfl) T.D_law_name.mg T.D_law_name.fn.kp T.D_law_name.bd .nil pass0 (pa_cons (pv 0) (pa_cons (pv 2) pa_nil))))) pa_nil))))), ?_⟩
    refine ⟨_, rfl, _, rfl, _, rfl, by omega, by omega, fun D hD => lc_range (lo := 0) (n := m) (fun i H' => ∃ ms : List Str, H' D = some (.lst (ms.map V.str)) ∧ ms.length = i ∧ (∀ j s, ms[j]? = some s → Nm j s) ∧ But p H H' ∧ Pen p c (n + 10 * i) H')
      ⟨[], upd_same, rfl, fun j s e => by simp at e, .of (Same.newA hD), hP.upd (hP.ne_p hD) (hP.ne_c hD)⟩ ?_ ?_⟩
    · rintro i H' hi ⟨ms, e1, ml, hm, b1, P1⟩
      refine ⟨rfl, ?_⟩
      refine ⟨_, rfl, _, rfl, p, c, i, n + 10 * i, ?_, P1, by omega, by omega, fun s H2 hs b2 P2 => ?_⟩
      · show [V.ref p, V.int (0 + (i : Int))] ++ [] = _
        rw [Int.zero_add]; rfl
      have e2 : H2 D = some (.lst (ms.map V.str)) := b2 _ _ (hP.ne_p hD) e1
      refine ⟨_, e2, lt5 (by rw [List.length_map]; omega), ms ++ [s], ?_, by rw [List.length_append, ml]; rfl, fun j t e => ?_, ?_, ?_⟩
      · rw [List.map_append]; exact upd_same
      · rw [List.getElem?_append] at e
        split at e
        · exact hm j t e
        · have : j - ms.length = 0 := by
            cases z : j - ms.length with
            | zero => rfl
            | succ q => rw [z] at e; simp at e
          rw [this] at e
          have ej : j = i := by omega
          simp at e
          rw [← e, ej]; exact hs
      · intro b u nb e
        rw [upd_ne (ne_of_none e hD)]
        exact b2 _ _ nb (b1 _ _ nb e)
      · exact (P2.more (by omega)).upd (hP.ne_p hD) (hP.ne_c hD)
    · rintro H' ⟨ms, e1, ml, hm, b1, P1⟩
      refine ⟨p, c, D, ms.map V.str, _, rfl, P1, .inl (SqL.of e1), by rw [List.length_map]; omega, by omega, fun l ys H2 pm hl e2 b2 P2 => ?_⟩
      obtain ⟨ns, pn, rfl⟩ := vstr_perm pm
      exact k l ns H2 ⟨ms, ml, hm, pn⟩ (b1.free hl (P1.ne_p hl)) e2 (b1.trans b2) (P2.more (by rw [List.length_map, ml]; omega))
theorem ok_calls : FnOk P w K mg base CX0 4 T.a_law_calls T.d_law_calls ["pen", "many"] (spCalls K) := by
  have G_law_names := ok_names (P := P) (base := base) T
  refine T.D_law_calls.fn.ok sc_law_calls (fun vs H Q E h => ?_) (fun cdv A outer s H vs Q E hr h => ?_)
  · obtain ⟨p, c, m, n, rfl, _⟩ := h; rfl
  · obtain ⟨p, c, m, n, rfl, hP, m31, n1, k⟩ := h
    refine ⟨_, (pss_one (ps_ret (pe_callTy call_tuple_of (by rfl) T.b_tuple bt_tuple (pa_cons (pe_callB cr_sortedS (by rfl) T.b_sorted bt_sorted (pa_cons (pe_call (G_law_names) (hr.mono (by omega)) (by rfl) T.D_law_names.mg T.D_law_names.fn.kp T.D_law_names.bd .nil pass0 (pa_cons (pv 0) (pa_cons (pv 1) pa_nil))) pa_nil)) pa_nil)))), ?_⟩
    refine ⟨_, rfl, _, rfl, p, c, m, n, rfl, hP, m31, n1, fun l ns H1 hn hl e1 b1 P1 => ?_⟩
    have len := nms_len hn
    refine ⟨l, ns, rfl, SqL.of e1, by omega, fun ys q py sy hq => ?_⟩
    refine ⟨_, _, rfl, .inl ⟨SqL.of upd_same, fun r hr1 => ?_⟩⟩
    obtain ⟨ms, ml, hm, pm⟩ := hn
    have nrq : r ≠ q := fun z => by rw [z, upd_same] at hr1; cases hr1
    have hr2 : H1 r = none := by rw [upd_ne nrq] at hr1; exact hr1
    exact k r ys _ ⟨ms, ml, hm, py.trans pm⟩ sy upd_same (b1.trans (.of ((Same.newA hq).trans (Same.newA hr1)))) ((P1.upd (P1.ne_p hq) (P1.ne_c hq)).upd (P1.ne_p hr2) (P1.ne_c hr2))
end
end Ag

set_option Elab.async false
set_option linter.all false
set_option maxRecDepth 100000
set_option maxHeartbeats 1000000
namespace Ag
open PySem PySem.Spec PyProof.Rows L2

/-! ### good data -/
mutual
def gd : PyData → Bool
  | .none | .bool _ | .int _ => true
  | .str x => x.cps.all (· < 0x110000) && decide (x.length ≤ 1000)
  | .list xs => gds xs && decide (xs.length ≤ 1000)
  | .tuple xs => gds xs && decide (xs.length ≤ 1000)
  | .dict _ => false
def gds : List PyData → Bool
  | [] => true
  | x :: xs => gd x && gds xs
end
theorem gds_all : ∀ {xs : List PyData}, gds xs = true → ∀ x ∈ xs, gd x = true
  | [], _, _, h => by cases h
  | x :: xs, h, y, hy => by
    simp only [gds, Bool.and_eq_true] at h
    rcases List.mem_cons.mp hy with rfl | hy
    · exact h.1
    · exact gds_all h.2 y hy
theorem gds_of : ∀ {xs : List PyData}, (∀ x ∈ xs, gd x = true) → gds xs = true
  | [], _ => by simp [gds]
  | x :: xs, h => by
    simp only [gds, Bool.and_eq_true]
    exact ⟨h x List.mem_cons_self, gds_of fun y hy => h y (List.mem_cons_of_mem _ hy)⟩
mutual
theorem gd_lay : ∀ {d : PyData}, gd d = true → d.canLay0 = true
  | .none, _ => by simp [PyData.canLay0]
  | .bool _, _ => by simp [PyData.canLay0]
  | .int _, _ => by simp [PyData.canLay0]
  | .str x, h => by
    simp only [gd, Bool.and_eq_true] at h
    simp only [PyData.canLay0]; exact h.1
  | .list xs, h => by
    simp only [gd, Bool.and_eq_true] at h
    simp only [PyData.canLay0]; exact gds_lay h.1
  | .tuple xs, h => by
    simp only [gd, Bool.and_eq_true] at h
    simp only [PyData.canLay0]; exact gds_lay h.1
  | .dict _, h => by simp [gd] at h
theorem gds_lay : ∀ {ds : List PyData}, gds ds = true → PyData.canLayAll0 ds = true
  | [], _ => by simp [PyData.canLayAll0]
  | x :: xs, h => by
    simp only [gds, Bool.and_eq_true] at h
    simp only [PyData.canLayAll0, Bool.and_eq_true]
    exact ⟨gd_lay h.1, gds_lay h.2⟩
end

/-! ### names -/
def letter (c : Nat) : Bool := decide (97 ≤ c ∧ c ≤ 122)
def figure (c : Nat) : Bool := decide (48 ≤ c ∧ c ≤ 57)
theorem letters_list : ("abcdefghijklmnopqrstuvwxyz" : Str).cps.toList = List.range' 97 26 := by decide +kernel
theorem figures_list : ("0123456789" : Str).cps.toList = List.range' 48 10 := by decide +kernel
theorem both_list : ("abcdefghijklmnopqrstuvwxyz0123456789" : Str).cps.toList = List.range' 97 26 ++ List.range' 48 10 := by decide +kernel
theorem mem_letters (c : Nat) : decide (c ∈ ("abcdefghijklmnopqrstuvwxyz" : Str).cps.toList) = letter c := by
  rw [letters_list]; unfold letter; congr 1; rw [List.mem_range'_1]; apply propext; omega
theorem mem_figures (c : Nat) : decide (c ∈ ("0123456789" : Str).cps.toList) = figure c := by
  rw [figures_list]; unfold figure; congr 1; rw [List.mem_range'_1]; apply propext; omega
theorem mem_both (c : Nat) : decide (c ∈ ("abcdefghijklmnopqrstuvwxyz0123456789" : Str).cps.toList) = (letter c || figure c) := by
  rw [both_list, ← mem_letters, ← mem_figures, letters_list, figures_list]
  by_cases h1 : c ∈ List.range' 97 26 <;> by_cases h2 : c ∈ List.range' 48 10 <;> simp [h1, h2]
def nameB (s : Str) : Bool := decide (1 ≤ (s.length : Int)) && decide ((s.length : Int) ≤ 12) && (match s.cps.toList with | [] => false | c :: _ => letter c) && s.cps.toList.all fun c => letter c || figure c
def isName : PyData → Bool | .str s => nameB s | _ => false
theorem nm_name {i : Nat} {s : Str} (hi : i < 32) (h : Nm i s) : nameB s = true := by
  obtain ⟨a, b, rfl, h1, h2, h3⟩ := h
  obtain ⟨d1, d2, d3⟩ := digs_ok i hi
  have hl : (S (a ++ Digs i ++ b)).length = a.length + (Digs i).length + b.length := by rw [SX.S_len, List.length_append, List.length_append]
  have hc : (S (a ++ Digs i ++ b)).cps.toList = a ++ Digs i ++ b := rfl
  unfold nameB
  rw [hl, hc]
  simp only [Bool.and_eq_true, decide_eq_true_eq, List.all_eq_true, Bool.or_eq_true]
  refine ⟨⟨⟨by omega, by omega⟩, ?_⟩, fun c hc => ?_⟩
  · cases a with
    | nil => simp at h1
    | cons x r =>
      have := h3 x (by simp)
      show letter x = true
      unfold letter; simp; omega
  · rcases List.mem_append.mp hc with hc | hc
    · rcases List.mem_append.mp hc with hc | hc
      · have := h3 c (List.mem_append_left _ hc); left; unfold letter; simp; omega
      · have := d3 c hc; right; unfold figure; simp; omega
    · have := h3 c (List.mem_append_right _ hc); left; unfold letter; simp; omega

/-- a def that answers a Bool of one datum -/
def spB (K : PySem.W.Frag) (pre : PyData → Prop) (f : PyData → Bool) : Sp := fun vs H Q _ => ∃ v d, vs = [v] ∧ Dp K H v d ∧ pre d ∧ ∀ H', Same H H' → Q (.bl (f d)) H'
theorem rdc_spB {K : PySem.W.Frag} {E : XK} {pre : PyData → Prop} {f : PyData → Bool} {d : PyData} (hp : pre d) : RDC K (fun vs H Q => spB K pre f vs H Q E) [d] (.bool (f d)) := fun F vs H1 hv Q q => by
  cases hv with
  | cons a r => cases r; exact ⟨_, d, rfl, df_dp a, hp, fun H' s => q _ H' s (.bl _)⟩
theorem all_signs {p : Nat → Bool} (g : PyData → Bool) (hg : ∀ c, g (.str ⟨#[c]⟩) = p c) (x : Str) : ((signs x).map g).all id = x.cps.toList.all p := by
  unfold signs
  rw [List.map_map, List.all_map]
  congr 1; funext c; exact hg c
section
variable {P : Program} {w : World} {K : PySem.W.Frag} {mg : Str → Option Value} {base : Heap} (T : Txt w K mg)
def sgn : PyData → Nat | .str x => x.cps.toList.headD 0 | _ => 0
theorem ok_is_name : FnOk P w K mg base CX0 1 T.a_is_name T.d_is_name ["value"] (spB K (fun d => gd d = true) isName) := by
  refine T.D_is_name.fn.ok sc_is_name (fun vs H Q E h => ?_) (fun cdv A outer s H vs Q E hr h => ?_)
  · obtain ⟨v, d, rfl, _⟩ := h; rfl
  · obtain ⟨v, d, rfl, hv, hd, k⟩ := h
    refine ⟨_, (pss_cons (ps_if (PW.pt (pw_or (pt_not (pt_val (pe_callB call_isi (by rfl) T.b_isinstance bt_isinstance (pa_cons (pv 0) (pa_cons (pe_bltn (v := .ty "str") (by rfl) T.b_str bt_str rfl) pa_nil))))) (pw_or (pt_not (pt_chain op_le op_le pe_int (pe_callB call_len (by rfl) T.b_len bt_len (pa_cons (pv 0) pa_nil)) pe_int)) (pw_or1 (pt_cmpR op_notIn_sign (pe_ix ix_seq (pv 0) pe_int (fun _ _ => rfl)) (pe_glob (v := .str "abcdefghijklmnopqrstuvwxyz") (by rfl) T.g_LETTERS ⟨_, rfl⟩) rfl))))) (pss_one (ps_ret pe_bl)) pss_nil)
      (pss_one (ps_ret (pe_callB (cr_all rfl) (by rfl) T.b_all bt_all (pa_cons (pe_lc (own := [("sign", 1)]) rfl sc_is_name.nd (pi_str (pv 0)) (blkOk_by (own := [("sign", 1)]) (N := ["value", "sign"]) (sc := defScope s_is_name) (by decide +kernel)) (fun _ _ _ _ _ => (pg_name (i := 1) sc_is_name.nd rfl (by first | exact Or.inl rfl | exact Or.inr rfl))) (fun _ _ _ _ _ => pts_nil) (fun _ _ _ _ _ => (pe_or (pe_cmpR op_in_sign (pv 1) (pe_glob (v := .str "abcdefghijklmnopqrstuvwxyz") (by rfl) T.g_LETTERS ⟨_, rfl⟩) rfl) (pe_one (pe_cmpR op_in_sign (pv 1) (pe_glob (v := .str "0123456789") (by rfl) T.g_FIGURES ⟨_, rfl⟩) rfl))))) pa_nil))))), ?_⟩
    have hvar : ∀ H1, Same H H1 → ED K (tVar 0) (start ["value", "sign"] [v]) (nn H) H1 d := fun H1 s1 => ed_var rfl (df_mono s1 (fun _ z => z) (dp_df hv))
    have isi := et_B (ed_isi (T := "str") (hvar H (Same.refl _)) (.inl rfl))
    cases d with
    | str x =>
      have hx : x.length ≤ 1000 := by simp only [gd, Bool.and_eq_true, decide_eq_true_eq] at hd; exact hd.2
      have h12 : ET _ _ H _ := et_not (et_test (ed_chain (r := rI0 fun i j => .bl (decide (i ≤ j))) (r' := rI0 fun i j => .bl (decide (i ≤ j))) (ed_int (i := 1)) (ed_len (hvar H (Same.refl _)) (decide_eq_true (by omega))) (ed_int (i := 12)) rd_cmp fun _ => rd_cmp))
      by_cases hb : decide (1 ≤ (x.length : Int)) && decide ((x.length : Int) ≤ 12)
      · obtain ⟨c, cs, hc⟩ : ∃ c cs, x.cps.toList = c :: cs := by
          cases hc : x.cps.toList with
          | nil => 
            have : x.length = 0 := by show x.cps.size = 0; rw [← Array.length_toList, hc]; rfl
            simp [this] at hb
          | cons c cs => exact ⟨c, cs, rfl⟩
        have hch := et_B (ed_notInS (ed_ixS (j := 0) (hvar H (Same.refl _)) ed_int (by omega) (c := c) (by rw [hc]; rfl)) (ed_str (x := "abcdefghijklmnopqrstuvwxyz")))
        refine s_if (b := !letter c) (et_is (et_or (et_not isi) fun _ => et_or h12 fun _ => hch) ?_) (fun h H1 s1 => ?_) (fun h H1 s1 => ?_)
        · rw [mem_letters]; show (!true || (!(decide (1 ≤ (x.length : Int)) && decide ((x.length : Int) ≤ 12)) || !letter c)) = _; rw [hb]; rfl
        · have := k H1 s1
          have e : isName (.str x) = false := by
            show nameB x = false
            unfold nameB; rw [hc]; simp at h; simp [h]
          rw [e] at this; exact this
        · refine s_ret (F := nn H) (ed_all (bs := (signs x).map fun s => letter (sgn s) || figure (sgn s)) (ed_is (ed_lc (f := fun _ => true) (m := fun s => .bool (letter (sgn s) || figure (sgn s))) (ei_str (hvar H1 s1)) ?_ fun F2 H2 e2 v2 d2 hm hd2 => ?_) ?_)) fun v H2 s2 hv2 => ?_
          · unfold signs; rw [List.length_map, Array.length_toList]; show x.length ≤ _; omega
          · obtain ⟨c2, hc2, rfl⟩ := List.mem_map.mp hm
            refine ⟨_, fun Q q => q, rfl, et_yes, fun _ => ed_is (ed_orV (ed_inS (ed_var rfl hd2) (ed_str (x := "abcdefghijklmnopqrstuvwxyz"))) fun _ => ed_inS (ed_var rfl hd2) (ed_str (x := "0123456789"))) ?_⟩
            rw [mem_letters, mem_figures]; rfl
          · rw [filt_tt, List.map_map]; rfl
          · cases hv2
            have := k H2 (s1.trans s2)
            have e : isName (.str x) = ((signs x).map fun s => letter (sgn s) || figure (sgn s)).all id := by
              rw [all_signs (p := fun c => letter c || figure c) _ (fun c => rfl)]
              show nameB x = _
              unfold nameB; rw [hb, hc]; simp at h; simp [h]
            rw [e] at this; exact this
      · rw [Bool.not_eq_true] at hb
        refine s_if (b := true) (et_is (et_or (b := true) (et_not isi) fun _ => et_is (et_or (b := false) h12 fun h => ?_) ?_) ?_) (fun h H1 s1 => ?_) (fun h H1 s1 => nomatch h)
        · have h := (show (!(decide (1 ≤ (x.length : Int)) && decide ((x.length : Int) ≤ 12))) = false from h)
          rw [hb] at h; cases h
        · show (!(decide (1 ≤ (x.length : Int)) && decide ((x.length : Int) ≤ 12)) || false) = true
          rw [hb]; rfl
        · rfl
        · have := k H1 s1
          have e : isName (.str x) = false := by
            show nameB x = false
            unfold nameB; rw [hb]; rfl
          rw [e] at this; exact this
    | _ =>
      refine s_if (b := true) (et_or (b := true) (et_not isi) fun h => nomatch h) (fun h H1 s1 => ?_) (fun h H1 s1 => nomatch h)
      exact k H1 s1
end
end Ag

set_option Elab.async false
set_option linter.all false
set_option maxRecDepth 100000
set_option maxHeartbeats 1000000
namespace Ag
open PySem PySem.Spec PyProof.Rows L2
section
variable {P : Program} {w : World} {K : PySem.W.Frag} {mg : Str → Option Value} {base : Heap}
def spNo : Sp := fun _ _ _ _ => False
theorem no_ok (k : Nat) {x : Str} {N : List Str} {st : Stmt} {ps : List Str} {a : Addr} {fd : FuncData} (D : DefAt K mg x st ps a fd) (S : FnScope N ps (defScope st)) : FnOk P w K mg base CX0 (k + 1) a fd ps spNo :=
  D.fn.ok S (fun vs H Q E h => h.elim) (fun cdv A outer s H vs Q E hr h => h.elim)
end
theorem merge_pen {c : Addr} {a d n f : Int} : mergeK [] [(ck "cells", V.ref c), (ck "at", .int a), (ck "digits", .int d), (ck "count", .int n), (ck "fold", .int f)] = penKV c a d n f := by
  unfold mergeK
  simp [putK, penKV, ck, sn_cells_at, sn_cells_digits, sn_cells_count, sn_cells_fold, sn_at_digits, sn_at_count, sn_at_fold, sn_digits_count, sn_digits_fold, sn_count_fold]
def spLPen (K : PySem.W.Frag) : Sp := fun vs H Q _ => ∃ (a : Addr) (ns : List Int), vs = [.ref a] ∧ SqL K H a (ns.map V.int) ∧ ns.length ≤ 63 ∧ ∀ p c H', Same H H' → Pen p c 0 H' → Q (.ref p) H'
section
variable {P : Program} {w : World} {K : PySem.W.Frag} {mg : Str → Option Value} {base : Heap} (T : Txt w K mg)
theorem ok_law_pen : FnOk P w K mg base CX0 1 T.a_law_pen T.d_law_pen ["script"] (spLPen K) := by
  refine T.D_law_pen.fn.ok sc_law_pen (fun vs H Q E h => ?_) (fun cdv A outer s H vs Q E hr h => ?_)
  · obtain ⟨a, ns, rfl, _⟩ := h; rfl
  · obtain ⟨a, ns, rfl, hs, hl, k⟩ := h
    refine ⟨_, (pss_cons (ps_set (i := 1) sc_law_pen.nd rfl (by first | exact Or.inl rfl | exact Or.inr rfl) pe_int)
      (pss_cons (ps_for PassesOwn.never rfl (pi_list (pv 0)) (pg_name (i := 2) sc_law_pen.nd rfl (by first | exact Or.inl rfl | exact Or.inr rfl)) (pss_one (ps_set (i := 1) sc_law_pen.nd rfl (by first | exact Or.inl rfl | exact Or.inr rfl) (pe_op op_mod (pe_callTy call_int1 (by rfl) T.b_int bt_int (pa_cons (pe_op op_add (pe_op op_mul (pv 1) pe_int) (pv 2)) pa_nil)) pe_int))))
      (pss_one (ps_ret (pe_disp (pps_cons pe_str (pe_callTy call_list_of (by rfl) T.b_list bt_list (pa_cons (pv 0) pa_nil)) (pps_cons pe_str pe_int (pps_cons pe_str pe_int (pps_cons pe_str pe_int (pps_cons pe_str (pv 1) pps_nil))))) (by rfl) (by rfl) (fun z => by cases z) (by decide)))))), ?_⟩
    refine ⟨_, rfl, a, rfl, ⟨_, hs⟩, for_list (K := K) (a := a) (xs := ns.map V.int) (fun i σ' H' => H' = H ∧ ∃ (f : Int) (o : Option V), σ' = [some (.ref a), some (.int f), o] ∧ 0 ≤ f ∧ f < 1000000411) ⟨rfl, 29, none, rfl, by decide, by decide⟩ (fun i σ' H' _ h => by rw [h.1]; exact hs) ?_ ?_⟩
    · rintro i y σ' H' hi ⟨rfl, f, o, rfl, f0, f1⟩
      obtain ⟨u, rfl⟩ : ∃ u, y = V.int u := by
        rw [List.getElem?_map] at hi
        cases e : ns[i]? with
        | none => rw [e] at hi; cases hi
        | some u => rw [e] at hi; exact ⟨u, (Option.some.inj hi).symm⟩
      refine ⟨_, rfl, _, _, rfl, rfl, .inl ⟨by omega, by omega⟩, _, rfl, _, _, rfl, rfl, .inl ⟨_, rfl, _, _, rfl, rfl, (by show (0 : Int) < 1000000411; decide), ?_⟩⟩
      exact ⟨rfl, _, _, rfl, Int.emod_nonneg _ (by decide), Int.emod_lt_of_pos _ (by decide)⟩
    · rintro σ' H' ⟨rfl, f, o, rfl, f0, f1⟩
      intro p hp
      refine ⟨_, rfl, _, _, rfl, .inl ((Same.newA hp).slA hs), fun c hc => ⟨_, rfl, ?_⟩⟩
      have npc : p ≠ c := ne_of_none upd_same hc
      have s2 : Same H' (upd (upd H' p (.dK [])) c (.lst (ns.map V.int))) := (Same.newA hp).trans (Same.newA hc)
      refine ⟨by rw [upd_ne npc]; exact upd_same, [(ck "cells", V.ref c), (ck "at", .int 0), (ck "digits", .int 0), (ck "count", .int 0), (ck "fold", .int f)], rfl, (by decide : 5 ≤ 15), ?_⟩
      rw [merge_pen]
      refine k p c _ (fun b o e => ?_) ⟨ns, 0, 0, 0, f, upd_same, .inl (by rw [upd_ne (Ne.symm npc)]; exact upd_same), by decide, by decide, by decide, by decide, f0, by omega⟩
      rw [upd_ne (ne_of_none e hp)]; exact s2 _ _ e
end
end Ag

set_option Elab.async false
set_option linter.all false
set_option maxRecDepth 100000
set_option maxHeartbeats 1000000
namespace Ag
open PySem PySem.Spec PyProof.Rows L2
/-- an error's __init__ of two fields -/
def spEx2 (C : Addr) (f g : Str) : Sp := fun vs H Q _ => ∃ (a : Addr) (x y : V), vs = [.ref a, x, y] ∧ H a = some (exo a C none) ∧ ∀ (d : Addr) H', H d = none → d ≠ a → (∀ b o, b ≠ a → H b = some o → H' b = some o) → H' a = some (exo a C (some d)) → H' d = some (exd d [(g, y), (f, x)]) → Q .non H'
section
variable {P : Program} {w : World} {K : PySem.W.Frag} {mg : Str → Option Value} {base : Heap} (T : Txt w K mg)
theorem ok_BadText_init : FnOk P w K mg base CX0 1 T.a_BadText___init__ T.d_BadText___init__ ["self", "line", "word"] (spEx2 T.C_BadText "line" "word") := by
  refine T.D_BadText___init__.fn.ok sc_BadText___init__ (fun vs H Q E h => ?_) (fun cdv A outer s H vs Q E hr h => ?_)
  · obtain ⟨a, x, y, rfl, _⟩ := h; rfl
  · obtain ⟨a, x, y, rfl, ha, k⟩ := h
    refine ⟨_, (pss_cons (ps_ost (pv 0) (pv 1))
      (pss_one (ps_ost (pv 0) (pv 2)))), ?_⟩
    refine ⟨_, rfl, _, rfl, a, T.C_BadText, rfl, T.ox_BadText, T.na_BadText_line, .inl ⟨ha, fun d hd nda => ?_⟩⟩
    refine ⟨_, rfl, _, rfl, a, T.C_BadText, rfl, T.ox_BadText, T.na_BadText_word, .inr ⟨d, [("line", x)], upd_same, by rw [upd_ne nda]; exact upd_same, Nat.le_of_ble_eq_true rfl, ?_⟩⟩
    refine k d _ hd nda (fun b o nb e => ?_) (by rw [upd_ne (Ne.symm nda)]; exact upd_same) upd_same
    have nbd : b ≠ d := ne_of_none e hd
    rw [upd_ne nbd, upd_ne nb, upd_ne nbd]; exact e
end
end Ag

set_option Elab.async false
set_option linter.all false
set_option maxRecDepth 100000
set_option maxHeartbeats 1000000
namespace Ag
open PySem PySem.Spec PyProof.Rows L2
/-- what a BadText that is let out leaves -/
def BadAt (C : Addr) (l s : Int) (H : Hp) (E : XK) : Prop := ∀ d H', Same H H' → H d = none → H' d = some (.xd [("word", .int s), ("line", .int l)]) → E (.ref C) (some d) H'
def linesD (x : Str) : List PyData := (Txt.split x "\n").map fun l => .list ((Txt.split l " ").map .str)
section
variable {P : Program} {w : World} {K : PySem.W.Frag} {mg : Str → Option Value} {base : Heap} (T : Txt w K mg)
/-- the lines of a text, each its words; what is no text is refused -/
def spLines (K : PySem.W.Frag) (B : Addr) : Sp := fun vs H Q E => ∃ v d, vs = [v] ∧ Dp K H v d ∧ (isiB "str" d = false → BadAt B 0 0 H E) ∧
  ∀ x, d = .str x → x.length ≤ 50000 ∧ (∀ l ∈ Txt.split x "\n", l.length ≤ 50000) ∧ (Txt.split x "\n").length ≤ 50000 ∧ ∀ l us H', Same H H' → H l = none → H' l = some (.lst us) → DfAll K (fun a => Fr (nn H) H a ∧ a ≠ l) H' us (linesD x) → Q (.ref l) H'
theorem run_ret {te : TE} {D : Ends} {σ : L2.St} {H : Hp} (h : te σ H D.rt) : tRet te D σ H := h
theorem ok_rows_of : FnOk P w K mg base (L2.CX P w) 3 T.a_rows_of T.d_rows_of ["text"] (spLines K T.C_BadText) := by
  have G_BadText___init__ := ok_BadText_init (P := P) (base := base) T
  refine T.D_rows_of.fn.okX sc_rows_of (fun vs H Q E h => ?_) (fun cdv A outer s H vs Q E hr h => ?_)
  · obtain ⟨v, d, rfl, _⟩ := h; rfl
  · obtain ⟨v, d, rfl, hv, kE, kQ⟩ := h
    refine ⟨_, (pss_cons (ps_if (pt_not (pt_val (pe_callB call_isi (by rfl) T.b_isinstance bt_isinstance (pa_cons (pv 0) (pa_cons (pe_bltn (v := .ty "str") (by rfl) T.b_str bt_str rfl) pa_nil))))) (pss_one (ps_raise rfl (takes_of rfl rfl rfl rfl) (pmk_oex T.ox_BadText T.ic_BadText T.ti_BadText (G_BadText___init__) (hr.mono (by omega)) T.D_BadText___init__.bd .nil pass0 (by rfl) T.g_BadText (pa_cons pe_int (pa_cons pe_int pa_nil))))) pss_nil)
      (pss_one (ps_ret (pe_lc (own := [("line", 1)]) rfl sc_rows_of.nd (pi_list (pe_split (pv 0) pe_str)) (blkOk_by (own := [("line", 1)]) (N := ["text", "line"]) (sc := defScope s_rows_of) (by decide +kernel)) (fun _ _ _ _ _ => (pg_name (i := 1) sc_rows_of.nd rfl (by first | exact Or.inl rfl | exact Or.inr rfl))) (fun _ _ _ _ _ => pts_nil) (fun _ _ _ _ _ => (pe_split (pv 1) pe_str)))))), ?_⟩
    have hvar : ED K (tVar 0) (start ["text", "line"] [v]) (nn H) H d := ed_var rfl (dp_df hv)
    have isi := et_not (et_B (ed_isi (T := "str") hvar (.inl rfl)))
    cases hb : isiB "str" d with
    | false =>
      rw [hb] at isi
      refine s_if (b := true) isi (fun _ H1 s1 => ?_) (fun h => nomatch h)
      refine ⟨(by decide : 2 ≤ 1000), fun a ha => ?_⟩
      refine ⟨a, .int 0, .int 0, rfl, upd_same, fun d H' hd nda keep ea ed => ⟨rfl, d, _, ea, ed, ?_, kE hb d _ (fun b o e => ?_) ?_ upd_same⟩⟩
      · rw [upd_ne nda] at hd; exact hd
      · have e1 := s1 _ _ e
        have nba : b ≠ a := ne_of_none e1 ha
        rw [upd_ne nda] at hd
        rw [upd_ne (ne_of_none e1 hd), del_ne nba]
        exact keep b o nba (by rw [upd_ne nba]; exact e1)
      · rw [upd_ne nda] at hd; exact s1.freshA hd
    | true =>
      cases d with
      | str x =>
        obtain ⟨l1, l2, l3, kk⟩ := kQ x rfl
        refine s_if (b := false) isi (fun h => nomatch h) (fun _ H1 s1 => ?_)
        refine run_ret (lc_run (F := nn H) (f := fun _ => true) (m := fun d => match d with | .str l => .list ((Txt.split l " ").map .str) | d => d) (ei_list (ed_split hvar (ed_str (x := "\n")) (by decide +kernel) (by omega))) (by rw [List.length_map]; omega) (fun F2 H2 e2 v2 d2 hm hd2 => ?_) H1 s1 _ fun D ys H' s2 nD eD rD => ?_)
        · obtain ⟨l, hl, rfl⟩ := List.mem_map.mp hm
          have := l2 l hl
          exact ⟨_, fun Q q => q, rfl, et_yes, fun _ => ed_split (ed_var rfl hd2) (ed_str (x := " ")) (by decide +kernel) (by omega)⟩
        · refine kk D ys H' (s1.trans s2) (s1.freshA nD) eD ?_
          rw [filt_tt, List.map_map] at rD
          exact dfs_mono (Same.refl _) (fun a z => ⟨z.1.imp id fun q => s1.freshA q, z.2⟩) rD
      | _ => cases hb
end
end Ag

set_option Elab.async false
set_option linter.all false
set_option maxRecDepth 100000
set_option maxHeartbeats 1000000
namespace Ag
open PySem PySem.Spec PyProof.Rows L2
abbrev cuF (rl : Addr) (s : Int) : List (Str × V) := [("rows", V.ref rl), ("line", .int 0), ("at", .int s)]
theorem cw_line : (("line" : Str) == ("rows" : Str)) = false := by decide +kernel
theorem cw_at : (("at" : Str) == ("rows" : Str)) = false := by decide +kernel
theorem cl_at : (("at" : Str) == ("line" : Str)) = false := by decide +kernel
theorem cnr_line : ¬ (("rows" : Str) = "line") := by decide +kernel
theorem cnr_at : ¬ (("rows" : Str) = "at") := by decide +kernel
theorem cnl_at : ¬ (("line" : Str) = "at") := by decide +kernel
section
variable {rl : Addr} {s t : Int}
theorem cu_rows : (cuF rl s).lookup ("rows" : Str) = some (.ref rl) := rfl
theorem cu_line : (cuF rl s).lookup ("line" : Str) = some (.int 0) := by unfold cuF; rw [List.lookup_cons, cw_line]; rfl
theorem cu_at : (cuF rl s).lookup ("at" : Str) = some (.int s) := by
  unfold cuF; rw [List.lookup_cons, cw_at]
  show List.lookup _ _ = _
  rw [List.lookup_cons, cl_at]; rfl
theorem cu_put2 : putF "line" (.int 0) (putF "rows" (.ref rl) []) = ([("rows", .ref rl), ("line", V.int 0)] : List (Str × V)) := by
  show (if ("rows" : Str) = "line" then _ else (("rows" : Str), V.ref rl) :: putF "line" (V.int 0) []) = _
  rw [if_neg cnr_line]; rfl
theorem cu_put3 : putF "at" (.int s) ([("rows", .ref rl), ("line", V.int 0)] : List (Str × V)) = cuF rl s := by
  show (if ("rows" : Str) = "at" then _ else (("rows" : Str), V.ref rl) :: (if ("line" : Str) = "at" then _ else (("line" : Str), V.int 0) :: putF "at" (V.int s) [])) = _
  rw [if_neg cnr_at, if_neg cnl_at]; rfl
theorem cu_put4 : putF "at" (.int t) (cuF rl s) = cuF rl t := by
  show (if ("rows" : Str) = "at" then _ else (("rows" : Str), V.ref rl) :: (if ("line" : Str) = "at" then _ else (("line" : Str), V.int 0) :: (if ("at" : Str) = "at" then [(("at" : Str), V.int t)] else _))) = _
  rw [if_neg cnr_at, if_neg cnl_at, if_pos rfl]
end
/-- a cursor at a spot of the first of n lines -/
structure CuAt (K : PySem.W.Frag) (C c dx rl : Addr) (ws : List Str) (n : Nat) (s : Int) (H : Hp) : Prop where
  obj : H c = some (.ins C dx (cuF rl s))
  rows : ∃ us wl, SqL K H rl us ∧ us.length = n ∧ us[0]? = some (.ref wl) ∧ SqL K H wl (ws.map V.str)
  wlen : ws.length ≤ 50000
  nlen : n ≤ 50000
section
variable {K : PySem.W.Frag} {C c dx rl : Addr} {ws : List Str} {n : Nat} {s t : Int} {H H' : Hp}
theorem CuAt.same (x : CuAt K C c dx rl ws n s H) (e : Same H H') : CuAt K C c dx rl ws n s H' :=
  let ⟨us, wl, a, b, d, f⟩ := x.rows
  ⟨e _ _ x.obj, ⟨us, wl, e.slA a, b, d, e.slA f⟩, x.wlen, x.nlen⟩
theorem sl_but {fs : List (Str × V)} {a : Addr} {xs : List V} (hc : H c = some (.ins C dx fs)) (kp : ∀ b o, b ≠ c → H b = some o → H' b = some o) (h : SqL K H a xs) : SqL K H' a xs := by
  rcases h with (h | ⟨o, h⟩) | h
  · exact .inl (.inl (kp _ _ (fun q => by rw [q, hc] at h; cases h) h))
  · exact .inl (.inr ⟨o, kp _ _ (fun q => by rw [q, hc] at h; cases h) h⟩)
  · exact .inr h
theorem CuAt.move (x : CuAt K C c dx rl ws n s H) (kp : ∀ b o, b ≠ c → H b = some o → H' b = some o) (e : H' c = some (.ins C dx (cuF rl t))) : CuAt K C c dx rl ws n t H' :=
  let ⟨us, wl, a, b, d, f⟩ := x.rows
  ⟨e, ⟨us, wl, sl_but x.obj kp a, b, d, sl_but x.obj kp f⟩, x.wlen, x.nlen⟩
end
section
variable {P : Program} {w : World} {K : PySem.W.Frag} {mg : Str → Option Value} {base : Heap} (T : Txt w K mg)
/-- Cursor(rows) -/
def spCuInit (K : PySem.W.Frag) (C : Addr) : Sp := fun vs H Q _ => ∃ c dx rl, vs = [.ref c, .ref rl] ∧ H c = some (.ins C dx []) ∧ ∀ H', (∀ b o, b ≠ c → H b = some o → H' b = some o) → H' c = some (.ins C dx (cuF rl 0)) → Q .non H'
theorem ok_cu_init : FnOk P w K mg base CX0 1 T.a_Cursor___init__ T.d_Cursor___init__ ["self", "rows"] (spCuInit K T.C_Cursor) := by
  refine T.D_Cursor___init__.fn.ok sc_Cursor___init__ (fun vs H Q E h => ?_) (fun cdv A outer s H vs Q E hr h => ?_)
  · obtain ⟨c, dx, rl, rfl, _⟩ := h; rfl
  · obtain ⟨c, dx, rl, rfl, hC, k⟩ := h
    refine ⟨_, (pss_cons (ps_fld (pv 0) (pv 1) rfl)
      (pss_cons (ps_fld (pv 0) pe_int rfl)
      (pss_one (ps_fld (pv 0) pe_int rfl)))), ?_⟩
    refine ⟨_, rfl, _, rfl, c, T.C_Cursor, dx, _, rfl, hC, T.cl_Cursor, T.na_Cursor_rows, (by decide : 0 < 1000), ?_⟩
    refine ⟨_, rfl, c, T.C_Cursor, dx, _, rfl, upd_same, T.cl_Cursor, T.na_Cursor_line, (by show 1 < 1000; decide), ?_⟩
    refine ⟨_, rfl, c, T.C_Cursor, dx, _, rfl, upd_same, T.cl_Cursor, T.na_Cursor_at, ?_, ?_⟩
    · rw [cu_put2]; exact (by show 2 < 1000; decide)
    · refine k _ (fun b o nb e => ?_) ?_
      · rw [upd_ne nb, upd_ne nb, upd_ne nb]; exact e
      · rw [cu_put2, cu_put3]; exact upd_same
/-- the word at the spot, or None behind the last -/
def spSeen (K : PySem.W.Frag) (C : Addr) : Sp := fun vs H Q _ => ∃ c dx rl ws n, ∃ s : Nat, vs = [.ref c] ∧ CuAt K C c dx rl ws n s H ∧ (∀ x, ws[s]? = some x → Q (.str x) H) ∧ (ws[s]? = none → Q .non H)
theorem ok_seen : FnOk P w K mg base CX0 1 T.a_Cursor_seen T.d_Cursor_seen ["self"] (spSeen K T.C_Cursor) := by
  refine T.D_Cursor_seen.fn.ok sc_Cursor_seen (fun vs H Q E h => ?_) (fun cdv A outer s H vs Q E hr h => ?_)
  · obtain ⟨c, dx, rl, ws, n, s, rfl, _⟩ := h; rfl
  · obtain ⟨c, dx, rl, ws, n, s', rfl, hC, k1, k2⟩ := h
    obtain ⟨us, wl, ha, hn, h0, hw⟩ := hC.rows
    have wlen := hC.wlen
    refine ⟨_, (pss_cons (ps_set (i := 1) sc_Cursor_seen.nd rfl (by first | exact Or.inl rfl | exact Or.inr rfl) (pe_ix ix_seq (pe_fld (pv 0) rfl) (pe_fld (pv 0) rfl) (fun _ _ => rfl)))
      (pss_one (ps_ret (pe_ifExp (pt_cmpR op_lt (pe_fld (pv 0) rfl) (pe_callB call_len (by rfl) T.b_len bt_len (pa_cons (pv 1) pa_nil)) (nomark _)) (pe_ix ix_seq (pv 1) (pe_fld (pv 0) rfl) (fun _ _ => rfl)) pe_non)))), ?_⟩
    refine ⟨_, rfl, c, T.C_Cursor, dx, _, _, rfl, hC.obj, T.cl_Cursor, T.na_Cursor_rows, cu_rows, _, rfl, c, T.C_Cursor, dx, _, _, rfl, hC.obj, T.cl_Cursor, T.na_Cursor_line, cu_line, .inl ⟨_, _, _, _, rfl, rfl, ha, (atI_nat h0 : atI us ((0 : Nat) : Int) = some (V.ref wl)), ?_⟩⟩
    refine ⟨_, rfl, c, T.C_Cursor, dx, _, _, rfl, hC.obj, T.cl_Cursor, T.na_Cursor_at, cu_at, _, rfl, _, _, rfl, .inl ⟨_, hw, rfl⟩, _, _, rfl, rfl, _, rfl, ?_⟩
    refine ite2 (fun h => ?_) (fun h => ?_)
    · have h := of_decide_eq_true h
      rw [List.length_map] at h
      have hx : ws[s']? = some (ws[s']'(by omega)) := List.getElem?_eq_getElem _
      exact ⟨_, rfl, _, rfl, c, T.C_Cursor, dx, _, _, rfl, hC.obj, T.cl_Cursor, T.na_Cursor_at, cu_at, .inl ⟨_, _, _, _, rfl, rfl, hw, atI_nat (by rw [List.getElem?_map, hx]; rfl), k1 _ hx⟩⟩
    · refine k2 (List.getElem?_eq_none ?_)
      by_cases z : ws.length ≤ s'
      · exact z
      · exact absurd (decide_eq_true (by rw [List.length_map]; omega)) h
def spRefuse (C B : Addr) : Sp := fun vs H Q E => ∃ c dx rl s, vs = [.ref c] ∧ H c = some (.ins C dx (cuF rl s)) ∧ BadAt B 1 (s + 1) H E
theorem ok_refuse : FnOk P w K mg base (L2.CX P w) 3 T.a_Cursor_refuse T.d_Cursor_refuse ["self"] (spRefuse T.C_Cursor T.C_BadText) := by
  have G_BadText___init__ := ok_BadText_init (P := P) (base := base) T
  refine T.D_Cursor_refuse.fn.okX sc_Cursor_refuse (fun vs H Q E h => ?_) (fun cdv A outer s H vs Q E hr h => ?_)
  · obtain ⟨c, dx, rl, s, rfl, _⟩ := h; rfl
  · obtain ⟨c, dx, rl, s', rfl, hR, kE⟩ := h
    refine ⟨_, (pss_one (ps_raise rfl (takes_of rfl rfl rfl rfl) (pmk_oex T.ox_BadText T.ic_BadText T.ti_BadText (G_BadText___init__) (hr.mono (by omega)) T.D_BadText___init__.bd .nil pass0 (by rfl) T.g_BadText (pa_cons (pe_op op_add (pe_fld (pv 0) rfl) pe_int) (pa_cons (pe_op op_add (pe_fld (pv 0) rfl) pe_int) pa_nil))))), ?_⟩
    refine ⟨_, rfl, c, T.C_Cursor, dx, _, _, rfl, hR, T.cl_Cursor, T.na_Cursor_line, cu_line, _, _, rfl, rfl, _, rfl, c, T.C_Cursor, dx, _, _, rfl, hR, T.cl_Cursor, T.na_Cursor_at, cu_at, _, _, rfl, rfl, (by decide : 2 ≤ 1000), fun a ha => ?_⟩
    refine ⟨a, .int 1, .int (s' + 1), rfl, upd_same, fun d H' hd nda keep ea ed => ⟨rfl, d, _, ea, ed, ?_, kE d _ (fun b o e => ?_) ?_ upd_same⟩⟩
    · rw [upd_ne nda] at hd; exact hd
    · have nba : b ≠ a := ne_of_none e ha
      rw [upd_ne nda] at hd
      rw [upd_ne (ne_of_none e hd), del_ne nba]
      exact keep b o nba (by rw [upd_ne nba]; exact e)
    · rw [upd_ne nda] at hd; exact hd
end
end Ag

set_option Elab.async false
set_option linter.all false
set_option maxRecDepth 100000
set_option maxHeartbeats 1000000
namespace Ag
open PySem PySem.Spec PyProof.Rows L2
section
variable {P : Program} {w : World} {K : PySem.W.Frag} {mg : Str → Option Value} {base : Heap} (T : Txt w K mg)
/-- a name at the spot is taken, all else refused -/
def spTake (K : PySem.W.Frag) (C B nm : Addr) : Sp := fun vs H Q E => ∃ c dx rl ws n, ∃ s : Nat, vs = [.ref c, .ref nm] ∧ CuAt K C c dx rl ws n s H ∧ (∀ x ∈ ws, gd (.str x) = true) ∧
  (∀ x, ws[s]? = some x → nameB x = true → ∀ H', (∀ b o, b ≠ c → H b = some o → H' b = some o) → CuAt K C c dx rl ws n ((s : Int) + 1) H' → Q (.str x) H') ∧
  ((∀ x, ws[s]? = some x → nameB x = false) → BadAt B 1 ((s : Int) + 1) H E)
theorem ok_take : FnOk P w K mg base (L2.CX P w) 4 T.a_Cursor_take T.d_Cursor_take ["self", "is_right"] (spTake K T.C_Cursor T.C_BadText T.a_is_name) := by
  have G_Cursor_refuse := ok_refuse (P := P) (base := base) T
  have G_Cursor_seen := ok_seen (P := P) (base := base) T
  have G_is_name := ok_is_name (P := P) (base := base) T
  refine T.D_Cursor_take.fn.okX sc_Cursor_take (fun vs H Q E h => ?_) (fun cdv A outer s H vs Q E hr h => ?_)
  · obtain ⟨c, dx, rl, ws, n, s, rfl, _⟩ := h; rfl
  · obtain ⟨c, dx, rl, ws, n, s', rfl, hC, hg, k1, k2⟩ := h
    refine ⟨_, (pss_cons (ps_set (i := 2) sc_Cursor_take.nd rfl (by first | exact Or.inl rfl | exact Or.inr rfl) (pe_meth0 (pv 0) T.cl_Cursor T.mt_Cursor_seen (G_Cursor_seen) (hr.mono (by omega)) T.D_Cursor_seen.bd .nil pass0))
      (C8.pss_cut (ps_if (PW.pt (pw_or (pt_cmpR op_isN (pv 2) pe_non (nomark _)) (pw_or1 (pt_not (pt_val (pe_callL (i := 1) (G_is_name) (hr.mono (by omega)) rfl (.inl rfl) T.D_is_name.fn.kp T.D_is_name.bd .nil pass0 (pa_cons (pv 2) pa_nil))))))) (pss_one (ps_expr (pe_meth0 (pv 0) T.cl_Cursor T.mt_Cursor_refuse (G_Cursor_refuse) (hr.mono (by omega)) T.D_Cursor_refuse.bd .nil (passes_call (takes_of rfl rfl rfl rfl) fun _ _ _ _ z => z)))) pss_nil)
      (pss_cons (ps_fldaug (pv 0) pe_int iop_add)
      (pss_one (ps_ret (pv 2)))))), ?_⟩
    refine ⟨_, rfl, c, dx, _, rfl, hC.obj, rfl, c, dx, rl, ws, n, s', rfl, hC, fun x hx => ?_, fun hn => ?_⟩
    · refine ⟨fun σ' H' => σ' = [some (.ref c), some (.ref T.a_is_name), some (.str x)] ∧ Same H H' ∧ nameB x = true, ?_, ?_⟩
      · refine ⟨_, rfl, rfl, _, rfl, ite2 (fun h => nomatch (of_decide_eq_true h)) (fun _ => ?_)⟩
        refine ⟨rfl, _, rfl, _, .str x, rfl, .str x, hg x (List.mem_of_getElem? hx), fun H1 s1 => ⟨_, rfl, ?_⟩⟩
        cases hb : nameB x with
        | true =>
          have e : isName (.str x) = true := hb
          rw [e]
          exact ⟨rfl, s1, rfl⟩
        | false =>
          have e : isName (.str x) = false := hb
          rw [e]
          exact ⟨_, rfl, c, dx, _, rfl, (hC.same s1).obj, rfl, c, dx, rl, s', rfl, (hC.same s1).obj, fun d H2 s2 hd e2 => k2 (fun y hy => by rw [hx] at hy; cases hy; exact hb) d H2 (s1.trans s2) (s1.freshA hd) e2⟩
      · rintro σ' H1 ⟨rfl, s1, hb⟩
        have hC1 := hC.same s1
        refine ⟨_, rfl, c, T.C_Cursor, dx, _, _, rfl, hC1.obj, T.cl_Cursor, T.na_Cursor_at, cu_at, _, _, rfl, rfl, dx, _, hC1.obj, (by show 3 < 1000; decide), ?_⟩
        rw [cu_put4]
        have kp : ∀ b o, b ≠ c → H1 b = some o → upd H1 c (.ins T.C_Cursor dx (cuF rl ((s' : Int) + 1))) b = some o := fun b o nb e => by rw [upd_ne nb]; exact e
        exact ⟨_, rfl, k1 x hx hb _ (fun b o nb e => kp b o nb (s1 _ _ e)) (hC1.move kp upd_same)⟩
    · refine ⟨fun _ _ => False, ?_, fun _ _ h => h.elim⟩
      refine ⟨_, rfl, rfl, _, rfl, ite2 (fun _ => ?_) (fun h => absurd (decide_eq_true rfl) h)⟩
      exact ⟨_, rfl, c, dx, _, rfl, hC.obj, rfl, c, dx, rl, s', rfl, hC.obj, k2 fun x hx => by rw [hn] at hx; cases hx⟩
/-- the end of the line, or a refusal -/
def spNeedEnd (K : PySem.W.Frag) (C B : Addr) : Sp := fun vs H Q E => ∃ c dx rl ws n, ∃ s : Nat, vs = [.ref c] ∧ CuAt K C c dx rl ws n s H ∧ (s < ws.length → BadAt B 1 ((s : Int) + 1) H E) ∧ (¬ s < ws.length → Q .non H)
theorem ok_need_end : FnOk P w K mg base (L2.CX P w) 4 T.a_Cursor_need_end T.d_Cursor_need_end ["self"] (spNeedEnd K T.C_Cursor T.C_BadText) := by
  have G_Cursor_refuse := ok_refuse (P := P) (base := base) T
  have G_Cursor_seen := ok_seen (P := P) (base := base) T
  refine T.D_Cursor_need_end.fn.okX sc_Cursor_need_end (fun vs H Q E h => ?_) (fun cdv A outer s H vs Q E hr h => ?_)
  · obtain ⟨c, dx, rl, ws, n, s, rfl, _⟩ := h; rfl
  · obtain ⟨c, dx, rl, ws, n, s', rfl, hC, k1, k2⟩ := h
    refine ⟨_, (pss_one (ps_if (pt_cmpR op_notN (pe_meth0 (pv 0) T.cl_Cursor T.mt_Cursor_seen (G_Cursor_seen) (hr.mono (by omega)) T.D_Cursor_seen.bd .nil pass0) pe_non (nomark _)) (pss_one (ps_expr (pe_meth0 (pv 0) T.cl_Cursor T.mt_Cursor_refuse (G_Cursor_refuse) (hr.mono (by omega)) T.D_Cursor_refuse.bd .nil (passes_call (takes_of rfl rfl rfl rfl) fun _ _ _ _ z => z)))) pss_nil)), ?_⟩
    refine ⟨_, rfl, c, dx, _, rfl, hC.obj, rfl, c, dx, rl, ws, n, s', rfl, hC, fun x hx => ?_, fun hn => ?_⟩
    · refine ⟨rfl, _, rfl, ite2 (fun _ => ?_) (fun h => absurd rfl h)⟩
      exact ⟨_, rfl, c, dx, _, rfl, hC.obj, rfl, c, dx, rl, s', rfl, hC.obj, k1 (List.getElem?_eq_some_iff.mp hx).1⟩
    · refine ⟨rfl, _, rfl, ite2 (fun h => nomatch h) (fun _ => ?_)⟩
      exact k2 fun z => by rw [List.getElem?_eq_getElem z] at hn; cases hn
def spIsLast (K : PySem.W.Frag) (C : Addr) : Sp := fun vs H Q _ => ∃ c dx rl ws n, ∃ s : Int, vs = [.ref c] ∧ CuAt K C c dx rl ws n s H ∧ Q (.bl (decide (n = 1))) H
theorem ok_is_last : FnOk P w K mg base CX0 1 T.a_Cursor_is_last T.d_Cursor_is_last ["self"] (spIsLast K T.C_Cursor) := by
  refine T.D_Cursor_is_last.fn.ok sc_Cursor_is_last (fun vs H Q E h => ?_) (fun cdv A outer s H vs Q E hr h => ?_)
  · obtain ⟨c, dx, rl, ws, n, s, rfl, _⟩ := h; rfl
  · obtain ⟨c, dx, rl, ws, n, s', rfl, hC, k⟩ := h
    obtain ⟨us, wl, ha, hn, h0, hw⟩ := hC.rows
    refine ⟨_, (pss_one (ps_ret (pe_cmpR op_eq (pe_op op_add (pe_fld (pv 0) rfl) pe_int) (pe_callB call_len (by rfl) T.b_len bt_len (pa_cons (pe_fld (pv 0) rfl) pa_nil)) (nomark _)))), ?_⟩
    refine ⟨_, rfl, c, T.C_Cursor, dx, _, _, rfl, hC.obj, T.cl_Cursor, T.na_Cursor_line, cu_line, _, _, rfl, rfl, _, rfl, c, T.C_Cursor, dx, _, _, rfl, hC.obj, T.cl_Cursor, T.na_Cursor_rows, cu_rows, _, _, rfl, .inl ⟨_, ha, rfl⟩, rfl, ?_⟩
    have e : decide (V.int (0 + 1) = V.int (us.length : Int)) = decide (n = 1) := by
      rw [hn]
      by_cases z : n = 1
      · subst z; rfl
      · rw [decide_eq_false z, decide_eq_false (fun q => z (by have := V.int.inj q; omega))]
    rw [e]; exact k
/-- behind the one line that may be there -/
def spGoesOn (K : PySem.W.Frag) (C B : Addr) : Sp := fun vs H Q E => ∃ c dx rl ws n, ∃ s : Nat, vs = [.ref c, .bl true, .bl false] ∧ CuAt K C c dx rl ws n s H ∧ (s < ws.length ∨ n ≠ 1 → BadAt B 1 ((s : Int) + 1) H E) ∧ (¬ s < ws.length → n = 1 → ∀ H', Same H H' → Q (.bl false) H')
theorem ok_goes_on : FnOk P w K mg base (L2.CX P w) 5 T.a_Cursor_goes_on T.d_Cursor_goes_on ["self", "may_end", "may_follow"] (spGoesOn K T.C_Cursor T.C_BadText) := by
  have G_Cursor_refuse := ok_refuse (P := P) (base := base) T
  have G_Cursor_need_end := ok_need_end (P := P) (base := base) T
  have G_Cursor_is_last := ok_is_last (P := P) (base := base) T
  refine T.D_Cursor_goes_on.fn.okX sc_Cursor_goes_on (fun vs H Q E h => ?_) (fun cdv A outer s H vs Q E hr h => ?_)
  · obtain ⟨c, dx, rl, ws, n, s, rfl, _⟩ := h; rfl
  · obtain ⟨c, dx, rl, ws, n, s', rfl, hC, k1, k2⟩ := h
    refine ⟨_, (pss_cons (ps_expr (pe_meth0 (pv 0) T.cl_Cursor T.mt_Cursor_need_end (G_Cursor_need_end) (hr.mono (by omega)) T.D_Cursor_need_end.bd .nil (passes_call (takes_of rfl rfl rfl rfl) fun _ _ _ _ z => z)))
      (C8.pss_cut (ps_if (PW.pt (pw_or (PW.pt (pw_and (pt_val (pe_meth0 (pv 0) T.cl_Cursor T.mt_Cursor_is_last (G_Cursor_is_last) (hr.mono (by omega)) T.D_Cursor_is_last.bd .nil pass0)) (pw_and1 (pt_not (pt_val (pv 1)))))) (pw_or1 (PW.pt (pw_and (pt_not (pt_val (pe_meth0 (pv 0) T.cl_Cursor T.mt_Cursor_is_last (G_Cursor_is_last) (hr.mono (by omega)) T.D_Cursor_is_last.bd .nil pass0))) (pw_and1 (pt_not (pt_val (pv 2))))))))) (pss_one (ps_expr (pe_meth0 (pv 0) T.cl_Cursor T.mt_Cursor_refuse (G_Cursor_refuse) (hr.mono (by omega)) T.D_Cursor_refuse.bd .nil (passes_call (takes_of rfl rfl rfl rfl) fun _ _ _ _ z => z)))) pss_nil)
      (pss_cons (ps_if (pt_val (pe_meth0 (pv 0) T.cl_Cursor T.mt_Cursor_is_last (G_Cursor_is_last) (hr.mono (by omega)) T.D_Cursor_is_last.bd .nil pass0)) (pss_one (ps_ret pe_bl)) pss_nil)
      (pss_cons (ps_fldaug (pv 0) pe_int iop_add)
      (pss_cons (ps_fld (pv 0) pe_int rfl)
      (pss_one (ps_ret pe_bl))))))), ?_⟩
    refine ⟨_, rfl, c, dx, _, rfl, hC.obj, rfl, c, dx, rl, ws, n, s', rfl, hC, fun hs => k1 (.inl hs), fun hs => ?_⟩
    have hl : ∀ H1, Same H H1 → ET (tB (tMeth T.C_Cursor "is_last" (spIsLast K T.C_Cursor) [] E0 (tVar 0) tNil)) (start ["self", "may_end", "may_follow"] [.ref c, .bl true, .bl false]) H1 (decide (n = 1)) := fun H1 s1 H2 s2 Q q =>
      ⟨_, rfl, c, dx, _, rfl, ((hC.same s1).same s2).obj, rfl, c, dx, rl, ws, n, s', rfl, (hC.same s1).same s2, _, rfl, q H2 (Same.refl _)⟩
    have m1 : ∀ H1, ET (tB (tVar 1)) (start ["self", "may_end", "may_follow"] [.ref c, .bl true, .bl false]) H1 true := fun H1 => et_B (K := K) (F := nn H1) (ed_var rfl (.bl true))
    have m2 : ∀ H1, ET (tB (tVar 2)) (start ["self", "may_end", "may_follow"] [.ref c, .bl true, .bl false]) H1 false := fun H1 => et_B (K := K) (F := nn H1) (ed_var rfl (.bl false))
    have tst : ∀ H1, Same H H1 → ET _ (start ["self", "may_end", "may_follow"] [.ref c, .bl true, .bl false]) H1 (!decide (n = 1)) := fun H1 s1 => et_is (et_or (et_and (hl H1 s1) fun _ => et_not (m1 H1)) fun _ => et_and (et_not (hl H1 s1)) fun _ => et_not (m2 H1)) (by cases decide (n = 1) <;> rfl)
    refine ⟨fun σ' H' => σ' = start ["self", "may_end", "may_follow"] [.ref c, .bl true, .bl false] ∧ Same H H' ∧ n = 1, ?_, ?_⟩
    · refine s_if (tst H (Same.refl _)) (fun hb H1 s1 => ?_) (fun hb H1 s1 => ⟨rfl, s1, ?_⟩)
      · have hn : n ≠ 1 := fun z => by rw [decide_eq_true z] at hb; cases hb
        exact ⟨_, rfl, c, dx, _, rfl, (hC.same s1).obj, rfl, c, dx, rl, s', rfl, (hC.same s1).obj, fun d H2 s2 hd e2 => k1 (.inr hn) d H2 (s1.trans s2) (s1.freshA hd) e2⟩
      · by_cases z : n = 1
        · exact z
        · rw [decide_eq_false z] at hb; cases hb
    · rintro σ' H1 ⟨rfl, s1, hn⟩
      refine s_if (hl H1 s1) (fun _ H2 s2 => ?_) (fun hb => by rw [decide_eq_true hn] at hb; cases hb)
      exact k2 hs hn H2 (s1.trans s2)
end
end Ag

set_option Elab.async false
set_option linter.all false
set_option maxRecDepth 100000
set_option maxHeartbeats 1000000
namespace Ag
open PySem PySem.Spec PyProof.Rows L2
/-! ### duties as a type -/
inductive Kd | row | steps | never
def kdS : Kd → Str | .row => "row" | .steps => "steps" | .never => "never"
inductive Pl
  | call (w : Str)
  | answer (a b : Str)
  | many (k : Kd) (w : List Str)
def nmP : Pl → List Str | .call w => [w] | .answer a b => [a, b] | .many _ w => w
def kindS : Pl → Str | .call _ => "call" | .answer _ _ => "answer" | .many k _ => kdS k
def plD : Pl → PyData
  | .call w => .tuple [.str "call", .str w]
  | .answer a b => .tuple [.str "answer", .str a, .str b]
  | .many k w => .tuple [.str (kdS k), .tuple (w.map .str)]
/-- a plain duty that is right -/
structure OkP (p : Pl) : Prop where
  as : ∀ x ∈ nmP p, As 12 x
  len : 1 ≤ (nmP p).length ∧ (nmP p).length ≤ 4
  ans : ∀ a b, p = .answer a b → a ≠ b
  two : ∀ k w, p = .many k w → 2 ≤ w.length
  nam : ∀ x ∈ nmP p, nameB x = true
/-- duties: plain ones, and two joined -/
inductive Dt
  | pl (p : Pl)
  | jn (al : Bool) (a b : Dt)
def jnS (al : Bool) : Str := if al then "all" else "any"
def dtD : Dt → PyData
  | .pl p => plD p
  | .jn al a b => .tuple [.str (jnS al), .tuple [dtD a, dtD b]]
def OkD : Dt → Prop
  | .pl p => OkP p
  | .jn _ a b => OkD a ∧ OkD b
def dep : Dt → Nat
  | .pl _ => 0
  | .jn _ a b => max (dep a) (dep b) + 1
/-- how many plain ones -/
def npl : Dt → Nat
  | .pl _ => 1
  | .jn _ a b => npl a + npl b
/-- the words of a duty -/
def wdP (p : Pl) : List Str := kindS p :: (nmP p ++ ([";"] : List Str))
def wdD : Dt → List Str
  | .pl p => wdP p
  | .jn al a b => jnS al :: ("2" : Str) :: (wdD a ++ wdD b)
theorem npl_pos : ∀ d : Dt, 1 ≤ npl d
  | .pl _ => Nat.le_refl 1
  | .jn _ a b => by have := npl_pos a; show 1 ≤ npl a + npl b; omega
end Ag

set_option Elab.async false
set_option linter.all false
set_option maxRecDepth 100000
set_option maxHeartbeats 1000000
namespace Ag
open PySem PySem.Spec PyProof.Rows L2
theorem nm_as {i : Nat} {s : Str} (hi : i < 32) (h : Nm i s) : As 12 s := by
  obtain ⟨a, b, rfl, h1, h2, h3⟩ := h
  obtain ⟨d1, d2, d3⟩ := digs_ok i hi
  have hl : (S (a ++ Digs i ++ b)).length = a.length + (Digs i).length + b.length := by rw [SX.S_len, List.length_append, List.length_append]
  refine ⟨fun c hc => ?_, by omega⟩
  have hc : c ∈ a ++ Digs i ++ b := hc
  rcases List.mem_append.mp hc with hc | hc
  · rcases List.mem_append.mp hc with hc | hc
    · have := h3 c (List.mem_append_left _ hc); omega
    · have := d3 c hc; omega
  · have := h3 c (List.mem_append_right _ hc); omega
/-- calls: names, plain, some of them -/
def GoodNames (ns : List Str) : Prop := ns.Nodup ∧ ns.length ≤ 4 ∧ 1 ≤ ns.length ∧ ∀ s ∈ ns, nameB s = true ∧ As 12 s
theorem good_names {m : Nat} {ns : List Str} (h : Nms m ns) (h1 : 1 ≤ m) (h4 : m ≤ 4) : GoodNames ns := by
  refine ⟨nms_nodup (by omega) h, by rw [nms_len h]; exact h4, by rw [nms_len h]; exact h1, fun s hs => ?_⟩
  obtain ⟨j, hj, hn⟩ := nms_mem h hs
  exact ⟨nm_name (by omega) hn, nm_as (by omega) hn⟩
theorem cut2 (ys : List V) : cutV ys none (some 2) = ys.take 2 := by
  unfold cutV
  rw [HT.sIx_none]
  have e : HT.sIx ys.length ys.length (some (2 : Int)) = min 2 ys.length := HT.sIx_nat ..
  rw [e, List.drop_zero, Nat.sub_zero]
  by_cases h : 2 ≤ ys.length
  · rw [Nat.min_eq_left h]
  · rw [Nat.min_eq_right (by omega), List.take_length, List.take_of_length_le (by omega)]
section
variable {K : PySem.W.Frag} {σ : L2.St} {H : Hp}
theorem run_ifcA {t : TT} {b : Bool} {v1 v2 : V} {Q : List V → Hp → Prop} (h : ET t σ H b) (k : ∀ H1, Same H H1 → Q [if b then v1 else v2] H1) : tCons (tIf t (tC v1) (tC v2)) tNil σ H Q := h H (Same.refl _) _ fun H1 s1 => by
  cases b with
  | true => exact k H1 s1
  | false => exact k H1 s1
end
theorem pick_str {xs : List Str} {i : Nat} {v : V} (h : (xs.map V.str)[i]? = some v) : ∃ s ∈ xs, v = .str s := by
  obtain ⟨s, hs, e⟩ := List.mem_map.mp (List.mem_of_getElem? h)
  exact ⟨s, hs, e.symm⟩
def spSP (K : PySem.W.Frag) : Sp := fun vs H Q _ => ∃ (p c cs : Addr) (ns : List Str) (n : Nat), vs = [.ref p, .ref cs] ∧ Pen p c n H ∧ SqT K H cs (ns.map V.str) ∧ GoodNames ns ∧ n + 1000000 < 1000000000000 ∧
  ∀ v q H', Dp K H' v (plD q) → OkP q → (∀ x ∈ nmP q, x ∈ ns) → But p H H' → Pen p c (n + 100) H' → Q v H'
section
variable {P : Program} {w : World} {K : PySem.W.Frag} {mg : Str → Option Value} {base : Heap} (T : Txt w K mg)
theorem ok_law_some_plain : FnOk P w K mg base CX0 3 T.a_law_some_plain T.d_law_some_plain ["pen", "calls"] (spSP K) := by
  have G_law_pick := ok_pick (P := P) (base := base) T
  have G_law_shuffled := ok_shuf (P := P) (base := base) T
  have G_law_draw := ok_draw (P := P) (base := base) T
  refine T.D_law_some_plain.fn.ok sc_law_some_plain (fun vs H Q E h => ?_) (fun cdv A outer s H vs Q E hr h => ?_)
  · obtain ⟨p, c, cs, ns, n, rfl, _⟩ := h; rfl
  · obtain ⟨p, c, cs, ns, n, rfl, hP, hs, ⟨nd, n4, n1, hN⟩, nb, k⟩ := h
    refine ⟨_, (pss_cons (ps_set (i := 2) sc_law_some_plain.nd rfl (by first | exact Or.inl rfl | exact Or.inr rfl) (pe_call (G_law_pick) (hr.mono (by omega)) (by rfl) T.D_law_pick.mg T.D_law_pick.fn.kp T.D_law_pick.bd .nil pass0 (pa_cons (pv 0) (pa_cons (pe_lst (pa_cons pe_str (pa_cons pe_str (pa_cons pe_str (pa_cons pe_str (pa_cons pe_str (pa_cons pe_str pa_nil))))))) pa_nil))))
      (pss_cons (ps_if (pt_cmpR op_eq (pv 2) pe_str (nomark _)) (pss_one (ps_ret (pe_tup (pa_cons (pv 2) (pa_cons (pe_call (G_law_pick) (hr.mono (by omega)) (by rfl) T.D_law_pick.mg T.D_law_pick.fn.kp T.D_law_pick.bd .nil pass0 (pa_cons (pv 0) (pa_cons (pv 1) pa_nil))) pa_nil))))) pss_nil)
      (pss_cons (ps_if (PW.pt (pw_and (pt_cmpR op_eq (pv 2) pe_str (nomark _)) (pw_and1 (pt_cmpR op_gt (pe_callB call_len (by rfl) T.b_len bt_len (pa_cons (pv 1) pa_nil)) pe_int (nomark _))))) (pss_one (ps_ret (pe_op op_catA (pe_tup (pa_cons (pv 2) pa_nil)) (pe_callTy call_tuple_of (by rfl) T.b_tuple bt_tuple (pa_cons (pe_slice sl_list (pe_call (G_law_shuffled) (hr.mono (by omega)) (by rfl) T.D_law_shuffled.mg T.D_law_shuffled.fn.kp T.D_law_shuffled.bd .nil pass0 (pa_cons (pv 0) (pa_cons (pv 1) pa_nil))) po_none (po_some pe_int)) pa_nil))))) pss_nil)
      (pss_cons (ps_set (i := 2) sc_law_some_plain.nd rfl (by first | exact Or.inl rfl | exact Or.inr rfl) (pe_ifExp (pt_cmpR op_eq (pv 2) pe_str (nomark _)) pe_str (pv 2)))
      (pss_one (ps_ret (pe_tup (pa_cons (pv 2) (pa_cons (pe_callTy call_tuple_of (by rfl) T.b_tuple bt_tuple (pa_cons (pe_lc (own := [("spot", 3)]) rfl sc_law_some_plain.nd (pi_range1 (by rfl) T.b_range (pa_cons (pe_op op_add pe_int (pe_call (G_law_draw) (hr.mono (by omega)) (by rfl) T.D_law_draw.mg T.D_law_draw.fn.kp T.D_law_draw.bd .nil pass0 (pa_cons (pv 0) (pa_cons (pe_ifExp (pt_cmpR op_eq (pv 2) pe_str (nomark _)) pe_int pe_int) pa_nil)))) pa_nil)) (blkOk_by (own := [("spot", 3)]) (N := ["pen", "calls", "kind", "spot"]) (sc := defScope s_law_some_plain) (by decide +kernel)) (fun _ _ _ _ _ => (pg_name (i := 3) sc_law_some_plain.nd rfl (by first | exact Or.inl rfl | exact Or.inr rfl))) (fun _ _ _ _ _ => pts_nil) (fun _ _ _ _ _ => (pe_call (G_law_pick) (hr.mono (by omega)) (by rfl) T.D_law_pick.mg T.D_law_pick.fn.kp T.D_law_pick.bd .nil pass0 (pa_cons (pv 0) (pa_cons (pv 1) pa_nil))))) pa_nil)) pa_nil))))))))), ?_⟩
    refine ⟨_, rfl, (by show 6 ≤ sizeLine; decide), fun l hl => ⟨p, c, l, (["call", "call", "row", "steps", "answer", "never"] : List Str).map V.str, n, rfl, hP.upd (hP.ne_p hl) (hP.ne_c hl), .inl (SqL.of upd_same), by decide, by decide, by omega, fun i kv H1 hk b1 P1 => ?_⟩⟩
    obtain ⟨kd, hkd, rfl⟩ := pick_str hk
    replace b1 : But p H H1 := (But.of (Same.newA hl)).trans b1
    have hs1 := hP.st b1 hs
    clear hk
    have hkv : ∀ H2, ED K (tVar 2) [some (.ref p), some (.ref cs), some (.str kd), none] (fun _ => True) H2 (.str kd) := fun H2 => ed_var rfl (.str _)
    refine s_if (et_test (ed_eqS (hkv H1) (ed_str (x := "call")))) (fun hb H2 s2 => ?_) (fun hb H2 s2 => ?_)
    · have hb := of_decide_eq_true hb
      refine ⟨_, rfl, _, rfl, _, rfl, p, c, cs, ns.map V.str, n + 1, rfl, P1.same s2, .inr (s2.stA hs1), by rw [List.length_map]; omega, by rw [List.length_map]; omega, by omega, fun i nv H3 hn b3 P3 => ⟨(by show 2 ≤ sizeLine; decide), fun t ht => ?_⟩⟩
      obtain ⟨nm, hm, rfl⟩ := pick_str hn
      subst hb
      refine k _ (.call nm) _ (.tup (.of upd_same) (.cons (.str _) (.cons (.str _) .nil))) ⟨fun x hx => by rw [List.mem_singleton.mp hx]; exact (hN nm hm).2, ⟨Nat.le_refl 1, (by show 1 ≤ 4; decide)⟩, (fun a b e => nomatch e), (fun k w e => nomatch e), fun x hx => by rw [List.mem_singleton.mp hx]; exact (hN nm hm).1⟩ (fun x hx => by rw [List.mem_singleton.mp hx]; exact hm) ((b1.trans (.of s2)).trans (b3.trans (.of (Same.newA ht)))) (((P3.more (by omega)).upd (P3.ne_p ht) (P3.ne_c ht)))
    · have nc := of_decide_eq_false hb
      have P2 := P1.same s2
      have hs2 := s2.stA hs1
      have b2 := b1.trans (.of s2)
      have hcalls : ED K (tVar 1) [some (.ref p), some (.ref cs), some (.str kd), none] (fun _ => True) H2 (.tuple (ns.map .str)) := ed_var rfl (.tup hs2 (dfs_strs ns))
      refine s_if (et_and (et_test (ed_eqS (hkv H2) (ed_str (x := "answer")))) fun _ => et_test (ed_gt (ed_len hcalls rfl) (ed_int (i := 1)))) (fun hb H3 s3 => ?_) (fun hb H3 s3 => ?_)
      · obtain ⟨h1, h2⟩ := Bool.and_eq_true_iff.mp hb
        have h1 := of_decide_eq_true h1
        have h2 := of_decide_eq_true h2
        subst h1
        have P3 := P2.same s3
        refine ⟨_, rfl, (by show 1 ≤ sizeLine; decide), fun t ht => ⟨_, rfl, _, rfl, p, c, cs, ns.map V.str, n + 1, rfl, P3.upd (P3.ne_p ht) (P3.ne_c ht), .inr ((Same.newA ht).stA (s3.stA hs2)), by rw [List.length_map]; omega, by omega, fun m ys H4 pm hm e4 b4 P4 => ?_⟩⟩
        obtain ⟨zs, pz, rfl⟩ := vstr_perm pm
        have lz : 2 ≤ zs.length := by
          rw [pz.length_eq]
          have : (lenP (.tuple (ns.map PyData.str)) : Int) = ns.length := by simp [lenP]
          omega
        match zs, pz, lz, e4 with
        | a :: b :: zr, pz, lz, e4 =>
          have ha := hN a (pz.mem_iff.mp (by simp))
          have hb' := hN b (pz.mem_iff.mp (by simp))
          have nab : a ≠ b := by
            have := pz.nodup_iff.mpr nd
            simp at this
            exact this.1.1
          refine ⟨2, rfl, m, _, rfl, SqL.of e4, fun q hq => ⟨_, _, rfl, .inl ⟨SqL.of upd_same, fun r hr2 => ?_⟩⟩⟩
          have hq4 : H4 q = none := hq
          have nqr : q ≠ r := fun z => by rw [z, upd_same] at hr2; cases hr2
          have hr4 : H4 r = none := by rw [upd_ne (Ne.symm nqr)] at hr2; exact hr2
          have ntp : t ≠ p := P3.ne_p ht
          have et4 : H4 t = some (.tup [.str "answer"]) := b4 t _ ntp upd_same
          have ntq : t ≠ q := ne_of_none et4 hq4
          have ntr : t ≠ r := ne_of_none et4 hr4
          have ec : cutV ((a :: b :: zr).map V.str) none (some 2) = [.str a, .str b] := by rw [cut2]; rfl
          refine ⟨t, r, [.str "answer"], [.str a, .str b], rfl, rfl, .of (by rw [upd_ne ntr, upd_ne ntq]; exact et4), .of (by rw [← ec]; exact upd_same), (by show 3 ≤ sizeLine; decide), (fun z => nomatch z), (fun _ z => nomatch z), fun _ _ f hf => ?_⟩
          have s46 : Same H4 (upd (upd (upd H4 q (.lst (cutV ((a :: b :: zr).map V.str) none (some 2)))) r (.tup (cutV ((a :: b :: zr).map V.str) none (some 2)))) f (.tup ([.str "answer"] ++ [.str a, .str b]))) := ((Same.newA hq).trans (Same.newA hr2)).trans (Same.newA hf)
          have pa := pz.mem_iff.mp (show a ∈ a :: b :: zr by simp)
          have pb := pz.mem_iff.mp (show b ∈ a :: b :: zr by simp)
          refine k _ (.answer a b) _ (.tup (.of upd_same) (.cons (.str _) (.cons (.str _) (.cons (.str _) .nil)))) ⟨fun x hx => ?_, ⟨(by show 1 ≤ 2; decide), (by show 2 ≤ 4; decide)⟩, (fun a' b' e => by cases e; exact nab), (fun k w e => nomatch e), fun x hx => ?_⟩ (fun x hx => ?_) (b2.trans ((But.of (s3.trans (Same.newA ht))).trans (b4.trans (.of s46)))) ((P4.more (by rw [List.length_map]; omega)).same s46)
          · rcases List.mem_cons.mp hx with rfl | hx
            · exact ha.2
            · rw [List.mem_singleton.mp hx]; exact hb'.2
          · rcases List.mem_cons.mp hx with rfl | hx
            · exact ha.1
            · rw [List.mem_singleton.mp hx]; exact hb'.1
          · rcases List.mem_cons.mp hx with rfl | hx
            · exact pa
            · rw [List.mem_singleton.mp hx]; exact pb
      · have P3 := P2.same s3
        have hs3 := s3.stA hs2
        have b3 := b2.trans (.of s3)
        have hk2 : (if kd = "answer" then ("row" : Str) else kd : Str) ∈ (["row", "steps", "never"] : List Str) := by
          by_cases q : kd = "answer"
          · rw [if_pos q]; decide +kernel
          · rw [if_neg q]
            simp only [List.mem_cons, List.not_mem_nil, or_false] at hkd ⊢
            rcases hkd with h | h | h | h | h | h
            · exact absurd h nc
            · exact absurd h nc
            · exact .inl h
            · exact .inr (.inl h)
            · exact absurd h q
            · exact .inr (.inr h)
        refine s_set (F := fun _ => True) (d := .str (if kd = "answer" then ("row" : Str) else kd)) (ed_if (et_test (ed_eqS (hkv H3) (ed_str (x := "answer")))) (fun q => ed_is (ed_str (x := "row")) ?_) fun q => ed_is (hkv H3) ?_) fun v4 H4 s4 hv4 => ?_
        · rw [if_pos (of_decide_eq_true q)]
        · rw [if_neg (of_decide_eq_false q)]
        cases hv4
        generalize (if kd = "answer" then ("row" : Str) else kd) = k2 at hk2
        have P4 := P3.same s4
        have hs4 := s4.stA hs3
        have b4 := b3.trans (.of s4)
        have hkv2 : ∀ H2, ED K (tVar 2) [some (.ref p), some (.ref cs), some (.str k2), none] (fun _ => True) H2 (.str k2) := fun H2 => ed_var rfl (.str _)
        clear hkv hb nc hkd hs2 hs3 P2 P3 b2 b3 hs1 P1 b1
        refine ⟨_, rfl, _, rfl, run_ifcA (et_test (ed_eqS (hkv2 H4) (ed_str (x := "steps")))) fun H5 s5 => ?_⟩
        refine ⟨p, c, if decide (k2 = "steps") then 3 else 2, n + 1, ?_, P4.same s5, ?_, ?_, by omega, fun d H6 d0 d1 b6 P6 => ?_⟩
        · cases decide (k2 = "steps") <;> rfl
        · cases decide (k2 = "steps") <;> decide
        · cases decide (k2 = "steps") <;> decide
        have d3 : d < 3 := by
          refine Int.lt_of_lt_of_le d1 ?_
          cases decide (k2 = "steps") <;> decide
        have b56 := (b4.trans (.of s5)).trans b6
        have hs6 := (P4.same s5).st b6 (s5.stA hs4)
        clear b4 b6 hs4 P4
        refine ⟨_, _, rfl, rfl, _, rfl, by omega, by omega, fun D hD => lc_range (lo := 0) (n := (2 + d).toNat) (fun i H' => ∃ ms : List Str, H' D = some (.lst (ms.map V.str)) ∧ ms.length = i ∧ (∀ s ∈ ms, s ∈ ns) ∧ But p H6 H' ∧ Pen p c (n + 2 + i) H')
          ⟨[], upd_same, rfl, (fun s e => by cases e), .of (Same.newA hD), P6.upd (P6.ne_p hD) (P6.ne_c hD)⟩ ?_ ?_⟩
        · rintro i H' hi ⟨ms, e1, ml, hm, b7, P7⟩
          refine ⟨rfl, ?_⟩
          refine ⟨_, rfl, _, rfl, p, c, cs, ns.map V.str, n + 2 + i, rfl, P7, .inr (P6.st b7 hs6), by rw [List.length_map]; omega, by rw [List.length_map]; omega, by omega, fun j nv H8 hn b8 P8 => ?_⟩
          obtain ⟨nm, hnm, rfl⟩ := pick_str hn
          have e2 : H8 D = some (.lst (ms.map V.str)) := b8 _ _ (P6.ne_p hD) e1
          refine ⟨_, e2, lt5 (by rw [List.length_map]; omega), ms ++ [nm], ?_, by rw [List.length_append, ml]; rfl, fun s e => ?_, ?_, ?_⟩
          · rw [List.map_append]; exact upd_same
          · rcases List.mem_append.mp e with e | e
            · exact hm s e
            · rw [List.mem_singleton] at e; subst e; exact hnm
          · intro b u nb e
            rw [upd_ne (ne_of_none e hD)]
            exact b8 _ _ nb (b7 _ _ nb e)
          · exact (P8.more (by omega)).upd (P6.ne_p hD) (P6.ne_c hD)
        · rintro H' ⟨ms, e1, ml, hm, b7, P7⟩
          refine ⟨_, _, rfl, .inl ⟨SqL.of e1, fun r hr2 => ⟨(by show 2 ≤ sizeLine; decide), fun f hf => ?_⟩⟩⟩
          have nrf : r ≠ f := ne_of_none upd_same hf
          have s8 : Same H' (upd (upd H' r (.tup (ms.map V.str))) f (.tup [.str k2, .ref r])) := (Same.newA hr2).trans (Same.newA hf)
          have lm : 2 ≤ ms.length ∧ ms.length ≤ 4 := by omega
          obtain ⟨kd, rfl⟩ : ∃ kd, k2 = kdS kd := by
            simp only [List.mem_cons, List.not_mem_nil, or_false] at hk2
            rcases hk2 with rfl | rfl | rfl
            · exact ⟨.row, rfl⟩
            · exact ⟨.steps, rfl⟩
            · exact ⟨.never, rfl⟩
          refine k _ (.many kd ms) _ (.tup (.of upd_same) (.cons (.str _) (.cons (.tup (.of (by rw [upd_ne nrf]; exact upd_same)) (dps_strs ms)) .nil))) ⟨fun x hx => (hN x (hm x hx)).2, ⟨by show 1 ≤ ms.length; omega, by show ms.length ≤ 4; omega⟩, (fun a b e => nomatch e), (fun k w e => by cases e; exact lm.1), fun x hx => (hN x (hm x hx)).1⟩ (fun x hx => hm x hx) ((b56.trans b7).trans (.of s8)) ((P7.more (by omega)).same s8)
def Cst (k : Nat) : Nat := 100 * 3 ^ k
theorem Cst_pos (k : Nat) : 100 ≤ Cst k := by
  unfold Cst
  have : 0 < 3 ^ k := Nat.pow_pos (by decide)
  omega
theorem Cst_succ (k : Nat) : Cst (k + 1) = 3 * Cst k := by unfold Cst; rw [Nat.pow_succ]; omega
def nmD : Dt → List Str
  | .pl p => nmP p
  | .jn _ a b => nmD a ++ nmD b
def spSD (K : PySem.W.Frag) (k : Nat) : Sp := fun vs H Q _ => ∃ (p c cs : Addr) (ns : List Str) (n many : Nat), vs = [.ref p, .ref cs, .int (many : Int), .int (k : Int)] ∧ Pen p c n H ∧ SqT K H cs (ns.map V.str) ∧ GoodNames ns ∧ 1 ≤ many ∧ many ≤ 4 ∧ n + Cst k + 1000000 < 1000000000000 ∧
  ∀ v d H', Dp K H' v (dtD d) → OkD d → dep d ≤ k → npl d ≤ many → (∀ x ∈ nmD d, x ∈ ns) → But p H H' → Pen p c (n + Cst k) H' → Q v H'
theorem step_sd (k m : Nat) {spR : Sp} (hm0 : 3 ≤ m) (G_law_some_duty : FnOk P w K mg base CX0 m T.a_law_some_duty T.d_law_some_duty ["pen", "calls", "many", "deep"] spR) (hG : ∀ j, k = j + 1 → spR = spSD K j) :
    FnOk P w K mg base CX0 (m + 1) T.a_law_some_duty T.d_law_some_duty ["pen", "calls", "many", "deep"] (spSD K k) := by
  have G_law_pick := ok_pick (P := P) (base := base) T
  have G_law_some_plain := ok_law_some_plain (P := P) (base := base) T
  have G_law_draw := ok_draw (P := P) (base := base) T
  refine T.D_law_some_duty.fn.ok sc_law_some_duty (fun vs H Q E h => ?_) (fun cdv A outer s H vs Q E hr h => ?_)
  · obtain ⟨p, c, cs, ns, n, many, rfl, _⟩ := h; rfl
  · obtain ⟨p, c, cs, ns, n, many, rfl, hP, hs, hN, m1, m4, nb, kk⟩ := h
    refine ⟨_, (pss_cons (ps_if (PW.pt (pw_or (pt_cmpR op_lt (pv 2) pe_int (nomark _)) (pw_or1 (pt_cmpR op_eq (pv 3) pe_int (nomark _))))) (pss_one (ps_ret (pe_call (G_law_some_plain) (hr.mono (by omega)) (by rfl) T.D_law_some_plain.mg T.D_law_some_plain.fn.kp T.D_law_some_plain.bd .nil pass0 (pa_cons (pv 0) (pa_cons (pv 1) pa_nil))))) pss_nil)
      (pss_cons (ps_set (i := 4) sc_law_some_duty.nd rfl (by first | exact Or.inl rfl | exact Or.inr rfl) (pe_op op_add pe_int (pe_call (G_law_draw) (hr.mono (by omega)) (by rfl) T.D_law_draw.mg T.D_law_draw.fn.kp T.D_law_draw.bd .nil pass0 (pa_cons (pv 0) (pa_cons (pe_op op_sub (pv 2) pe_int) pa_nil)))))
      (pss_cons (ps_set (i := 5) sc_law_some_duty.nd rfl (by first | exact Or.inl rfl | exact Or.inr rfl) (pe_lst (pa_cons (pe_call (G_law_some_duty) (hr.mono (by omega)) (by rfl) T.D_law_some_duty.mg T.D_law_some_duty.fn.kp T.D_law_some_duty.bd .nil pass0 (pa_cons (pv 0) (pa_cons (pv 1) (pa_cons (pv 4) (pa_cons (pe_op op_sub (pv 3) pe_int) pa_nil))))) (pa_cons (pe_call (G_law_some_duty) (hr.mono (by omega)) (by rfl) T.D_law_some_duty.mg T.D_law_some_duty.fn.kp T.D_law_some_duty.bd .nil pass0 (pa_cons (pv 0) (pa_cons (pv 1) (pa_cons (pe_op op_sub (pv 2) (pv 4)) (pa_cons (pe_op op_sub (pv 3) pe_int) pa_nil))))) pa_nil))))
      (pss_one (ps_ret (pe_tup (pa_cons (pe_call (G_law_pick) (hr.mono (by omega)) (by rfl) T.D_law_pick.mg T.D_law_pick.fn.kp T.D_law_pick.bd .nil pass0 (pa_cons (pv 0) (pa_cons (pe_lst (pa_cons pe_str (pa_cons pe_str pa_nil))) pa_nil))) (pa_cons (pe_callTy call_tuple_of (by rfl) T.b_tuple bt_tuple (pa_cons (pv 5) pa_nil)) pa_nil)))))))), ?_⟩
    have c100 := Cst_pos k
    refine s_if (et_or (et_test (ed_lt (K := K) (F := fun _ => True) (ed_var (i := 2) rfl (.int _)) (ed_int (i := 2)))) fun _ => et_test (ed_eqI (K := K) (F := fun _ => True) (ed_var (i := 3) rfl (.int _)) (ed_int (i := 0)))) (fun hb H1 s1 => ?_) (fun hb H1 s1 => ?_)
    · refine ⟨_, rfl, _, rfl, p, c, cs, ns, n, rfl, hP.same s1, s1.stA hs, hN, by omega, fun v q H2 hd hp hq b2 P2 => ?_⟩
      exact kk v (.pl q) H2 hd hp (Nat.zero_le _) m1 hq ((But.of s1).trans b2) (P2.more (by omega))
    · obtain ⟨h1, h2⟩ := Bool.or_eq_false_iff.mp hb
      have h1 := of_decide_eq_false h1
      have h2 := of_decide_eq_false h2
      obtain ⟨j, rfl⟩ : ∃ j, k = j + 1 := ⟨k - 1, by omega⟩
      obtain rfl := hG j rfl
      rw [Cst_succ] at kk nb
      have cj := Cst_pos j
      have P1 := hP.same s1
      refine ⟨_, rfl, _, rfl, _, _, rfl, rfl, p, c, (many : Int) - 1, n, rfl, P1, by omega, by omega, by omega, fun d H2 d0 d1 b2 P2 => ?_⟩
      refine ⟨_, _, rfl, rfl, ?_⟩
      obtain ⟨e, rfl⟩ : ∃ e : Nat, d = e := ⟨d.toNat, by omega⟩
      have hs2 := P1.st b2 (s1.stA hs)
      refine ⟨_, rfl, _, rfl, _, rfl, _, rfl, _, _, rfl, rfl, p, c, cs, ns, n + 1, e + 1, ?_, P2, hs2, hN, by omega, by omega, by omega, fun v1 d1 H3 hd1 g1 p1 l1 a1 b3 P3 => ?_⟩
      · show [V.ref p, V.ref cs, V.int (1 + (e : Int)), V.int (((j + 1 : Nat) : Int) - 1)] ++ [] = _
        rw [show (1 : Int) + (e : Int) = ((e + 1 : Nat) : Int) by omega, show (((j + 1 : Nat) : Int) - 1) = (j : Int) by omega]; rfl
      have hs3 := P2.st b3 hs2
      refine ⟨_, rfl, _, rfl, _, rfl, _, rfl, _, _, rfl, rfl, _, rfl, _, _, rfl, rfl, p, c, cs, ns, n + 1 + Cst j, many - (e + 1), ?_, P3, hs3, hN, by omega, by omega, by omega, fun v2 d2 H4 hd2 g2 p2 l2 a2 b4 P4 => ?_⟩
      · show [V.ref p, V.ref cs, V.int ((many : Int) - (1 + (e : Int))), V.int (((j + 1 : Nat) : Int) - 1)] ++ [] = _
        rw [show (many : Int) - (1 + (e : Int)) = ((many - (e + 1) : Nat) : Int) by omega, show (((j + 1 : Nat) : Int) - 1) = (j : Int) by omega]; rfl
      have hd1' := P3.dp b4 hd1
      refine ⟨(by show 2 ≤ sizeLine; decide), fun l hl => ?_⟩
      have P5 := P4.upd (o := .lst [v1, v2]) (P4.ne_p hl) (P4.ne_c hl)
      refine ⟨_, rfl, (by show 2 ≤ sizeLine; decide), fun q hq => ⟨p, c, q, (["all", "any"] : List Str).map V.str, n + 1 + Cst j + Cst j, rfl, P5.upd (P5.ne_p hq) (P5.ne_c hq), .inl (SqL.of upd_same), by decide, by decide, by omega, fun i kv H6 hk b6 P6 => ?_⟩⟩
      obtain ⟨kd, hkd, rfl⟩ := pick_str hk
      obtain ⟨al, rfl⟩ : ∃ al, kd = jnS al := by
        simp only [List.mem_cons, List.not_mem_nil, or_false] at hkd
        rcases hkd with rfl | rfl
        · exact ⟨true, rfl⟩
        · exact ⟨false, rfl⟩
      have nlq : l ≠ q := ne_of_none upd_same hq
      have el : H6 l = some (.lst [v1, v2]) := b6 _ _ (P4.ne_p hl) (by rw [upd_ne nlq]; exact upd_same)
      have bAll : But p H4 H6 := (But.of ((Same.newA hl).trans (Same.newA hq))).trans b6
      refine ⟨_, rfl, _, _, rfl, .inl ⟨SqL.of el, fun t ht => ⟨(by show 2 ≤ sizeLine; decide), fun f hf => ?_⟩⟩⟩
      have ntf : t ≠ f := ne_of_none upd_same hf
      have s7 : Same H6 (upd (upd H6 t (.tup [v1, v2])) f (.tup [.str (jnS al), .ref t])) := (Same.newA ht).trans (Same.newA hf)
      have e1 := dp_mono s7 (P4.dp bAll hd1')
      have e2 := dp_mono s7 (P4.dp bAll hd2)
      refine kk _ (.jn al d1 d2) _ (.tup (.of upd_same) (.cons (.str _) (.cons (.tup (.of (by rw [upd_ne ntf]; exact upd_same)) (.cons e1 (.cons e2 .nil))) .nil))) ⟨g1, g2⟩ ?_ ?_ (fun x hx => ?_) (((((But.of s1).trans b2).trans b3).trans b4).trans (bAll.trans (.of s7))) ((P6.more (by omega)).same s7)
      · show max (dep d1) (dep d2) + 1 ≤ j + 1; omega
      · show npl d1 + npl d2 ≤ many; omega
      · exact (List.mem_append.mp hx).elim (a1 x) (a2 x)
theorem ok_law_some_duty : ∀ k, FnOk P w K mg base CX0 (k + 4) T.a_law_some_duty T.d_law_some_duty ["pen", "calls", "many", "deep"] (spSD K k)
  | 0 => step_sd T 0 3 (Nat.le_refl 3) (no_ok 2 T.D_law_some_duty sc_law_some_duty) fun j e => by cases e
  | k + 1 => step_sd T (k + 1) (k + 4) (by omega) (ok_law_some_duty k) fun j e => by cases e; rfl
end
end Ag

set_option Elab.async false
set_option linter.all false
set_option maxRecDepth 100000
set_option maxHeartbeats 1000000
namespace Ag
open PySem PySem.Spec PyProof.Rows L2
/-- a numeral: one to forty figures, no 0 ahead of others -/
def numB (x : Str) : Bool := (decide (1 ≤ (x.length : Int)) && decide ((x.length : Int) ≤ 40)) && (x.cps.toList.all figure && (decide (x = "0") || !decide ((⟨#[x.cps.toList.headD 0]⟩ : Str) = "0")))
def spNum (K : PySem.W.Frag) : Sp := fun vs H Q _ => ∃ x : Str, vs = [.str x] ∧ x.length ≤ 50000 ∧ ∀ H', Same H H' → Q (.bl (numB x)) H'
theorem len_pos {x : Str} (h : decide (1 ≤ (x.length : Int)) = true) : ∃ c cs, x.cps.toList = c :: cs := by
  have h := of_decide_eq_true h
  cases hc : x.cps.toList with
  | nil =>
    have : x.length = 0 := by show x.cps.size = 0; rw [← Array.length_toList, hc]; rfl
    omega
  | cons c cs => exact ⟨c, cs, rfl⟩
section
variable {K : PySem.W.Frag} {σ : L2.St} {F : Addr → Prop} {H : Hp} {te : TE} {D : Ends}
theorem s_retB {b c : Bool} (h : ED K te σ F H (.bool b)) (e : b = c) (k : ∀ H1, Same H H1 → D.rt (.bl c) H1) : tRet te D σ H := s_ret h fun v H1 s1 hv => by
  cases hv; subst e; exact k H1 s1
theorem s_retI {b c : Int} (h : ED K te σ F H (.int b)) (e : b = c) (k : ∀ H1, Same H H1 → D.rt (.int c) H1) : tRet te D σ H := s_ret h fun v H1 s1 hv => by
  cases hv; subst e; exact k H1 s1
end
section
variable {P : Program} {w : World} {K : PySem.W.Frag} {mg : Str → Option Value} {base : Heap} (T : Txt w K mg)
theorem ok_is_numeral : FnOk P w K mg base CX0 1 T.a_is_numeral T.d_is_numeral ["word"] (spNum K) := by
  refine T.D_is_numeral.fn.ok sc_is_numeral (fun vs H Q E h => ?_) (fun cdv A outer s H vs Q E hr h => ?_)
  · obtain ⟨x, rfl, _⟩ := h; rfl
  · obtain ⟨x, rfl, hx, k⟩ := h
    refine ⟨_, (pss_cons (ps_if (PW.pt (pw_or (pt_not (pt_chain op_le op_le pe_int (pe_callB call_len (by rfl) T.b_len bt_len (pa_cons (pv 0) pa_nil)) pe_int)) (pw_or1 (pt_not (pt_val (pe_callB (cr_all rfl) (by rfl) T.b_all bt_all (pa_cons (pe_lc (own := [("sign", 1)]) rfl sc_is_numeral.nd (pi_str (pv 0)) (blkOk_by (own := [("sign", 1)]) (N := ["word", "sign"]) (sc := defScope s_is_numeral) (by decide +kernel)) (fun _ _ _ _ _ => (pg_name (i := 1) sc_is_numeral.nd rfl (by first | exact Or.inl rfl | exact Or.inr rfl))) (fun _ _ _ _ _ => pts_nil) (fun _ _ _ _ _ => (pe_cmpR op_in_sign (pv 1) (pe_glob (v := .str "0123456789") (by rfl) T.g_FIGURES ⟨_, rfl⟩) rfl))) pa_nil))))))) (pss_one (ps_ret pe_bl)) pss_nil)
      (pss_one (ps_ret (pe_or (pe_cmpR op_eq (pv 0) pe_str (nomark _)) (pe_one (pe_cmpR op_ne (pe_ix ix_seq (pv 0) pe_int (fun _ _ => rfl)) pe_str (nomark _))))))), ?_⟩
    have hvar : ∀ H1, ED K (tVar 0) (start ["word", "sign"] [.str x]) (nn H) H1 (.str x) := fun H1 => ed_var rfl (.str _)
    have h12 : ET _ _ H _ := et_not (et_test (ed_chain (r := rI0 fun i j => .bl (decide (i ≤ j))) (r' := rI0 fun i j => .bl (decide (i ≤ j))) (ed_int (i := 1)) (ed_len (hvar H) (decide_eq_true (by omega))) (ed_int (i := 40)) rd_cmp fun _ => rd_cmp))
    refine s_if (b := !((decide (1 ≤ (x.length : Int)) && decide ((x.length : Int) ≤ 40)) && x.cps.toList.all figure)) (et_is (et_or h12 fun _ => et_not (et_B (ed_all (bs := (signs x).map fun s => figure (sgn s)) (ed_is (ed_lc (f := fun _ => true) (m := fun s => .bool (figure (sgn s))) (ei_str (hvar H)) ?_ fun F2 H2 e2 v2 d2 hm hd2 => ?_) ?_)))) ?_) (fun hb H1 s1 => ?_) (fun hb H1 s1 => ?_)
    · unfold signs; rw [List.length_map, Array.length_toList]; exact hx
    · obtain ⟨c2, hc2, rfl⟩ := List.mem_map.mp hm
      refine ⟨_, fun Q q => q, rfl, et_yes, fun _ => ed_is (ed_inS (ed_var rfl hd2) (ed_str (x := "0123456789"))) ?_⟩
      rw [mem_figures]; rfl
    · rw [filt_tt, List.map_map]; rfl
    · rw [all_signs (p := figure) _ (fun c => rfl)]
      show (!(decide (1 ≤ (x.length : Int)) && decide ((x.length : Int) ≤ 40)) || !x.cps.toList.all figure) = _
      cases x.cps.toList.all figure <;> cases (decide (1 ≤ (x.length : Int)) && decide ((x.length : Int) ≤ 40)) <;> rfl
    · have := k H1 s1
      have e : numB x = false := by
        unfold numB
        have hb : ((decide (1 ≤ (x.length : Int)) && decide ((x.length : Int) ≤ 40)) && x.cps.toList.all figure) = false := by
          cases z : ((decide (1 ≤ (x.length : Int)) && decide ((x.length : Int) ≤ 40)) && x.cps.toList.all figure) with
          | false => rfl
          | true => rw [z] at hb; cases hb
        rw [← Bool.and_assoc, hb]; rfl
      rw [e] at this; exact this
    · have hb : ((decide (1 ≤ (x.length : Int)) && decide ((x.length : Int) ≤ 40)) && x.cps.toList.all figure) = true := by
        cases z : ((decide (1 ≤ (x.length : Int)) && decide ((x.length : Int) ≤ 40)) && x.cps.toList.all figure) with
        | true => rfl
        | false => rw [z] at hb; cases hb
      obtain ⟨c, cs, hc⟩ := len_pos (Bool.and_eq_true_iff.mp (Bool.and_eq_true_iff.mp hb).1).1
      refine s_retB (ed_orV (ed_eqS (hvar H1) (ed_str (x := "0"))) fun _ => ed_neS (ed_ixS (j := 0) (hvar H1) ed_int (by omega) (c := c) (by rw [hc]; rfl)) (ed_str (x := "0"))) ?_ fun H2 s2 => k H2 (s1.trans s2)
      unfold numB
      rw [← Bool.and_assoc, hb, hc]
      show _ = (true && _)
      rw [Bool.true_and]; rfl
end
end Ag

set_option Elab.async false
set_option linter.all false
set_option maxRecDepth 100000
set_option maxHeartbeats 1000000
set_option pp.maxSteps 400
namespace Ag
open PySem PySem.Spec PyProof.Rows L2 LamX
/-! ### the tables of the four defs that make lambdas -/
def lamQ (q : Str) (sc : Scope) : Str := (envOfC q sc 0 0 (.ref 0)).qual ++ "<lambda>"
structure Lam4 {w : World} {K : PySem.W.Frag} {mg : Str → Option Value} (T : Txt w K mg) (base : Heap) where
  (c_law t_law c_need t_need c_num t_num c_names t_names : Addr)
  k_law : T.d_law_is_read.code = .ref c_law
  k_need : T.d_Cursor_need.code = .ref c_need
  k_num : T.d_Cursor_need_number.code = .ref c_num
  k_names : T.d_DutyReader_names.code = .ref c_names
  b_law : TabB base mg c_law t_law
  b_need : TabB base mg c_need t_need
  b_num : TabB base mg c_num t_num
  b_names : TabB base mg c_names t_names
  nd : [t_law, t_need, t_num, t_names].Nodup
theorem uniq_fst : ∀ {l : List (Addr × Str)} {t : Addr} {q : Str}, (l.map (·.1)).Nodup → (t, q) ∈ l → ∀ p ∈ l, p.1 = t → p.2 = q
  | [], _, _, _, h => absurd h List.not_mem_nil
  | y :: l, t, q, n, h => fun p hp e => by
    obtain ⟨n1, n2⟩ := List.nodup_cons.mp n
    rcases List.mem_cons.mp h with h1 | h2
    · subst h1
      rcases List.mem_cons.mp hp with rfl | hp
      · rfl
      · exact absurd (List.mem_map.mpr ⟨p, hp, e⟩) n1
    · rcases List.mem_cons.mp hp with rfl | hp
      · exact absurd (show p.1 ∈ l.map (fun x => x.1) from List.mem_map.mpr ⟨(t, q), h2, e.symm⟩) n1
      · exact uniq_fst n2 h2 p hp e
section
variable {w : World} {K : PySem.W.Frag} {mg : Str → Option Value} {base : Heap} {T : Txt w K mg} (LL : Lam4 T base)
def Lam4.tbs : List (Addr × Str) := [(LL.t_law, lamQ "_law_is_read" (defScope s_law_is_read)), (LL.t_need, lamQ "Cursor.need" (defScope s_Cursor_need)), (LL.t_num, lamQ "Cursor.need_number" (defScope s_Cursor_need_number)), (LL.t_names, lamQ "DutyReader.names" (defScope s_DutyReader_names))]
theorem Lam4.m_law : (LL.t_law, lamQ "_law_is_read" (defScope s_law_is_read)) ∈ LL.tbs := .head _
theorem Lam4.m_need : (LL.t_need, lamQ "Cursor.need" (defScope s_Cursor_need)) ∈ LL.tbs := .tail _ (.head _)
theorem Lam4.m_num : (LL.t_num, lamQ "Cursor.need_number" (defScope s_Cursor_need_number)) ∈ LL.tbs := .tail _ (.tail _ (.head _))
theorem Lam4.m_names : (LL.t_names, lamQ "DutyReader.names" (defScope s_DutyReader_names)) ∈ LL.tbs := .tail _ (.tail _ (.tail _ (.head _)))
theorem Lam4.u_law : ∀ p ∈ LL.tbs, p.1 = LL.t_law → p.2 = lamQ "_law_is_read" (defScope s_law_is_read) := uniq_fst LL.nd LL.m_law
theorem Lam4.u_need : ∀ p ∈ LL.tbs, p.1 = LL.t_need → p.2 = lamQ "Cursor.need" (defScope s_Cursor_need) := uniq_fst LL.nd LL.m_need
theorem Lam4.u_num : ∀ p ∈ LL.tbs, p.1 = LL.t_num → p.2 = lamQ "Cursor.need_number" (defScope s_Cursor_need_number) := uniq_fst LL.nd LL.m_num
theorem Lam4.u_names : ∀ p ∈ LL.tbs, p.1 = LL.t_names → p.2 = lamQ "DutyReader.names" (defScope s_DutyReader_names) := uniq_fst LL.nd LL.m_names
end
/-! ### what is kept -/
theorem tabs_keep {tb : List (Addr × Str)} {H H' : Hp} (k : ∀ b o, H b = some o → ((∃ ps, o = .tbl ps) ∨ ∃ c q, o = CodeO c q) → H' b = some o) (t : Tabs tb H) : Tabs tb H' := fun p hp => by
  obtain ⟨ps, h1, h2, h3⟩ := t p hp
  refine ⟨ps, k _ _ h1 (.inl ⟨_, rfl⟩), h2, fun pos cv hc => ?_⟩
  obtain ⟨c, e1, e2⟩ := h3 pos cv hc
  exact ⟨c, e1, k _ _ e2 (.inr ⟨_, _, rfl⟩)⟩
theorem tabs_ins {tb : List (Addr × Str)} {H H' : Hp} {c C dx : Addr} {fs : List (Str × V)} (hc : H c = some (.ins C dx fs)) (k : ∀ b o, b ≠ c → H b = some o → H' b = some o) (t : Tabs tb H) : Tabs tb H' :=
  tabs_keep (fun b o e z => k b o (fun q => by
    rw [q, hc] at e
    cases e
    rcases z with ⟨ps, z⟩ | ⟨_, _, z⟩
    · cases z
    · unfold CodeO at z; cases z) e) t
theorem Rd.extN {H H' : Hp} {a : Addr} {u : HO} (e : ExtN H H') (n : ∀ ps, u ≠ .tbl ps) (h : Rd H a u) : Rd H' a u := h.elim (fun z => .inl (e _ _ z n)) fun ⟨o, z⟩ => .inr ⟨o, e _ _ z (fun _ z => nomatch z)⟩
theorem slN {K : PySem.W.Frag} {H H' : Hp} {a : Addr} {xs : List V} (e : ExtN H H') (h : SqL K H a xs) : SqL K H' a xs := h.imp (Rd.extN e (fun _ z => nomatch z)) id
theorem stN {K : PySem.W.Frag} {H H' : Hp} {a : Addr} {xs : List V} (e : ExtN H H') (h : SqT K H a xs) : SqT K H' a xs := h.imp (Rd.extN e (fun _ z => nomatch z)) id
section
variable {K : PySem.W.Frag} {C c dx rl : Addr} {ws : List Str} {n : Nat} {s t : Int} {H H' : Hp}
theorem CuAt.ext (x : CuAt K C c dx rl ws n s H) (e : ExtN H H') : CuAt K C c dx rl ws n s H' :=
  let ⟨us, wl, a, b, d, f⟩ := x.rows
  ⟨e _ _ x.obj (fun _ z => nomatch z), ⟨us, wl, slN e a, b, d, slN e f⟩, x.wlen, x.nlen⟩
end
/-- what a BadText that is let out leaves, the tables grown -/
def BadX (tb : List (Addr × Str)) (C : Addr) (l s : Int) (H : Hp) (E : XK) : Prop := ∀ d H', ExtN H H' → Tabs tb H' → H' d = some (.xd [("word", .int s), ("line", .int l)]) → E (.ref C) (some d) H'
theorem BadX.at_ {tb : List (Addr × Str)} {C : Addr} {l s : Int} {H H2 : Hp} {E : XK} (b : BadX tb C l s H E) (e : ExtN H H2) (t : Tabs tb H2) : BadAt C l s H2 E := fun d H' s' _ hd => b d H' (e.trans (ExtN.of s')) (t.ext s') hd
theorem BadX.ext {tb : List (Addr × Str)} {C : Addr} {l s : Int} {H H2 : Hp} {E : XK} (b : BadX tb C l s H E) (e : ExtN H H2) : BadX tb C l s H2 E := fun d H' e' t hd => b d H' (e.trans e') t hd
/-- take, given a lambda that tells rt of the word that it is shown -/
def TTake (K : PySem.W.Frag) (C B : Addr) : Addr → (V → Hp → VK → Prop) → Hp → VK → XK → Prop := fun o tl H Q E => ∃ dx rl ws n, ∃ s : Nat, ∃ rt : Str → Bool, CuAt K C o dx rl ws n s H ∧
  (∀ x, ws[s]? = some x → ∀ Qb : VK, (∀ H', Same H H' → Qb (.bl (rt x)) H') → tl (.str x) H Qb) ∧
  (∀ x, ws[s]? = some x → rt x = true → ∀ H', (∀ b u, b ≠ o → H b = some u → H' b = some u) → CuAt K C o dx rl ws n ((s : Int) + 1) H' → Q (.str x) H') ∧
  ((∀ x, ws[s]? = some x → rt x = false) → BadAt B 1 ((s : Int) + 1) H E)
theorem take_gives {X : Cx} (T : Txt X.w X.K X.mg) {k : Nat} {g : Addr} {cdg : Value} {q : Str} (hk : 3 ≤ k) :
    GivesM X k ["self", "is_right", "word"] "Cursor.take" (defScope s_Cursor_take) g cdg (defBody s_Cursor_take) "is_right" q (TTake X.K T.C_Cursor T.C_BadText) := by
  intro f c' o s H Q E tl act hr hc h
  have G_Cursor_refuse := ok_refuse (P := X.prog) (base := X.base) T
  have G_Cursor_seen := ok_seen (P := X.prog) (base := X.base) T
  obtain ⟨dx, rl, ws, n, s', rt, hC, h1, h2, h3⟩ := h
  refine ⟨_, (pss_cons (ps_set (i := 2) sc_Cursor_take.nd rfl (by first | exact Or.inl rfl | exact Or.inr rfl) (pe_meth0 (pv 0) T.cl_Cursor T.mt_Cursor_seen (G_Cursor_seen) (hr.mono (by omega)) T.D_Cursor_seen.bd .nil pass0))
      (C8.pss_cut (ps_if (PW.pt (pw_or (pt_cmpR op_isN (pv 2) pe_non (nomark _)) (pw_or1 (pt_not (pt_val (act 2 "word" _ _ _ rfl (.inl rfl) (by decide) (by decide))))))) (pss_one (ps_expr (pe_meth0 (pv 0) T.cl_Cursor T.mt_Cursor_refuse (G_Cursor_refuse) (hr.mono (by omega)) T.D_Cursor_refuse.bd .nil (passes_call (takes_of rfl rfl rfl rfl) fun _ _ _ _ z => z)))) pss_nil)
      (pss_cons (ps_fldaug (pv 0) pe_int iop_add)
      (pss_one (ps_ret (pv 2)))))), ?_⟩
  refine ⟨_, rfl, o, dx, _, rfl, hC.obj, rfl, o, dx, rl, ws, n, s', rfl, hC, fun x hx => ?_, fun hn => ?_⟩
  · refine ⟨fun σ' H' => σ' = [some (.ref o), some (.ref f), some (.str x)] ∧ Same H H' ∧ rt x = true, ?_, ?_⟩
    · refine ⟨_, rfl, rfl, _, rfl, ite2 (fun h => nomatch (of_decide_eq_true h)) (fun _ => ?_)⟩
      refine ⟨rfl, _, rfl, hc, h1 x hx _ fun H1 s1 => ⟨_, rfl, ?_⟩⟩
      cases hb : rt x with
      | true => exact ⟨rfl, s1, rfl⟩
      | false => exact ⟨_, rfl, o, dx, _, rfl, (hC.same s1).obj, rfl, o, dx, rl, s', rfl, (hC.same s1).obj, fun d H2 s2 hd e2 => h3 (fun y hy => by rw [hx] at hy; cases hy; exact hb) d H2 (s1.trans s2) (s1.freshA hd) e2⟩
    · rintro σ' H1 ⟨rfl, s1, hb⟩
      have hC1 := hC.same s1
      refine ⟨_, rfl, o, T.C_Cursor, dx, _, _, rfl, hC1.obj, T.cl_Cursor, T.na_Cursor_at, cu_at, _, _, rfl, rfl, dx, _, hC1.obj, (by show 3 < 1000; decide), ?_⟩
      rw [cu_put4]
      have kp : ∀ b u, b ≠ o → H1 b = some u → upd H1 o (.ins T.C_Cursor dx (cuF rl ((s' : Int) + 1))) b = some u := fun b u nb e => by rw [upd_ne nb]; exact e
      exact ⟨_, rfl, h2 x hx hb _ (fun b u nb e => kp b u nb (s1 _ _ e)) (hC1.move kp upd_same)⟩
  · refine ⟨fun _ _ => False, ?_, fun _ _ h => h.elim⟩
    refine ⟨_, rfl, rfl, _, rfl, ite2 (fun _ => ?_) (fun h => absurd (decide_eq_true rfl) h)⟩
    exact ⟨_, rfl, o, dx, _, rfl, hC.obj, rfl, o, dx, rl, s', rfl, hC.obj, h3 fun x hx => by rw [hn] at hx; cases hx⟩
end Ag

set_option Elab.async false
set_option linter.all false
set_option maxRecDepth 100000
set_option maxHeartbeats 1000000
set_option pp.maxSteps 400
namespace Ag
open PySem PySem.Spec PyProof.Rows L2 LamX NumText
/-- the number that a numeral tells -/
def numV (x : Str) : Int := ((digitsVal x.cps.toList : Nat) : Int)
theorem fig_dig {x : Str} (h : x.cps.toList.all figure = true) : AllDigits x.cps.toList := by
  intro c hc
  have := List.all_eq_true.mp h c hc
  unfold figure at this
  exact of_decide_eq_true this
theorem num_int {x : Str} (h : numB x = true) : PySem.intText? x = some (numV x) ∧ x.length ≤ 40 := by
  unfold numB at h
  simp only [Bool.and_eq_true, decide_eq_true_eq] at h
  obtain ⟨⟨h1, h2⟩, h3, _⟩ := h
  refine ⟨intText_digits (fig_dig h3) (fun z => ?_) (by omega), by omega⟩
  have : x.length = 0 := by show x.cps.size = 0; rw [← Array.length_toList, z]; rfl
  omega
section
variable {K : PySem.W.Frag} {σ : L2.St} {F : Addr → Prop} {H : Hp} {te : TE}
theorem ed_intS {x : Str} {n : Int} (h : ED K te σ F H (.str x)) (hn : PySem.intText? x = some n) (hl : x.length ≤ 640) : ED K (tCB (fun xs H Q => ∃ a n, xs = [.str a] ∧ PySem.intText? a = some n ∧ a.length ≤ 640 ∧ Q (.int n) H) (tCons te tNil)) σ F H (.int n) := fun H1 s Q q =>
  h H1 s _ fun v H2 s2 hv => by
    cases hv
    exact ⟨x, n, rfl, hn, hl, q _ H2 s2 (.int n)⟩
end
/-- within the bounds -/
def numOk (lo hi : Int) (x : Str) : Bool := numB x && (decide (lo ≤ numV x) && decide (numV x ≤ hi))
section
variable {P : Program} {w : World} {K : PySem.W.Frag} {mg : Str → Option Value} {base : Heap} {T : Txt w K mg} (LL : Lam4 T base)
/-- the word at the spot, one of some -/
def spNeed : Sp := fun vs H Q E => ∃ c dx rl ws n, ∃ s : Nat, ∃ (t : Addr) (xs : List Str), vs = [.ref c, .ref t] ∧ CuAt K T.C_Cursor c dx rl ws n s H ∧ Tabs LL.tbs H ∧ SqT K H t (xs.map V.str) ∧
  (∀ x, ws[s]? = some x → x ∈ xs → ∀ H', Kp c H H' → Tabs LL.tbs H' → CuAt K T.C_Cursor c dx rl ws n ((s : Int) + 1) H' → Q (.str x) H') ∧
  ((∀ x, ws[s]? = some x → x ∉ xs) → BadX LL.tbs T.C_BadText 1 ((s : Int) + 1) H E)
theorem ok_need : FnOk P w K mg base (L2.CX P w) 7 T.a_Cursor_need T.d_Cursor_need ["self", "some"] (spNeed LL) := by
  obtain ⟨oc', od', kV', doc', pm', an', cdv', ct', osl', efw, lkw, hcT⟩ := T.D_Cursor_take.fn.ex
  have LKT := lkw
  rw [efw] at LKT
  have BT := T.D_Cursor_take.bd
  rw [efw] at BT
  refine okXC T.D_Cursor_need.fn sc_Cursor_need (fun vs H Q E h => ?_) (fun A outer s H vs Q E hr h => ?_)
  · obtain ⟨c, dx, rl, ws, n, s, t, xs, rfl, _⟩ := h; rfl
  · obtain ⟨c, dx, rl, ws, n, s', t, xs, rfl, hC, hT, hs, k1, k2⟩ := h
    refine ⟨_, (pss_one (ps_ret (pe_methlam (Tb := LL.tbs) (TT := TTake K T.C_Cursor T.C_BadText) (se := "self") (a := "is_right") (pr := "word") (Pt := LL.t_need) (c := LL.c_need) (k := 3) (pv 0) T.cl_Cursor T.mt_Cursor_take LKT hcT BT sc_Cursor_take rfl (.inl rfl) (take_gives (X := cxOf (L2.CX P w) P w K mg base ["self", "some"] "Cursor.need" (defScope s_Cursor_need) T.a_Cursor_need T.d_Cursor_need.code A outer s H E) (k := 4) T (by decide)) LL.b_need LL.k_need LL.m_need LL.u_need (hr.mono (by omega)) (passes_call (takes_of rfl rfl rfl rfl) fun _ _ _ _ z => z) (lamP_by (sc := defScope s_Cursor_need) (by decide +kernel)) (by show ("word" : Str) ∉ (["self", "some"] : List Str); decide +kernel) rfl (fun _ _ _ _ _ _ => rfl) (fun A outer s H f c' hr => (pe_cmpR (r := rIn K false) op_in_seq (pv 2) (pv 1) (by rfl)))))), ?_⟩
    refine ⟨_, rfl, c, dx, _, rfl, hC.obj, rfl, hT, fun H2 eN T2 => ⟨dx, rl, ws, n, s', fun x => decide (x ∈ xs), hC.ext eN, fun x hx Qb kb => ?_, fun x hx hm H' kp hC' => ?_, fun hb => ?_⟩⟩
    · exact (ed_inSeq (K := K) (F := nn H2) (H := H2) (ed_var (i := 2) rfl (.str x)) (ed_var (i := 1) rfl (.tup (stN eN hs) (dfs_strs xs))) (.inl rfl)) H2 (Same.refl _) Qb fun v H' s1 hv => by cases hv; exact kb H' s1
    · exact k1 x hx (of_decide_eq_true hm) H' ((Kp.ext eN).trans fun a o na _ h => kp a o na h) (tabs_ins (hC.ext eN).obj kp T2) hC'
    · exact (k2 fun x hx => of_decide_eq_false (hb x hx)).at_ eN T2
/-- the number at the spot, within its bounds -/
def spNeedN : Sp := fun vs H Q E => ∃ c dx rl ws n, ∃ s : Nat, ∃ (lo hi : Int), vs = [.ref c, .int lo, .int hi] ∧ CuAt K T.C_Cursor c dx rl ws n s H ∧ Tabs LL.tbs H ∧ (∀ x ∈ ws, gd (.str x) = true) ∧
  (∀ x, ws[s]? = some x → numOk lo hi x = true → ∀ H', Kp c H H' → Tabs LL.tbs H' → CuAt K T.C_Cursor c dx rl ws n ((s : Int) + 1) H' → Q (.int (numV x)) H') ∧
  ((∀ x, ws[s]? = some x → numOk lo hi x = false) → BadX LL.tbs T.C_BadText 1 ((s : Int) + 1) H E)
theorem ok_need_number : FnOk P w K mg base (L2.CX P w) 7 T.a_Cursor_need_number T.d_Cursor_need_number ["self", "least", "most"] (spNeedN LL) := by
  have G_is_numeral := ok_is_numeral (P := P) (base := base) T
  obtain ⟨oc', od', kV', doc', pm', an', cdv', ct', osl', efw, lkw, hcT⟩ := T.D_Cursor_take.fn.ex
  have LKT := lkw
  rw [efw] at LKT
  have BT := T.D_Cursor_take.bd
  rw [efw] at BT
  refine okXC T.D_Cursor_need_number.fn sc_Cursor_need_number (fun vs H Q E h => ?_) (fun A outer s H vs Q E hr h => ?_)
  · obtain ⟨c, dx, rl, ws, n, s, lo, hi, rfl, _⟩ := h; rfl
  · obtain ⟨c, dx, rl, ws, n, s', lo, hi, rfl, hC, hT, hg, k1, k2⟩ := h
    refine ⟨_, (pss_one (ps_ret (pe_callTy call_int_str (by rfl) T.b_int bt_int (pa_cons (pe_methlam (Tb := LL.tbs) (TT := TTake K T.C_Cursor T.C_BadText) (se := "self") (a := "is_right") (pr := "word") (Pt := LL.t_num) (c := LL.c_num) (k := 3) (pv 0) T.cl_Cursor T.mt_Cursor_take LKT hcT BT sc_Cursor_take rfl (.inl rfl) (take_gives (X := cxOf (L2.CX P w) P w K mg base ["self", "least", "most"] "Cursor.need_number" (defScope s_Cursor_need_number) T.a_Cursor_need_number T.d_Cursor_need_number.code A outer s H E) (k := 4) T (by decide)) LL.b_num LL.k_num LL.m_num LL.u_num (hr.mono (by omega)) (passes_call (takes_of rfl rfl rfl rfl) fun _ _ _ _ z => z) (lamP_by (sc := defScope s_Cursor_need_number) (by decide +kernel)) (by show ("word" : Str) ∉ (["self", "least", "most"] : List Str); decide +kernel) rfl (fun _ _ _ _ _ _ => rfl) (fun A outer s H f c' hr => (pe_and (pe_call (G_is_numeral) (hr.mono (by omega)) (by rfl) T.D_is_numeral.mg T.D_is_numeral.fn.kp T.D_is_numeral.bd .nil pass0 (pa_cons (pv 3) pa_nil)) (pe_one (pe_chain op_le op_le (pv 1) (pe_callTy call_int_str (by rfl) T.b_int bt_int (pa_cons (pv 3) pa_nil)) (pv 2)))))) pa_nil)))), ?_⟩
    refine ⟨_, rfl, c, dx, _, rfl, hC.obj, rfl, hT, fun H2 eN T2 => ⟨dx, rl, ws, n, s', numOk lo hi, hC.ext eN, fun x hx Qb kb => ?_, fun x hx hm H' kp hC' => ?_, fun hb => ?_⟩⟩
    · have hxl : x.length ≤ 1000 := by
        have := hg x (List.mem_of_getElem? hx)
        simp only [gd, Bool.and_eq_true, decide_eq_true_eq] at this
        exact this.2
      have vx : ∀ H3, ED K (tVar 3) [some (.ref c), some (.int lo), some (.int hi), some (.str x)] (nn H2) H3 (.str x) := fun H3 => ed_var rfl (.str x)
      refine (ed_andV (K := K) (F := nn H2) (H := H2) (b := decide (lo ≤ numV x) && decide (numV x ≤ hi)) (ed_call (d := .bool (numB x)) (ea_cons (vx H2) ea_nil) ?_) (fun hb => ed_chain (ed_var (i := 1) rfl (.int lo)) (ed_intS (vx H2) (num_int hb).1 (by have := (num_int hb).2; omega)) (ed_var (i := 2) rfl (.int hi)) rd_cmp fun _ => rd_cmp)) H2 (Same.refl _) Qb fun v H' s1 hv => ?_
      · intro F vs H1 hv Q q
        obtain _ | ⟨hv, hn⟩ := hv
        cases hn; cases hv
        exact ⟨x, rfl, by omega, fun H' s => q _ H' s (.bl _)⟩
      · cases hv; exact kb H' s1
    · have hb : numB x = true := by unfold numOk at hm; exact (Bool.and_eq_true_iff.mp hm).1
      exact ⟨x, numV x, rfl, (num_int hb).1, (by have := (num_int hb).2; omega), k1 x hx hm H' ((Kp.ext eN).trans fun a o na _ h => kp a o na h) (tabs_ins (hC.ext eN).obj kp T2) hC'⟩
    · exact (k2 hb).at_ eN T2
end
end Ag

set_option Elab.async false
set_option linter.all false
set_option maxRecDepth 100000
set_option maxHeartbeats 1000000
set_option pp.maxSteps 400
namespace Ag
open PySem PySem.Spec PyProof.Rows L2 LamX
/-! ### what the reader does, in plain terms -/
def plainKinds : List Str := ["call", "row", "steps", "answer", "never"]
def joints : List Str := ["all", "any"]
def leastN (k : Str) : Nat := if k = "call" ∨ k = "never" then 1 else 2
def mostN (k : Str) : Nat := if k = "call" then 1 else if k = "answer" then 2 else 4
def kindsOf (n : Nat) (rd du : Int) : List Str := plainKinds ++ (if (decide ((n : Int) < 4) && decide (rd + du < 4)) = true then joints else [])
def okNm (kd : Str) (found : List Str) (x : Str) : Bool := nameB x && !(decide (kd = "answer") && decide (x ∈ found))
def nmGo (ws : List Str) (kd : Str) : Nat → List Str → Nat → Except Nat (List Str × Nat)
  | 0, found, s => .ok (found, s)
  | f + 1, found, s => if found.length < leastN kd ∨ (found.length < mostN kd ∧ ws[s]? ≠ some (";" : Str)) then
      match ws[s]? with
      | some x => if okNm kd found x = true then nmGo ws kd f (found ++ [x]) (s + 1) else .error s
      | none => .error s
    else .ok (found, s)
def namesR (ws : List Str) (kd : Str) (s : Nat) : Except Nat (List Str × Nat) :=
  match ws[s]? with
  | some x => if nameB x = true then
      match nmGo ws kd 4 [x] (s + 1) with
      | .ok (found, t) => if ws[t]? = some (";" : Str) then .ok (found, t + 1) else .error t
      | .error e => .error e
    else .error s
  | none => .error s
/-! ### the reader's fields -/
abbrev rdF (c nm : Addr) (rd du : Int) (fr : Addr) : List (Str × V) := [("cursor", .ref c), ("is_let", .ref nm), ("read", .int rd), ("due", .int du), ("frames", .ref fr)]
theorem fk_all : ((["cursor", "is_let", "read", "due", "frames"] : List Str).all fun a => (["cursor", "is_let", "read", "due", "frames"] : List Str).all fun b => (a == b) == decide (a = b)) = true := by decide +kernel
theorem f10 : (("is_let" : Str) == ("cursor" : Str)) = false := by decide +kernel
theorem f20 : (("read" : Str) == ("cursor" : Str)) = false := by decide +kernel
theorem f21 : (("read" : Str) == ("is_let" : Str)) = false := by decide +kernel
theorem f30 : (("due" : Str) == ("cursor" : Str)) = false := by decide +kernel
theorem f31 : (("due" : Str) == ("is_let" : Str)) = false := by decide +kernel
theorem f32 : (("due" : Str) == ("read" : Str)) = false := by decide +kernel
theorem f40 : (("frames" : Str) == ("cursor" : Str)) = false := by decide +kernel
theorem f41 : (("frames" : Str) == ("is_let" : Str)) = false := by decide +kernel
theorem f42 : (("frames" : Str) == ("read" : Str)) = false := by decide +kernel
theorem f43 : (("frames" : Str) == ("due" : Str)) = false := by decide +kernel
theorem g01 : ¬ ("cursor" : Str) = "is_let" := by decide +kernel
theorem g02 : ¬ ("cursor" : Str) = "read" := by decide +kernel
theorem g03 : ¬ ("cursor" : Str) = "due" := by decide +kernel
theorem g04 : ¬ ("cursor" : Str) = "frames" := by decide +kernel
theorem g12 : ¬ ("is_let" : Str) = "read" := by decide +kernel
theorem g13 : ¬ ("is_let" : Str) = "due" := by decide +kernel
theorem g14 : ¬ ("is_let" : Str) = "frames" := by decide +kernel
theorem g23 : ¬ ("read" : Str) = "due" := by decide +kernel
theorem g24 : ¬ ("read" : Str) = "frames" := by decide +kernel
theorem g34 : ¬ ("due" : Str) = "frames" := by decide +kernel
section
variable {c nm fr : Addr} {rd du : Int}
theorem rd_cursor : (rdF c nm rd du fr).lookup ("cursor" : Str) = some (.ref c) := rfl
theorem rd_let : (rdF c nm rd du fr).lookup ("is_let" : Str) = some (.ref nm) := by
  unfold rdF; rw [List.lookup_cons, f10]; rfl
theorem rd_read : (rdF c nm rd du fr).lookup ("read" : Str) = some (.int rd) := by
  unfold rdF; rw [List.lookup_cons, f20]
  show List.lookup _ _ = _
  rw [List.lookup_cons, f21]; rfl
theorem rd_due : (rdF c nm rd du fr).lookup ("due" : Str) = some (.int du) := by
  unfold rdF; rw [List.lookup_cons, f30]
  show List.lookup _ _ = _
  rw [List.lookup_cons, f31]
  show List.lookup _ _ = _
  rw [List.lookup_cons, f32]; rfl
theorem rd_frames : (rdF c nm rd du fr).lookup ("frames" : Str) = some (.ref fr) := by
  unfold rdF; rw [List.lookup_cons, f40]
  show List.lookup _ _ = _
  rw [List.lookup_cons, f41]
  show List.lookup _ _ = _
  rw [List.lookup_cons, f42]
  show List.lookup _ _ = _
  rw [List.lookup_cons, f43]; rfl
theorem rd_put2 : putF "is_let" (.ref nm) (putF "cursor" (.ref c) []) = ([("cursor", .ref c), ("is_let", .ref nm)] : List (Str × V)) := by
  simp only [putF, if_neg g01]
theorem rd_put3 : putF "read" (.int rd) ([("cursor", .ref c), ("is_let", .ref nm)] : List (Str × V)) = ([("cursor", .ref c), ("is_let", .ref nm), ("read", .int rd)] : List (Str × V)) := by
  simp only [putF, if_neg g02, if_neg g12]
theorem rd_put4 : putF "due" (.int du) ([("cursor", .ref c), ("is_let", .ref nm), ("read", .int rd)] : List (Str × V)) = ([("cursor", .ref c), ("is_let", .ref nm), ("read", .int rd), ("due", .int du)] : List (Str × V)) := by
  simp only [putF, if_neg g03, if_neg g13, if_neg g23]
theorem rd_put5 : putF "frames" (.ref fr) ([("cursor", .ref c), ("is_let", .ref nm), ("read", .int rd), ("due", .int du)] : List (Str × V)) = rdF c nm rd du fr := by
  simp only [putF, if_neg g04, if_neg g14, if_neg g24, if_neg g34]
theorem rd_setRead {i : Int} : putF "read" (.int i) (rdF c nm rd du fr) = rdF c nm i du fr := by
  simp only [rdF, putF, if_neg g02, if_neg g12, if_pos]
theorem rd_setDue {i : Int} : putF "due" (.int i) (rdF c nm rd du fr) = rdF c nm rd i fr := by
  simp only [rdF, putF, if_neg g03, if_neg g13, if_neg g23, if_pos]
end
section
variable {K : PySem.W.Frag} {σ : L2.St} {F : Addr → Prop} {H : Hp}
theorem ed_fldI {i : Nat} {a C dx : Addr} {fs : List (Str × V)} {f : Str} {n : Int} (h : σ[i]? = some (some (.ref a))) (ha : H a = some (.ins C dx fs)) (c : Cls K C) (nn : NoAttr K C f) (l : fs.lookup f = some (.int n)) : ED K (tFld K (tVar i) f) σ F H (.int n) :=
  fun H1 s Q q => ⟨_, h, a, C, dx, fs, _, rfl, s _ _ ha, c, nn, l, q _ H1 (Same.refl _) (.int n)⟩
theorem ed_fldLen {i : Nat} {a C dx l : Addr} {fs : List (Str × V)} {f : Str} {us : List V} (h : σ[i]? = some (some (.ref a))) (ha : H a = some (.ins C dx fs)) (c : Cls K C) (nn : NoAttr K C f) (lk : fs.lookup f = some (.ref l)) (hl : H l = some (.lst us)) :
    ED K (tCB (fun xs H Q => ∃ x n, xs = [x] ∧ LenV K x H n ∧ Q (.int n) H) (tCons (tFld K (tVar i) f) tNil)) σ F H (.int (us.length : Nat)) :=
  fun H1 s Q q => ⟨_, h, a, C, dx, fs, _, rfl, s _ _ ha, c, nn, lk, _, _, rfl, .inl ⟨us, SqL.of (s _ _ hl), rfl⟩, q _ H1 (Same.refl _) (.int _)⟩
end
section
variable {K : PySem.W.Frag} {σ : L2.St} {F : Addr → Prop} {H : Hp} {d : PyData}
def tru : Addr → Prop := fun _ => True
theorem ed_val {v : V} (hd : Df K F H v d) : ED K (tC v) σ F H d := fun H1 s Q q => q v H1 (Same.refl _) (df_mono s Fr.base hd)
theorem run_catT {v y : V} {xs ys : List PyData} {Q : VK} (hv : Df K F H v (.tuple xs)) (hy : Df K F H y (.tuple ys)) (hl : xs.length + ys.length ≤ 100000) (k : ∀ z H1, Same H H1 → Df K (Fr F H) H1 z (.tuple (xs ++ ys)) → Q z H1) : rCatA K v y H Q :=
  ed_catT (σ := []) (ed_val hv) (ed_val hy) hl H (Same.refl _) Q k
end
section
variable {P : Program} {w : World} {K : PySem.W.Frag} {mg : Str → Option Value} {base : Heap} (T : Txt w K mg)
/-- DutyReader(cursor, is_let) -/
def spRdInit (C : Addr) : Sp := fun vs H Q _ => ∃ r dx c nm, vs = [.ref r, .ref c, .ref nm] ∧ H r = some (.ins C dx []) ∧ ∀ fr H', (∀ b o, b ≠ r → H b = some o → H' b = some o) → H fr = none → H' fr = some (.lst []) → H' r = some (.ins C dx (rdF c nm 0 1 fr)) → Q .non H'
theorem ok_rd_init : FnOk P w K mg base CX0 1 T.a_DutyReader___init__ T.d_DutyReader___init__ ["self", "cursor", "is_let"] (spRdInit T.C_DutyReader) := by
  refine T.D_DutyReader___init__.fn.ok sc_DutyReader___init__ (fun vs H Q E h => ?_) (fun cdv A outer s H vs Q E hr h => ?_)
  · obtain ⟨r, dx, c, nm, rfl, _⟩ := h; rfl
  · obtain ⟨r, dx, c, nm, rfl, hR, k⟩ := h
    refine ⟨_, (pss_cons (ps_fld (pv 0) (pv 1) rfl)
      (pss_cons (ps_fld (pv 0) (pv 2) rfl)
      (pss_cons (ps_fld (pv 0) pe_int rfl)
      (pss_cons (ps_fld (pv 0) pe_int rfl)
      (pss_one (ps_fld (pv 0) (pe_lst pa_nil) rfl)))))), ?_⟩
    refine ⟨_, rfl, _, rfl, r, T.C_DutyReader, dx, _, rfl, hR, T.cl_DutyReader, T.na_DutyReader_cursor, (by decide : 0 < 1000), ?_⟩
    refine ⟨_, rfl, _, rfl, r, T.C_DutyReader, dx, _, rfl, upd_same, T.cl_DutyReader, T.na_DutyReader_is_let, (by show 1 < 1000; decide), ?_⟩
    rw [rd_put2]
    refine ⟨_, rfl, r, T.C_DutyReader, dx, _, rfl, upd_same, T.cl_DutyReader, T.na_DutyReader_read, (by show 2 < 1000; decide), ?_⟩
    rw [rd_put3]
    refine ⟨_, rfl, r, T.C_DutyReader, dx, _, rfl, upd_same, T.cl_DutyReader, T.na_DutyReader_due, (by show 3 < 1000; decide), ?_⟩
    rw [rd_put4]
    refine ⟨(by show 0 ≤ sizeLine; decide), fun fr hfr => ?_⟩
    have nfr : fr ≠ r := fun z => by rw [z, upd_same] at hfr; cases hfr
    refine ⟨_, rfl, r, T.C_DutyReader, dx, _, rfl, by rw [upd_ne (Ne.symm nfr)]; exact upd_same, T.cl_DutyReader, T.na_DutyReader_frames, (by show 4 < 1000; decide), ?_⟩
    rw [rd_put5]
    rw [upd_ne nfr, upd_ne nfr, upd_ne nfr, upd_ne nfr] at hfr
    refine k fr _ (fun b o nb e => ?_) hfr (by rw [upd_ne nfr]; exact upd_same) upd_same
    rw [upd_ne nb, upd_ne (ne_of_none e hfr), upd_ne nb, upd_ne nb, upd_ne nb, upd_ne nb]; exact e
/-- the words by which a duty can begin here -/
def spKinds (K : PySem.W.Frag) (C : Addr) : Sp := fun vs H Q _ => ∃ r dx c nm fr rd du us, vs = [.ref r] ∧ H r = some (.ins C dx (rdF c nm rd du fr)) ∧ H fr = some (.lst us) ∧ us.length ≤ 1000 ∧ ∀ t H', Same H H' → SqT K H' t ((kindsOf us.length rd du).map V.str) → Q (.ref t) H'
theorem ok_kinds : FnOk P w K mg base CX0 1 T.a_DutyReader_kinds T.d_DutyReader_kinds ["self"] (spKinds K T.C_DutyReader) := by
  refine T.D_DutyReader_kinds.fn.ok sc_DutyReader_kinds (fun vs H Q E h => ?_) (fun cdv A outer s H vs Q E hr h => ?_)
  · obtain ⟨r, dx, c, nm, fr, rd, du, us, rfl, _⟩ := h; rfl
  · obtain ⟨r, dx, c, nm, fr, rd, du, us, rfl, hR, hf, hl, k⟩ := h
    refine ⟨_, (pss_cons (ps_set (i := 1) sc_DutyReader_kinds.nd rfl (by first | exact Or.inl rfl | exact Or.inr rfl) (pe_and (pe_cmpR op_lt (pe_callB call_len (by rfl) T.b_len bt_len (pa_cons (pe_fld (pv 0) rfl) pa_nil)) (pe_glob (v := .int 4) (by rfl) T.g_MOST_AROUND ⟨_, rfl⟩) (nomark _)) (pe_one (pe_cmpR op_lt (pe_op op_add (pe_fld (pv 0) rfl) (pe_fld (pv 0) rfl)) (pe_glob (v := .int 4) (by rfl) T.g_MOST_PLAIN ⟨_, rfl⟩) (nomark _)))))
      (pss_one (ps_ret (pe_op op_catA (pe_callTy (call_tuple_kd rfl) (by rfl) T.b_tuple bt_tuple (pa_cons (pe_glob (v := .ref T.a_LEAST_CALLS) (by rfl) T.g_LEAST_CALLS rfl) pa_nil)) (pe_ifExp (pt_val (pv 1)) (pe_glob (v := .ref T.a_JOINTS) (by rfl) T.g_JOINTS rfl) (pe_tup pa_nil)))))), ?_⟩
    refine s_set (K := K) (F := nn H) (d := .bool (decide ((us.length : Int) < 4) && decide (rd + du < 4))) (ed_andV (ed_lt (ed_fldLen rfl hR T.cl_DutyReader T.na_DutyReader_frames rd_frames hf) (ed_int (i := 4))) fun _ => ed_lt (ed_add (ed_fldI rfl hR T.cl_DutyReader T.na_DutyReader_read rd_read) (ed_fldI rfl hR T.cl_DutyReader T.na_DutyReader_due rd_due)) (ed_int (i := 4))) fun v H1 s1 hv => ?_
    cases hv
    refine ⟨_, T.es_LEAST_CALLS, T.n_LEAST_CALLS, plainKinds, rfl, T.kd_LEAST_CALLS, T.ke_LEAST_CALLS, (by decide +kernel), (by decide), fun t1 h1 => ?_⟩
    have s2 := s1.trans (Same.newA (o := .tup (plainKinds.map V.str)) h1)
    have e1 : (upd H1 t1 (.tup (plainKinds.map V.str))) t1 = some (.tup (plainKinds.map V.str)) := upd_same
    generalize upd H1 t1 (HO.tup (plainKinds.map V.str)) = H2 at s2 e1
    clear h1
    generalize hb : (decide ((us.length : Int) < 4) && decide (rd + du < 4)) = b
    have hj : ED K (tIf (tTest (tVar 1)) (tC (.ref T.a_JOINTS)) (tTup tNil)) [some (.ref r), some (.bl b)] tru H2 (.tuple ((if b = true then joints else []).map .str)) := ed_if (et_test (K := K) (F := tru) (ed_var rfl (.bl b))) (fun z => by
      subst z; exact ed_val (.tup (T.sq_JOINTS _) (dfs_strs joints))) (fun z => by
      subst z; exact ed_tup ea_nil (by decide))
    refine hj H2 (Same.refl _) _ fun v H3 s3 hv => ?_
    refine run_catT (K := K) (F := tru) (xs := plainKinds.map .str) (.tup (s3.stA (.of e1)) (dfs_strs plainKinds)) (df_mono (Same.refl _) (fun _ _ => trivial) hv) (by rw [List.length_map, List.length_map]; cases b <;> decide) fun z H4 s4 hz => ?_
    rw [← List.map_append] at hz
    cases hz with
    | tup ht q =>
      refine k _ H4 ((s2.trans s3).trans s4) ?_
      have e := strs_dps (dfs_dps q)
      subst e
      unfold kindsOf
      rw [hb]; exact ht
end
end Ag

set_option Elab.async false
set_option linter.all false
set_option maxRecDepth 100000
set_option maxHeartbeats 1000000
set_option pp.maxSteps 400
namespace Ag
open PySem PySem.Spec PyProof.Rows L2 LamX
/-- all but what S allows, and the tables, is kept -/
def KpS (S : Addr → Prop) (H H' : Hp) : Prop := ∀ a o, ¬ S a → (∀ ps, o ≠ .tbl ps) → H a = some o → H' a = some o
theorem KpS.refl {S : Addr → Prop} {H : Hp} : KpS S H H := fun _ _ _ _ h => h
theorem KpS.trans {S : Addr → Prop} {H H1 H2 : Hp} (a : KpS S H H1) (b : KpS S H1 H2) : KpS S H H2 := fun x o n t h => b x o n t (a x o n t h)
theorem KpS.kp {S : Addr → Prop} {c : Addr} {H H' : Hp} (hc : S c) (k : Kp c H H') : KpS S H H' := fun a o n t h => k a o (fun q => n (q ▸ hc)) t h
theorem KpS.ext {S : Addr → Prop} {H H' : Hp} (k : ExtN H H') : KpS S H H' := fun a o _ t h => k a o h t
theorem KpS.of {S : Addr → Prop} {H H' : Hp} (k : Same H H') : KpS S H H' := fun a o _ _ h => k a o h
theorem KpS.sub {S S' : Addr → Prop} {H H' : Hp} (k : KpS S H H') (h : ∀ a, S a → S' a) : KpS S' H H' := fun a o n t e => k a o (fun q => n (h a q)) t e
theorem KpS.upd {S : Addr → Prop} {H : Hp} {a : Addr} {o : HO} (h : S a ∨ H a = none) : KpS S H (upd H a o) := fun b u n _ e => by
  rw [upd_ne (fun q => ?_)]; exact e
  subst q
  rcases h with h | h
  · exact n h
  · rw [h] at e; cases e
def BadS (S : Addr → Prop) (tb : List (Addr × Str)) (C : Addr) (l s : Int) (H : Hp) (E : XK) : Prop := ∀ d H', KpS S H H' → Tabs tb H' → H' d = some (.xd [("word", .int s), ("line", .int l)]) → E (.ref C) (some d) H'
theorem BadS.x {S : Addr → Prop} {tb : List (Addr × Str)} {C : Addr} {l s : Int} {H H2 : Hp} {E : XK} (b : BadS S tb C l s H E) (k : KpS S H H2) : BadX tb C l s H2 E := fun d H' e t hd => b d H' (k.trans (.ext e)) t hd
theorem BadS.kp {S : Addr → Prop} {tb : List (Addr × Str)} {C : Addr} {l s : Int} {H H2 : Hp} {E : XK} (b : BadS S tb C l s H E) (k : KpS S H H2) : BadS S tb C l s H2 E := fun d H' e t hd => b d H' (k.trans e) t hd
theorem BadS.sub {S S' : Addr → Prop} {tb : List (Addr × Str)} {C : Addr} {l s : Int} {H : Hp} {E : XK} (b : BadS S' tb C l s H E) (h : ∀ a, S a → S' a) : BadS S tb C l s H E := fun d H' e t hd => b d H' (e.sub h) t hd
theorem BadX.s {tb : List (Addr × Str)} {C : Addr} {l s : Int} {H : Hp} {E : XK} (b : BadX tb C l s H E) : True := trivial
def isAt (c : Addr) : Addr → Prop := fun a => a = c
section
variable {K : PySem.W.Frag} {σ : L2.St} {F : Addr → Prop} {H : Hp} {te : TE}
theorem ed_kd {w : World} {a : Addr} {z : Str} {i : Int} (h : ED K te σ F H (.str z)) (hk : KDct K w a z (.int i)) : ED K (tOp (rIxD K w) (tC (.ref a)) te) σ F H (.int i) := fun H1 s Q q =>
  h H1 s _ fun v H2 s2 hv => by
    cases hv
    exact ⟨a, z, .int i, rfl, rfl, hk, q _ H2 s2 (.int i)⟩
theorem run_while {c : TT} {tb tz : TS} {D : Ends} {W : Nat → L2.St → Hp → Prop} {m0 : Nat} (h0 : W m0 σ H)
    (hs : ∀ m σ H, W m σ H → ∃ b, ET c σ H b ∧ (b = true → ∀ H1, Same H H1 → ∃ N : L2.St → Hp → Prop, (∀ σ' H', N σ' H' → ∃ m', m' < m ∧ W m' σ' H') ∧ tb { D with nx := N, ct := N, bk := tz D } σ H1) ∧ (b = false → ∀ H1, Same H H1 → tz D σ H1)) :
    tSeq (tWhile c tb) tz D σ H := ⟨W, ⟨m0, h0⟩, fun m σ H w => by
  obtain ⟨b, hc, h1, h2⟩ := hs m σ H w
  refine hc H (Same.refl _) _ fun H2 s2 => ?_
  cases b with
  | true => exact h1 rfl H2 s2
  | false => exact h2 rfl H2 s2⟩
theorem ed_fldC {C f : Addr} {sp : Sp} {E : XK} {i o dx : Addr} {m : Str} {fs : List (Str × V)} {ta : TA} {ds : List PyData} {d : PyData} (h : σ[i]? = some (some (.ref o))) (ho : H o = some (.ins C dx fs)) (l : fs.lookup m = some (.ref f)) (ha : EA K ta σ F H ds) (hr : RDC K (fun vs H Q => sp vs H Q E) ds d) :
    ED K (tFldC C m f sp E (tVar i) ta) σ F H d := fun H1 s Q q => ⟨_, h, o, dx, fs, rfl, s _ _ ho, l, ha H1 s _ fun vs H2 s2 hv => hr (Fr F H1) vs H2 hv Q fun v H3 s3 hv3 => q v H3 (s2.trans s3) (df_mono (Same.refl _) (fun _ z => z.elim id fun e => .inr (s2.freshA e)) hv3)⟩
end
theorem kinds_at {k : Str} (h : k ∈ plainKinds) : (k, (leastN k : Int)) ∈ ([("call", 1), ("row", 2), ("steps", 2), ("answer", 2), ("never", 1)] : List (Str × Int)) ∧ (k, (mostN k : Int)) ∈ ([("call", 1), ("row", 4), ("steps", 4), ("answer", 2), ("never", 4)] : List (Str × Int)) := by
  unfold plainKinds at h
  simp only [List.mem_cons, List.not_mem_nil, or_false] at h
  rcases h with rfl | rfl | rfl | rfl | rfl <;> decide +kernel
theorem least_most {k : Str} (h : k ∈ plainKinds) : leastN k ≤ mostN k ∧ mostN k ≤ 4 ∧ 1 ≤ mostN k := by
  unfold plainKinds at h
  simp only [List.mem_cons, List.not_mem_nil, or_false] at h
  rcases h with rfl | rfl | rfl | rfl | rfl <;> decide +kernel
/-- the word at a spot, as data -/
def seenD : Option Str → PyData | some x => .str x | none => .none
theorem CuAt.kp {K : PySem.W.Frag} {C c dx rl : Addr} {ws : List Str} {n : Nat} {s t : Int} {H H' : Hp} (x : CuAt K C c dx rl ws n s H) (k : Kp c H H') (e : H' c = some (.ins C dx (cuF rl t))) : CuAt K C c dx rl ws n t H' :=
  let ⟨us, wl, a, b, d, f⟩ := x.rows
  have sl : ∀ {a : Addr} {xs : List V}, SqL K H a xs → SqL K H' a xs := fun {a xs} h => by
    rcases h with (h | ⟨o, h⟩) | h
    · exact .inl (.inl (k _ _ (fun q => by rw [q, x.obj] at h; cases h) (fun _ z => nomatch z) h))
    · exact .inl (.inr ⟨o, k _ _ (fun q => by rw [q, x.obj] at h; cases h) (fun _ z => nomatch z) h⟩)
    · exact .inr h
  ⟨e, ⟨us, wl, sl a, b, d, sl f⟩, x.wlen, x.nlen⟩
theorem Kp.fresh {c a : Addr} {o : HO} {H H' : Hp} (k : Kp c H H') (h : H a = none) : Kp c H (upd H' a o) := fun b u n t e => by
  rw [upd_ne (ne_of_none e h)]; exact k b u n t e
theorem tabs_lst {tb : List (Addr × Str)} {H : Hp} {a : Addr} {us : List V} {o : HO} (h : H a = some (.lst us)) (t : Tabs tb H) : Tabs tb (upd H a o) :=
  tabs_keep (fun b u e z => by
    rw [upd_ne (fun q => ?_)]; exact e
    rw [q, h] at e
    cases e
    rcases z with ⟨ps, z⟩ | ⟨_, _, z⟩
    · cases z
    · unfold CodeO at z; cases z) t
theorem tabs_none {tb : List (Addr × Str)} {H : Hp} {a : Addr} {o : HO} (h : H a = none) (t : Tabs tb H) : Tabs tb (upd H a o) :=
  tabs_keep (fun b u e z => by rw [upd_ne (ne_of_none e h)]; exact e) t
theorem seen_sh {ws : List Str} {s : Nat} (hg : ∀ x ∈ ws, gd (.str x) = true) : SeqAt.shaped (seenD ws[s]?) = true := by
  cases h : ws[s]? with
  | none => decide
  | some x =>
    show SeqAt.shaped (.str x) = true
    unfold SeqAt.shaped
    rw [gd_lay (hg x (List.mem_of_getElem? h))]; simp [PyData.depth]
theorem seen_ne {o : Option Str} {z : Str} : (!PyData.eqv (seenD o) (.str z)) = decide (o ≠ some z) := by
  cases o with
  | none => show (!PyData.eqv .none (.str z)) = _; simp [PyData.eqv]
  | some x =>
    show (!PyData.eqv (.str x) (.str z)) = _
    by_cases h : x = z
    · subst h; simp [PyData.eqv]
    · simp [PyData.eqv, h]
theorem nmGo_ok {ws : List Str} {kd x : Str} {f s : Nat} {found : List Str} (h : found.length < leastN kd ∨ (found.length < mostN kd ∧ ws[s]? ≠ some (";" : Str))) (hx : ws[s]? = some x) (ho : okNm kd found x = true) : nmGo ws kd (f + 1) found s = nmGo ws kd f (found ++ [x]) (s + 1) := by
  show (if _ then _ else _) = _
  rw [if_pos h, hx]
  show (if okNm kd found x = true then _ else _) = _
  rw [if_pos ho]
theorem nmGo_bad {ws : List Str} {kd : Str} {f s : Nat} {found : List Str} (h : found.length < leastN kd ∨ (found.length < mostN kd ∧ ws[s]? ≠ some (";" : Str))) (ho : ∀ x, ws[s]? = some x → okNm kd found x = false) : nmGo ws kd (f + 1) found s = .error s := by
  show (if _ then _ else _) = _
  rw [if_pos h]
  cases hx : ws[s]? with
  | none => rfl
  | some x =>
    show (if okNm kd found x = true then _ else _) = _
    rw [if_neg (by rw [ho x hx]; decide)]
def moreB (ws : List Str) (kd : Str) (n s : Nat) : Bool := decide ((n : Int) < (leastN kd : Int)) || (decide ((n : Int) < (mostN kd : Int)) && decide (ws[s]? ≠ some (";" : Str)))
theorem more_iff {ws : List Str} {kd : Str} {n s : Nat} : moreB ws kd n s = true ↔ (n < leastN kd ∨ (n < mostN kd ∧ ws[s]? ≠ some (";" : Str))) := by
  unfold moreB
  simp only [Bool.or_eq_true, Bool.and_eq_true, decide_eq_true_eq, Int.ofNat_lt]
section
variable {P : Program} {w : World} {K : PySem.W.Frag} {mg : Str → Option Value} {base : Heap} {T : Txt w K mg} (LL : Lam4 T base)
/-- the names of a plain duty -/
def spNames2 : Sp := fun vs H Q E => ∃ r dxr c dx rl fr rd du ws n, ∃ s : Nat, ∃ kd : Str, vs = [.ref r, .str kd] ∧ H r = some (.ins T.C_DutyReader dxr (rdF c T.a_is_name rd du fr)) ∧ CuAt K T.C_Cursor c dx rl ws n s H ∧ Tabs LL.tbs H ∧ (∀ x ∈ ws, gd (.str x) = true) ∧ kd ∈ plainKinds ∧
  (∀ nm s', namesR ws kd s = .ok (nm, s') → ∀ t H', Kp c H H' → Tabs LL.tbs H' → CuAt K T.C_Cursor c dx rl ws n (s' : Int) H' → H' t = some (.tup (nm.map V.str)) → Q (.ref t) H') ∧
  (∀ e, namesR ws kd s = .error e → BadS (isAt c) LL.tbs T.C_BadText 1 ((e : Int) + 1) H E)
theorem ok_names2 : FnOk P w K mg base (L2.CX P w) 9 T.a_DutyReader_names T.d_DutyReader_names ["self", "kind"] (spNames2 LL) := by
  have G_Cursor_take := ok_take (P := P) (base := base) T
  have G_Cursor_seen := ok_seen (P := P) (base := base) T
  have G_Cursor_need := ok_need (P := P) LL
  have G_is_name := ok_is_name (P := P) (base := base) T
  obtain ⟨oc', od', kV', doc', pm', an', cdv', ct', osl', efw, lkw, hcT⟩ := T.D_Cursor_take.fn.ex
  have LKT := lkw
  rw [efw] at LKT
  have BT := T.D_Cursor_take.bd
  rw [efw] at BT
  refine okXC T.D_DutyReader_names.fn sc_DutyReader_names (fun vs H Q E h => ?_) (fun A outer s H vs Q E hr h => ?_)
  · obtain ⟨r, dxr, c, dx, rl, fr, rd, du, ws, n, s, kd, rfl, _⟩ := h; rfl
  · obtain ⟨r, dxr, c, dx, rl, fr, rd, du, ws, n, s0, kd, rfl, hR, hC, hT, hg, hk, k1, k2⟩ := h
    refine ⟨_, (pss_cons (ps_set (i := 2) sc_DutyReader_names.nd rfl (by first | exact Or.inl rfl | exact Or.inr rfl) (pe_lst (pa_cons (pe_meth (pe_fld (pv 0) rfl) T.cl_Cursor T.mt_Cursor_take (G_Cursor_take) (hr.mono (by omega)) T.D_Cursor_take.bd .nil (passes_call (takes_of rfl rfl rfl rfl) fun _ _ _ _ z => z) (pa_cons (pe_fld (pv 0) rfl) pa_nil)) pa_nil)))
      (pss_cons (ps_while (passes_of rfl) (PW.pt (pw_or (pt_cmpR op_lt (pe_callB call_len (by rfl) T.b_len bt_len (pa_cons (pv 2) pa_nil)) (pe_ix ix_kdict (pe_glob (v := .ref T.a_LEAST_CALLS) (by rfl) T.g_LEAST_CALLS rfl) (pv 1) (fun _ _ => rfl)) (nomark _)) (pw_or1 (PW.pt (pw_and (pt_cmpR op_lt (pe_callB call_len (by rfl) T.b_len bt_len (pa_cons (pv 2) pa_nil)) (pe_ix ix_kdict (pe_glob (v := .ref T.a_MOST_CALLS) (by rfl) T.g_MOST_CALLS rfl) (pv 1) (fun _ _ => rfl)) (nomark _)) (pw_and1 (pt_cmpR (op_neD hr.units) (pe_meth0 (pe_fld (pv 0) rfl) T.cl_Cursor T.mt_Cursor_seen (G_Cursor_seen) (hr.mono (by omega)) T.D_Cursor_seen.bd .nil pass0) (pe_glob (v := .str ";") (by rfl) T.g_END ⟨_, rfl⟩) (nomark _)))))))) (pss_cons (ps_set (i := 3) sc_DutyReader_names.nd rfl (by first | exact Or.inl rfl | exact Or.inr rfl) (pe_cmpR op_eq (pv 1) pe_str (nomark _)))
      (pss_one (ps_expr (pe_bm PySem.F.plainAttrs_list PySem.F.slot_list_append PySem.F.type_list_append mt_append (pv 2) (pa_cons (pe_methlam (Tb := LL.tbs) (TT := TTake K T.C_Cursor T.C_BadText) (se := "self") (a := "is_right") (pr := "name") (Pt := LL.t_names) (c := LL.c_names) (k := 3) (pe_fld (pv 0) rfl) T.cl_Cursor T.mt_Cursor_take LKT hcT BT sc_Cursor_take rfl (.inl rfl) (take_gives (X := cxOf (L2.CX P w) P w K mg base ["self", "kind", "found", "is_unlike"] "DutyReader.names" (defScope s_DutyReader_names) T.a_DutyReader_names T.d_DutyReader_names.code A outer s H E) (k := 4) T (by decide)) LL.b_names LL.k_names LL.m_names LL.u_names (hr.mono (by omega)) (passes_call (takes_of rfl rfl rfl rfl) fun _ _ _ _ z => z) (lamP_by (sc := defScope s_DutyReader_names) (by decide +kernel)) (by show ("name" : Str) ∉ (["self", "kind", "found", "is_unlike"] : List Str); decide +kernel) rfl (fun _ _ _ _ _ _ => rfl) (fun A outer s H f c' hr => (pe_and (pe_fldcall (pv 0) T.cl_DutyReader T.na_DutyReader_is_let (G_is_name) (hr.mono (by omega)) T.D_is_name.fn.kp T.D_is_name.bd pass0 (pa_cons (pv 4) pa_nil)) (pe_one (pe_not (pe_and (pv 3) (pe_one (pe_cmpR (r := rIn K false) op_in_seq (pv 4) (pv 2) (by rfl))))))))) pa_nil))))))
      (pss_cons (ps_expr (pe_meth (pe_fld (pv 0) rfl) T.cl_Cursor T.mt_Cursor_need (G_Cursor_need) (hr.mono (by omega)) T.D_Cursor_need.bd .nil (passes_call (takes_of rfl rfl rfl rfl) fun _ _ _ _ z => z) (pa_cons (pe_tup (pa_cons (pe_glob (v := .str ";") (by rfl) T.g_END ⟨_, rfl⟩) pa_nil)) pa_nil)))
      (pss_one (ps_ret (pe_callTy call_tuple_of (by rfl) T.b_tuple bt_tuple (pa_cons (pv 2) pa_nil))))))), ?_⟩
    obtain ⟨lm1, lm2, lm3⟩ := least_most hk
    obtain ⟨ka1, ka2⟩ := kinds_at hk
    refine ⟨_, rfl, r, T.C_DutyReader, dxr, _, _, rfl, hR, T.cl_DutyReader, T.na_DutyReader_cursor, rd_cursor, c, dx, _, rfl, hC.obj, rfl, _, rfl, r, T.C_DutyReader, dxr, _, _, rfl, hR, T.cl_DutyReader, T.na_DutyReader_is_let, rd_let, ?_⟩
    have hbad : (∀ x, ws[s0]? = some x → nameB x = false) → namesR ws kd s0 = .error s0 := fun hb => by
      unfold namesR
      cases hx : ws[s0]? with
      | none => rfl
      | some x => show (if nameB x = true then _ else _) = _; rw [if_neg (by rw [hb x hx]; decide)]
    refine ⟨c, dx, rl, ws, n, s0, rfl, hC, hg, fun x0 hx0 hb0 H1 kp1 hC1 => ?_, fun hb => ((k2 s0 (hbad hb)).x (KpS.refl)).at_ (ExtN.refl _) hT⟩
    have eN0 : namesR ws kd s0 = (match nmGo ws kd 4 [x0] (s0 + 1) with | .ok (found, t) => if ws[t]? = some (";" : Str) then .ok (found, t + 1) else .error t | .error e => .error e) := by
      unfold namesR; rw [hx0]; show (if nameB x0 = true then _ else _) = _; exact if_pos hb0
    refine ⟨(by decide : 1 ≤ sizeLine), fun fl hfl => ?_⟩
    have kc1 : Kp c H H1 := fun a o na _ h => kp1 a o na h
    have rc : r ≠ c := fun q => by
      rw [q, hC.obj] at hR; exact absurd (congrArg (fun z => match z with | some (HO.ins _ _ fs) => (fs.length : Nat) | _ => 0) hR) (by show ¬ (3 : Nat) = 5; decide)
    have hflH : H fl = none := by
      by_cases z : fl = c
      · rw [z, hC1.obj] at hfl; cases hfl
      · cases e : H fl with
        | none => rfl
        | some o => rw [kp1 fl o z e] at hfl; cases hfl
    have hT1 : Tabs LL.tbs (upd H1 fl (.lst [.str x0])) := tabs_none hfl (tabs_ins hC.obj kp1 hT)
    refine run_while (W := fun m σ' H' => ∃ (found : List Str) (s f : Nat) (o3 : Option V), σ' = [some (.ref r), some (.str kd), some (.ref fl), o3] ∧ nmGo ws kd f found s = nmGo ws kd 4 [x0] (s0 + 1) ∧ m = mostN kd - found.length ∧ mostN kd ≤ found.length + f ∧ H' fl = some (.lst (found.map V.str)) ∧ H' c = some (.ins T.C_Cursor dx (cuF rl (s : Int))) ∧ Tabs LL.tbs H' ∧ Kp c H H') (m0 := mostN kd - 1) ⟨[x0], s0 + 1, 4, none, rfl, rfl, rfl, by show mostN kd ≤ 1 + 4; omega, upd_same, by rw [upd_ne (fun q => by rw [← q, hC1.obj] at hfl; cases hfl)]; exact hC1.obj, hT1, kc1.fresh hflH⟩ ?_
    clear hT1 kc1 hfl kp1 hC1
    rintro m σ' H2 ⟨found, s, f, o3, rfl, eG, rfl, hmf, hfd, hcu, hT2, hkp⟩
    have hC2 : CuAt K T.C_Cursor c dx rl ws n (s : Int) H2 := hC.kp hkp hcu
    have hR2 : H2 r = some (.ins T.C_DutyReader dxr (rdF c T.a_is_name rd du fr)) := hkp _ _ rc (fun _ z => nomatch z) hR
    have vF : ∀ H3, Same H2 H3 → ED K (tVar 2) [some (.ref r), some (.str kd), some (.ref fl), o3] tru H3 (.list (found.map .str)) := fun H3 s3 => ed_var rfl (.lst (.inl ⟨.inl (s3 _ _ hfd), trivial⟩) (dfs_strs found))
    have eL : ((lenP (PyData.list (found.map .str)) : Nat) : Int) = (found.length : Int) := by show (((found.map PyData.str).length : Nat) : Int) = _; rw [List.length_map]
    have sn : ED K (tMeth T.C_Cursor "seen" (spSeen K T.C_Cursor) [] C8.E0 (tFld K (tVar 0) "cursor") tNil) [some (.ref r), some (.str kd), some (.ref fl), o3] tru H2 (seenD ws[s]?) := fun H3 s3 Q q =>
      ⟨_, rfl, r, T.C_DutyReader, dxr, _, _, rfl, s3 _ _ hR2, T.cl_DutyReader, T.na_DutyReader_cursor, rd_cursor, c, dx, _, rfl, s3 _ _ hcu, rfl, c, dx, rl, ws, n, s, rfl, hC2.same s3, fun x hx => q _ H3 (Same.refl _) (by rw [hx]; exact .str x), fun hx => q _ H3 (Same.refl _) (by rw [hx]; exact .non)⟩
    refine ⟨moreB ws kd found.length s, et_is (et_or (et_test (ed_lt (ed_len (vF H2 (Same.refl _)) rfl) (ed_kd (ed_var rfl (.str kd)) (T.at_LEAST_CALLS _ _ ka1)))) fun _ => et_and (et_test (ed_lt (ed_len (vF H2 (Same.refl _)) rfl) (ed_kd (ed_var rfl (.str kd)) (T.at_MOST_CALLS _ _ ka2)))) fun _ => et_test (ed_neD sn (ed_str (x := ";")) (seen_sh hg) (by decide +kernel))) (by rw [eL, seen_ne]; rfl), fun hm H3 s3 => ?_, fun hm H3 s3 => ?_⟩
    · have hm' := more_iff.mp hm
      obtain ⟨f, rfl⟩ : ∃ g, f = g + 1 := ⟨f - 1, by omega⟩
      refine ⟨fun σ' H' => ∃ m', m' < mostN kd - found.length ∧ ∃ (found : List Str) (s f : Nat) (o3 : Option V), σ' = [some (.ref r), some (.str kd), some (.ref fl), o3] ∧ nmGo ws kd f found s = nmGo ws kd 4 [x0] (s0 + 1) ∧ m' = mostN kd - found.length ∧ mostN kd ≤ found.length + f ∧ H' fl = some (.lst (found.map V.str)) ∧ H' c = some (.ins T.C_Cursor dx (cuF rl (s : Int))) ∧ Tabs LL.tbs H' ∧ Kp c H H', fun _ _ h => h, ?_⟩
      refine s_set (K := K) (F := tru) (ed_eqS (ed_var rfl (.str kd)) (ed_str (x := "answer"))) fun v H4 s4 hv => ?_
      cases hv
      have s24 := s3.trans s4
      refine ⟨_, rfl, .inl ⟨rfl, _, .of (s24 _ _ hfd)⟩, ?_⟩
      refine ⟨_, rfl, r, T.C_DutyReader, dxr, _, _, rfl, s24 _ _ hR2, T.cl_DutyReader, T.na_DutyReader_cursor, rd_cursor, c, dx, _, rfl, s24 _ _ hcu, rfl, hT2.ext s24, fun H5 eN T5 => ⟨dx, rl, ws, n, s, okNm kd found, (hC2.same s24).ext eN, fun x hx Qb kb => ?_, fun x hx hok H6 kp6 hC6 => ?_, fun hb => ?_⟩⟩
      · have hR5 := eN _ _ (s24 _ _ hR2) (fun _ z => nomatch z)
        have hf5 := eN _ _ (s24 _ _ hfd) (fun _ z => nomatch z)
        refine ed_andV (K := K) (F := tru) (H := H5) (b := !(decide (kd = "answer") && decide (x ∈ found))) (ed_fldC (i := 0) rfl hR5 rd_let (ea_cons (ed_var (i := 4) rfl (.str x)) ea_nil) (rdc_spB (hg x (List.mem_of_getElem? hx)))) (fun _ => ed_notV (ed_andV (ed_var (i := 3) rfl (.bl _)) fun _ => ed_inSeq (ed_var (i := 4) rfl (.str x)) (ed_var (i := 2) rfl (.lst (.inl ⟨.inl hf5, trivial⟩) (dfs_strs found))) (.inr rfl))) H5 (Same.refl _) Qb fun v H' s1 hv => ?_
        cases hv
        exact kb H' s1
      · have hf6 : H6 fl = some (.lst (found.map V.str)) := kp6 _ _ (fun q => by rw [q, hcu] at hfd; cases hfd) (eN _ _ (s24 _ _ hfd) (fun _ z => nomatch z))
        refine ⟨fl, _, .str x, rfl, rfl, hf6, ?_, ?_⟩
        · rw [List.length_map, sizeLine_eq]; omega
        · refine ⟨mostN kd - (found ++ [x]).length, by rw [List.length_append]; show _ - (_ + 1) < _; omega, found ++ [x], s + 1, f, _, rfl, ?_, rfl, by rw [List.length_append]; show _ ≤ _ + 1 + _; omega, ?_, ?_, ?_, ?_⟩
          · rw [← eG, nmGo_ok hm' hx hok]
          · rw [upd_same, List.map_append]; rfl
          · rw [upd_ne (fun q => by rw [← q, hcu] at hfd; cases hfd)]; exact hC6.obj
          · exact tabs_lst hf6 (tabs_ins ((hC2.same s24).ext eN).obj kp6 T5)
          · exact Kp.fresh (fun a o na nt h => kp6 _ _ na (eN _ _ (s24 _ _ (hkp _ _ na nt h)) nt)) hflH
      · refine ((k2 s ?_).x ((KpS.kp (S := isAt c) rfl hkp).trans (KpS.of s24) |>.trans (KpS.ext eN))).at_ (ExtN.refl _) T5
        rw [eN0, ← eG, nmGo_bad hm' hb]
    · have hG : nmGo ws kd 4 [x0] (s0 + 1) = .ok (found, s) := by
        rw [← eG]
        cases f with
        | zero => rfl
        | succ f =>
          show (if _ then _ else _) = _
          rw [if_neg (fun z => by rw [more_iff.mpr z] at hm; cases hm)]
      rw [hG] at eN0
      refine ⟨_, rfl, r, T.C_DutyReader, dxr, _, _, rfl, s3 _ _ hR2, T.cl_DutyReader, T.na_DutyReader_cursor, rd_cursor, c, dx, _, rfl, s3 _ _ hcu, rfl, (by decide : 1 ≤ sizeLine), fun t ht => ?_⟩
      have s4 := s3.trans (Same.newA (o := .tup [.str ";"]) ht)
      have e4 : (upd H3 t (.tup [.str ";"])) t = some (.tup [.str ";"]) := upd_same
      generalize upd H3 t (.tup [.str ";"]) = H4 at s4 e4
      refine ⟨c, dx, rl, ws, n, s, t, [(";" : Str)], rfl, hC2.same s4, hT2.ext s4, .of e4, fun x hx hxm H5 kp5 T5 C5 => ?_, fun hb => ?_⟩
      · have ex : x = (";" : Str) := List.mem_singleton.mp hxm
        subst ex
        have hf5 := kp5 fl (.lst (found.map V.str)) (fun q => by rw [q, hcu] at hfd; cases hfd) (fun _ z => nomatch z) (s4 _ _ hfd)
        refine ⟨_, rfl, fl, _, rfl, .inl ⟨.inl (.inl hf5), fun l hl => ?_⟩⟩
        refine k1 found (s + 1) ?_ l _ ?_ (tabs_none hl T5) ?_ upd_same
        · rw [eN0]; show (if _ then _ else _) = _; rw [if_pos hx]
        · intro a o na nt h
          rw [upd_ne (ne_of_none (kp5 _ _ na nt (s4 _ _ (hkp _ _ na nt h))) hl)]
          exact kp5 _ _ na nt (s4 _ _ (hkp _ _ na nt h))
        · exact C5.same (Same.newA hl)
      · refine ((k2 s ?_).x ((KpS.kp (S := isAt c) rfl hkp).trans (KpS.of s4)))
        rw [eN0]; show (if _ then _ else _) = _; rw [if_neg (fun z => hb _ z (List.mem_singleton.mpr rfl))]
end
end Ag

set_option Elab.async false
set_option linter.all false
set_option maxRecDepth 100000
set_option maxHeartbeats 1000000
set_option pp.maxSteps 400
namespace Ag
open PySem PySem.Spec PyProof.Rows L2 LamX
/-! ### data without lists -/
mutual
def noL : PyData → Bool
  | .list _ => false
  | .tuple xs => noLs xs
  | _ => true
def noLs : List PyData → Bool
  | [] => true
  | x :: xs => noL x && noLs xs
end
mutual
theorem df_noL {K : PySem.W.Frag} {F G : Addr → Prop} {H : Hp} : ∀ {v : V} {d : PyData}, noL d = true → Df K F H v d → Df K G H v d
  | _, _, _, .non => .non
  | _, _, _, .bl b => .bl b
  | _, _, _, .int i => .int i
  | _, _, _, .str x => .str x
  | _, _, n, .lst h r => by unfold noL at n; cases n
  | _, _, n, .tup h r => .tup h (dfs_noL (by unfold noL at n; exact n) r)
theorem dfs_noL {K : PySem.W.Frag} {F G : Addr → Prop} {H : Hp} : ∀ {vs : List V} {ds : List PyData}, noLs ds = true → DfAll K F H vs ds → DfAll K G H vs ds
  | _, _, _, .nil => .nil
  | _, _, n, .cons h r => by
    unfold noLs at n
    rw [Bool.and_eq_true] at n
    exact .cons (df_noL n.1 h) (dfs_noL n.2 r)
end
theorem noLs_strs : ∀ (xs : List Str), noLs (xs.map .str) = true
  | [] => by simp [noLs]
  | x :: xs => by simp [noLs, noL, noLs_strs xs]
/-! ### what a duty's beginning is -/
def plainD (kd : Str) (nm : List Str) : PyData :=
  if kd = "answer" then .tuple (.str kd :: nm.map .str) else if kd = "call" then .tuple [.str kd, .str (nm.headD "")] else .tuple [.str kd, .tuple (nm.map .str)]
theorem plain_noL (kd : Str) (nm : List Str) : noL (plainD kd nm) = true := by
  unfold plainD
  by_cases h : kd = "answer"
  · rw [if_pos h]; simp [noL, noLs, noLs_strs]
  · rw [if_neg h]
    by_cases h : kd = "call"
    · rw [if_pos h]; simp [noL, noLs]
    · rw [if_neg h]; simp [noL, noLs, noLs_strs]
inductive BR
  | plain (d : PyData) (s : Nat)
  | opened (k : Str) (m : Int) (s : Nat)
  | bad (e : Nat)
def beginR (ws : List Str) (len : Nat) (rd du : Int) (s : Nat) : BR :=
  match ws[s]? with
  | none => .bad s
  | some x => if x ∈ kindsOf len rd du then
      if x ∈ joints then match ws[s + 1]? with
        | some y => if numOk 2 (4 + 1 - rd - du) y = true then .opened x (numV y) (s + 2) else .bad (s + 1)
        | none => .bad (s + 1)
      else match namesR ws x (s + 1) with
        | .ok (nm, t) => .plain (plainD x nm) t
        | .error e => .bad e
    else .bad s
theorem nmGo_pos {ws : List Str} {kd : Str} : ∀ {f : Nat} {found : List Str} {s : Nat} {nm : List Str} {t : Nat}, found ≠ [] → nmGo ws kd f found s = .ok (nm, t) → nm ≠ [] ∧ s ≤ t ∧ nm.length ≤ found.length + f
  | 0, found, s, nm, t, hf, h => by cases h; exact ⟨hf, Nat.le_refl _, Nat.le_refl _⟩
  | f + 1, found, s, nm, t, hf, h => by
    unfold nmGo at h
    split at h
    · split at h
      · split at h
        · have := nmGo_pos (by simp) h
          rw [List.length_append] at this
          exact ⟨this.1, by omega, by have := this.2.2; show _ ≤ _; simp only [List.length_cons, List.length_nil] at this; omega⟩
        · cases h
      · cases h
    · cases h; exact ⟨hf, Nat.le_refl _, by omega⟩
theorem names_pos {ws : List Str} {kd : Str} {s t : Nat} {nm : List Str} (h : namesR ws kd s = .ok (nm, t)) : nm ≠ [] ∧ s < t ∧ nm.length ≤ 5 := by
  unfold namesR at h
  split at h
  · split at h
    · split at h
      · rename_i found t' hg
        split at h
        · cases h
          have := nmGo_pos (List.cons_ne_nil _ _) (by assumption)
          exact ⟨this.1, by omega, this.2.2⟩
        · cases h
      · cases h
    · cases h
  · cases h
theorem kinds_split {x : Str} {n : Nat} {rd du : Int} (h : x ∈ kindsOf n rd du) (hj : x ∉ joints) : x ∈ plainKinds := by
  unfold kindsOf at h
  rcases List.mem_append.mp h with h | h
  · exact h
  · split at h
    · exact absurd h hj
    · cases h
def at2 (c r : Addr) : Addr → Prop := fun a => a = c ∨ a = r
def at3 (c r fr : Addr) : Addr → Prop := fun a => a = c ∨ a = r ∨ a = fr
theorem tabs_kinds {tb : List (Addr × Str)} {H : Hp} {a C dx : Addr} {fs : List (Str × V)} {o : HO} (h : H a = some (.ins C dx fs)) (t : Tabs tb H) : Tabs tb (upd H a o) := tabs_ins h (fun b u nb e => by rw [upd_ne nb]; exact e) t
theorem ins_len {C C' dx dx' : Addr} {fs gs : List (Str × V)} {H : Hp} {a b : Addr} (h : H a = some (.ins C dx fs)) (h' : H b = some (.ins C' dx' gs)) (n : fs.length ≠ gs.length) : a ≠ b := fun q => by
  rw [q, h'] at h; injection h with h; injection h with _ _ h; exact n (h ▸ rfl)
section
variable {P : Program} {w : World} {K : PySem.W.Frag} {mg : Str → Option Value} {base : Heap} {T : Txt w K mg} (LL : Lam4 T base)
/-- nothing, or a table -/
def NT (H : Hp) (a : Addr) : Prop := ∀ o, H a = some o → ∃ ps, o = .tbl ps
theorem NT.none {H : Hp} {a : Addr} (h : H a = Option.none) : NT H a := fun o e => by rw [h] at e; cases e
theorem Kp.freshT {c a : Addr} {o : HO} {H H' : Hp} (k : Kp c H H') (h : NT H a) : Kp c H (upd H' a o) := fun b u n t e => by
  rw [upd_ne (fun q => ?_)]; exact k b u n t e
  subst q
  obtain ⟨ps, z⟩ := h u e
  exact t ps z
theorem KpS.nt {S : Addr → Prop} {H H' : Hp} {a : Addr} (k : KpS S H H') (n : ¬ S a) (h : NT H' a) : NT H a := fun o e =>
  Classical.byContradiction fun hn => hn (h o (k a o n (fun ps z => hn ⟨ps, z⟩) e))
/-- the reader and its cursor, over a heap Hb in which the reader is not yet -/
structure RS (Hb : Hp) (r dxr c dx rl fr : Addr) (s rd du : Int) (H : Hp) : Prop where
  hb : NT Hb r
  kp : Kp c Hb H
  cu : H c = some (.ins T.C_Cursor dx (cuF rl s))
  rd : H r = some (.ins T.C_DutyReader dxr (rdF c T.a_is_name rd du fr))
  tb : Tabs LL.tbs H
section
variable {LL} {Hb H H' : Hp} {r dxr c dx rl fr : Addr} {s rd du : Int}
theorem RS.ne (x : RS LL Hb r dxr c dx rl fr s rd du H) : c ≠ r := ins_len x.cu x.rd (by show ¬ (3 : Nat) = 5; decide)
theorem RS.same (x : RS LL Hb r dxr c dx rl fr s rd du H) (e : Same H H') : RS LL Hb r dxr c dx rl fr s rd du H' := ⟨x.hb, x.kp.trans (.of e), e _ _ x.cu, e _ _ x.rd, x.tb.ext e⟩
theorem RS.put (x : RS LL Hb r dxr c dx rl fr s rd du H) (rd' du' : Int) : RS LL Hb r dxr c dx rl fr s rd' du' (upd H r (.ins T.C_DutyReader dxr (rdF c T.a_is_name rd' du' fr))) :=
  ⟨x.hb, x.kp.freshT x.hb, by rw [upd_ne x.ne]; exact x.cu, upd_same, tabs_kinds x.rd x.tb⟩
theorem RS.newA (x : RS LL Hb r dxr c dx rl fr s rd du H) {a : Addr} {o : HO} (n : H a = none) : RS LL Hb r dxr c dx rl fr s rd du (upd H a o) := x.same (Same.newA n)
theorem RS.lst (x : RS LL Hb r dxr c dx rl fr s rd du H) {a : Addr} {o : HO} {us : List V} (n : NT Hb a) (h : H a = some (.lst us)) : RS LL Hb r dxr c dx rl fr s rd du (upd H a o) :=
  ⟨x.hb, x.kp.freshT n, by rw [upd_ne (fun q => by rw [← q, x.cu] at h; cases h)]; exact x.cu, by rw [upd_ne (fun q => by rw [← q, x.rd] at h; cases h)]; exact x.rd, tabs_lst h x.tb⟩
theorem RS.curs (x : RS LL Hb r dxr c dx rl fr s rd du H) {t : Int} (k : Kp c H H') (tb : Tabs LL.tbs H') (e : H' c = some (.ins T.C_Cursor dx (cuF rl t))) : RS LL Hb r dxr c dx rl fr t rd du H' :=
  ⟨x.hb, x.kp.trans k, e, k _ _ (Ne.symm x.ne) (fun _ z => nomatch z) x.rd, tb⟩
end
/-- a plain duty behind its first word -/
def spPlain : Sp := fun vs H Q E => ∃ (Hb : Hp) (r dxr c dx rl fr : Addr) (rd du : Int) (ws : List Str) (n : Nat) (b : Int) (s : Nat) (kd : Str), vs = [.ref r, .str kd] ∧ CuAt K T.C_Cursor c dx rl ws n b Hb ∧ RS LL Hb r dxr c dx rl fr s rd du H ∧ (∀ x ∈ ws, gd (.str x) = true) ∧ kd ∈ plainKinds ∧
  (∀ nm s', namesR ws kd s = .ok (nm, s') → ∀ v H', RS LL Hb r dxr c dx rl fr (s' : Nat) (rd + 1) (du - 1) H' → KpS (at2 c r) H H' → Df K nof H' v (plainD kd nm) → Q v H') ∧
  (∀ e, namesR ws kd s = .error e → BadS (isAt c) LL.tbs T.C_BadText 1 ((e : Int) + 1) Hb E)
theorem ok_plain : FnOk P w K mg base (L2.CX P w) 10 T.a_DutyReader_plain T.d_DutyReader_plain ["self", "kind"] (spPlain LL) := by
  have G_DutyReader_names := ok_names2 (P := P) LL
  refine T.D_DutyReader_plain.fn.okX sc_DutyReader_plain (fun vs H Q E h => ?_) (fun cdv A outer s H vs Q E hr h => ?_)
  · obtain ⟨Hb, r, dxr, c, dx, rl, fr, rd, du, ws, n, b, s, kd, rfl, _⟩ := h; rfl
  · obtain ⟨Hb, r, dxr, c, dx, rl, fr, rd, du, ws, n, b, s0, kd, rfl, hB, hS, hg, hk, k1, k2⟩ := h
    refine ⟨_, (pss_cons (ps_set (i := 2) sc_DutyReader_plain.nd rfl (by first | exact Or.inl rfl | exact Or.inr rfl) (pe_meth (pv 0) T.cl_DutyReader T.mt_DutyReader_names (G_DutyReader_names) (hr.mono (by omega)) T.D_DutyReader_names.bd .nil (passes_call (takes_of rfl rfl rfl rfl) fun _ _ _ _ z => z) (pa_cons (pv 1) pa_nil)))
      (pss_cons (ps_fldaug (pv 0) pe_int iop_add)
      (pss_cons (ps_fldaug (pv 0) pe_int iop_sub)
      (pss_cons (ps_if (pt_cmpR op_eq (pv 1) pe_str (nomark _)) (pss_one (ps_ret (pe_op op_catA (pe_tup (pa_cons (pv 1) pa_nil)) (pv 2)))) pss_nil)
      (pss_one (ps_ret (pe_ifExp (pt_cmpR op_eq (pv 1) pe_str (nomark _)) (pe_tup (pa_cons (pv 1) (pa_cons (pe_ix ix_seq (pv 2) pe_int (fun _ _ => rfl)) pa_nil))) (pe_tup (pa_cons (pv 1) (pa_cons (pv 2) pa_nil)))))))))), ?_⟩
    refine ⟨_, rfl, r, dxr, _, rfl, hS.rd, rfl, _, rfl, r, dxr, c, dx, rl, fr, rd, du, ws, n, s0, kd, rfl, hS.rd, hB.kp hS.kp hS.cu, hS.tb, hg, hk, fun nm s' en t H1 kp1 T1 C1 ht => ?_, fun e he => (k2 e he).kp (KpS.kp (S := isAt c) rfl hS.kp)⟩
    have hS1 := hS.curs kp1 T1 C1.obj
    have ntr : t ≠ r := fun q => by rw [q, hS1.rd] at ht; cases ht
    refine ⟨_, rfl, r, T.C_DutyReader, dxr, _, _, rfl, hS1.rd, T.cl_DutyReader, T.na_DutyReader_read, rd_read, _, _, rfl, rfl, dxr, _, hS1.rd, (by show 5 < 1000; decide), ?_⟩
    rw [rd_setRead]
    have hS2 := hS1.put (rd + 1) du
    refine ⟨_, rfl, r, T.C_DutyReader, dxr, _, _, rfl, hS2.rd, T.cl_DutyReader, T.na_DutyReader_due, rd_due, _, _, rfl, rfl, dxr, _, hS2.rd, (by show 5 < 1000; decide), ?_⟩
    rw [rd_setDue]
    have hS3 := hS2.put (rd + 1) (du - 1)
    have ks : KpS (at2 c r) H (upd (upd H1 r (.ins T.C_DutyReader dxr (rdF c T.a_is_name (rd + 1) du fr))) r (.ins T.C_DutyReader dxr (rdF c T.a_is_name (rd + 1) (du - 1) fr))) := ((KpS.kp (S := at2 c r) (.inl rfl) kp1).trans (KpS.upd (.inl (.inr rfl)))).trans (KpS.upd (.inl (.inr rfl)))
    have tt := ht
    rw [← upd_ne (H := H1) (o := .ins T.C_DutyReader dxr (rdF c T.a_is_name (rd + 1) du fr)) ntr, ← upd_ne (H := upd H1 r (.ins T.C_DutyReader dxr (rdF c T.a_is_name (rd + 1) du fr))) (o := .ins T.C_DutyReader dxr (rdF c T.a_is_name (rd + 1) (du - 1) fr)) ntr] at tt
    have fin := k1 nm s' en
    have hp := (names_pos en).1
    generalize upd (upd H1 r (.ins T.C_DutyReader dxr (rdF c T.a_is_name (rd + 1) du fr))) r (.ins T.C_DutyReader dxr (rdF c T.a_is_name (rd + 1) (du - 1) fr)) = H2 at ks tt hS3 ⊢
    clear k1 k2 ht hS2 T1 C1 kp1
    have kd_v : ∀ H3, ED K (tVar 1) [some (.ref r), some (.str kd), some (.ref t)] nof H3 (.str kd) := fun H3 => ed_var rfl (.str kd)
    have nm_v : ∀ H3, Same H2 H3 → ED K (tVar 2) [some (.ref r), some (.str kd), some (.ref t)] nof H3 (.tuple (nm.map .str)) := fun H3 s3 => ed_var rfl (.tup (.of (s3 _ _ tt)) (dfs_strs nm))
    refine s_if (et_test (ed_eqS (kd_v H2) (ed_str (x := "answer")))) (fun hb H3 s3 => ?_) (fun hb H3 s3 => ?_)
    · have e := of_decide_eq_true hb
      refine s_ret (ed_catT (ed_tup (ea_cons (kd_v H3) ea_nil) (by show (1 : Nat) ≤ 100000; decide)) (nm_v H3 s3) ?_) fun v H4 s4 hv => ?_
      · rw [List.length_map]; have := (names_pos en).2.2; show 1 + _ ≤ _; omega
      · refine fin v H4 (hS3.same (s3.trans s4)) (ks.trans (KpS.of (s3.trans s4))) (df_noL (F := Fr nof H3) (plain_noL kd nm) ?_)
        unfold plainD
        rw [if_pos e]; exact hv
    · have e := of_decide_eq_false hb
      obtain ⟨x, xs, rfl⟩ : ∃ x xs, nm = x :: xs := by cases nm with | nil => exact absurd rfl hp | cons x xs => exact ⟨x, xs, rfl⟩
      refine s_ret (d := if kd = "call" then PyData.tuple [.str kd, .str x] else .tuple [.str kd, .tuple ((x :: xs).map .str)]) (ed_if (K := K) (F := nof) (et_test (ed_eqS (kd_v H3) (ed_str (x := "call")))) (fun hc => ?_) (fun hc => ?_)) fun v H4 s4 hv => ?_
      · rw [if_pos (of_decide_eq_true hc)]
        exact ed_tup (ea_cons (kd_v H3) (ea_cons (ed_ixT (j := 0) (nm_v H3 s3) ed_int rfl) ea_nil)) (by show (2 : Nat) ≤ 100000; decide)
      · rw [if_neg (of_decide_eq_false hc)]
        exact ed_tup (ea_cons (kd_v H3) (ea_cons (nm_v H3 s3) ea_nil)) (by show (2 : Nat) ≤ 100000; decide)
      · refine fin v H4 (hS3.same (s3.trans s4)) (ks.trans (KpS.of (s3.trans s4))) (df_noL (F := Fr nof H3) (plain_noL kd _) ?_)
        unfold plainD
        rw [if_neg e]; exact hv
/-- where a duty begins -/
def spBegin : Sp := fun vs H Q E => ∃ (Hb : Hp) (r dxr c dx rl fr : Addr) (rd du : Int) (ws : List Str) (n : Nat) (b : Int) (s : Nat) (us : List V), vs = [.ref r] ∧ CuAt K T.C_Cursor c dx rl ws n b Hb ∧ RS LL Hb r dxr c dx rl fr s rd du H ∧ NT Hb fr ∧ H fr = some (.lst us) ∧ us.length ≤ 1000 ∧ (∀ x ∈ ws, gd (.str x) = true) ∧
  (∀ d s', beginR ws us.length rd du s = .plain d s' → ∀ v H', RS LL Hb r dxr c dx rl fr (s' : Nat) (rd + 1) (du - 1) H' → KpS (at2 c r) H H' → Df K nof H' v d → Q v H') ∧
  (∀ k m s', beginR ws us.length rd du s = .opened k m s' → ∀ l a H', RS LL Hb r dxr c dx rl fr (s' : Nat) rd (du + (m - 1)) H' → KpS (at3 c r fr) H H' → H' fr = some (.lst (us ++ [.ref a])) → H' a = some (.tup [.str k, .int m, .ref l]) → H' l = some (.lst []) → NT H l → Q .non H') ∧
  (∀ e, beginR ws us.length rd du s = .bad e → BadS (isAt c) LL.tbs T.C_BadText 1 ((e : Int) + 1) Hb E)
theorem ok_begin : FnOk P w K mg base (L2.CX P w) 11 T.a_DutyReader_begin T.d_DutyReader_begin ["self"] (spBegin LL) := by
  have G_DutyReader_plain := ok_plain (P := P) LL
  have G_DutyReader_kinds := ok_kinds (P := P) (base := base) T
  have G_Cursor_need := ok_need (P := P) LL
  have G_Cursor_need_number := ok_need_number (P := P) LL
  refine T.D_DutyReader_begin.fn.okX sc_DutyReader_begin (fun vs H Q E h => ?_) (fun cdv A outer s H vs Q E hr h => ?_)
  · obtain ⟨Hb, r, dxr, c, dx, rl, fr, rd, du, ws, n, b, s, us, rfl, _⟩ := h; rfl
  · obtain ⟨Hb, r, dxr, c, dx, rl, fr, rd, du, ws, n, b, s0, us, rfl, hB, hS, hbf, hf, hl, hg, k1, k2, k3⟩ := h
    refine ⟨_, (pss_cons (ps_set (i := 1) sc_DutyReader_begin.nd rfl (by first | exact Or.inl rfl | exact Or.inr rfl) (pe_meth (pe_fld (pv 0) rfl) T.cl_Cursor T.mt_Cursor_need (G_Cursor_need) (hr.mono (by omega)) T.D_Cursor_need.bd .nil (passes_call (takes_of rfl rfl rfl rfl) fun _ _ _ _ z => z) (pa_cons (pe_meth0 (pv 0) T.cl_DutyReader T.mt_DutyReader_kinds (G_DutyReader_kinds) (hr.mono (by omega)) T.D_DutyReader_kinds.bd .nil pass0) pa_nil)))
      (pss_cons (ps_if (pt_cmpR op_notIn_seq (pv 1) (pe_glob (v := .ref T.a_JOINTS) (by rfl) T.g_JOINTS rfl) (by rfl)) (pss_one (ps_ret (pe_meth (pv 0) T.cl_DutyReader T.mt_DutyReader_plain (G_DutyReader_plain) (hr.mono (by omega)) T.D_DutyReader_plain.bd .nil (passes_call (takes_of rfl rfl rfl rfl) fun _ _ _ _ z => z) (pa_cons (pv 1) pa_nil)))) pss_nil)
      (pss_cons (ps_set (i := 2) sc_DutyReader_begin.nd rfl (by first | exact Or.inl rfl | exact Or.inr rfl) (pe_meth (pe_fld (pv 0) rfl) T.cl_Cursor T.mt_Cursor_need_number (G_Cursor_need_number) (hr.mono (by omega)) T.D_Cursor_need_number.bd .nil (passes_call (takes_of rfl rfl rfl rfl) fun _ _ _ _ z => z) (pa_cons pe_int (pa_cons (pe_op op_sub (pe_op op_sub (pe_op op_add (pe_glob (v := .int 4) (by rfl) T.g_MOST_PLAIN ⟨_, rfl⟩) pe_int) (pe_fld (pv 0) rfl)) (pe_fld (pv 0) rfl)) pa_nil))))
      (pss_cons (ps_fldaug (pv 0) (pe_op op_sub (pv 2) pe_int) iop_add)
      (pss_cons (ps_expr (pe_bm PySem.F.plainAttrs_list PySem.F.slot_list_append PySem.F.type_list_append mt_append (pe_fld (pv 0) rfl) (pa_cons (pe_tup (pa_cons (pv 1) (pa_cons (pv 2) (pa_cons (pe_lst pa_nil) pa_nil)))) pa_nil)))
      (pss_one (ps_ret pe_non))))))), ?_⟩
    refine ⟨_, rfl, r, T.C_DutyReader, dxr, _, _, rfl, hS.rd, T.cl_DutyReader, T.na_DutyReader_cursor, rd_cursor, c, dx, _, rfl, hS.cu, rfl, _, rfl, r, dxr, _, rfl, hS.rd, rfl, r, dxr, c, T.a_is_name, fr, rd, du, us, rfl, hS.rd, hf, hl, fun t H1 s1 ht => ?_⟩
    have hS1 := hS.same s1
    refine ⟨c, dx, rl, ws, n, s0, t, kindsOf us.length rd du, rfl, hB.kp hS1.kp hS1.cu, hS1.tb, ht, fun x hx hm H2 kp2 T2 C2 => ?_, fun hb => ?_⟩
    · have hS2 := hS1.curs kp2 T2 C2.obj
      have hf2 : H2 fr = some (.lst us) := kp2 _ _ (fun q => by rw [q, hS.cu] at hf; cases hf) (fun _ z => nomatch z) (s1 _ _ hf)
      have jo : ED K (tC (.ref T.a_JOINTS)) [some (.ref r), some (.str x), none] tru H2 (.tuple (joints.map .str)) := ed_val (.tup (T.sq_JOINTS _) (dfs_strs joints))
      refine s_if (et_test (ed_notInSeq (ed_var (K := K) (F := tru) (i := 1) rfl (.str x)) jo (.inl rfl))) (fun hj H3 s3 => ?_) (fun hj H3 s3 => ?_)
      · have hj : x ∉ joints := by simpa using hj
        have eB : beginR ws us.length rd du s0 = match namesR ws x (s0 + 1) with
          | .ok (nm, t) => .plain (plainD x nm) t
          | .error e => .bad e := by
          unfold beginR; rw [hx]; dsimp only; rw [if_pos hm, if_neg hj]
        have hS3 := hS2.same s3
        refine ⟨_, rfl, r, dxr, _, rfl, hS3.rd, rfl, _, rfl, Hb, r, dxr, c, dx, rl, fr, rd, du, ws, n, b, s0 + 1, x, rfl, hB, hS3, hg, kinds_split hm hj, fun nm s' en v H' hS' ks hv => ?_, fun e he => ?_⟩
        · refine k1 _ s' (by rw [eB, en]) v H' hS' ?_ hv
          exact ((((KpS.of s1).trans (KpS.kp (S := at2 c r) (.inl rfl) kp2)).trans (KpS.of s3))).trans ks
        · exact k3 e (by rw [eB, he])
      · have hj : x ∈ joints := by simpa using hj
        have hS3 := hS2.same s3
        refine ⟨_, rfl, r, T.C_DutyReader, dxr, _, _, rfl, hS3.rd, T.cl_DutyReader, T.na_DutyReader_cursor, rd_cursor, c, dx, _, rfl, hS3.cu, rfl, ?_⟩
        refine (ea_cons (K := K) (F := tru) (ed_int (i := 2)) (ea_cons (ed_sub (ed_sub (ed_add (ed_int (i := 4)) (ed_int (i := 1))) (ed_fldI rfl hS3.rd T.cl_DutyReader T.na_DutyReader_read rd_read)) (ed_fldI rfl hS3.rd T.cl_DutyReader T.na_DutyReader_due rd_due)) ea_nil)) H3 (Same.refl _) _ fun vs H4 s4 hvs => ?_
        obtain _ | ⟨h1, hvs⟩ := hvs
        obtain _ | ⟨h2, hvs⟩ := hvs
        cases hvs; cases h1; cases h2
        have hS4 := hS3.same s4
        refine ⟨c, dx, rl, ws, n, s0 + 1, 2, _, rfl, hB.kp hS4.kp hS4.cu, hS4.tb, hg, fun y hy hn H5 kp5 T5 C5 => ?_, fun hb => ?_⟩
        · have hS5 := hS4.curs kp5 T5 C5.obj
          have eB : beginR ws us.length rd du s0 = .opened x (numV y) (s0 + 2) := by
            unfold beginR; rw [hx]; dsimp only; rw [if_pos hm, if_pos hj, hy]; dsimp only; rw [if_pos hn]
          have hf5 : H5 fr = some (.lst us) := kp5 _ _ (fun q => by rw [q, hS.cu] at hf; cases hf) (fun _ z => nomatch z) ((s3.trans s4) _ _ hf2)
          refine ⟨_, rfl, r, T.C_DutyReader, dxr, _, _, rfl, hS5.rd, T.cl_DutyReader, T.na_DutyReader_due, rd_due, _, rfl, _, _, rfl, rfl, _, _, rfl, rfl, dxr, _, hS5.rd, (by show 5 < 1000; decide), ?_⟩
          rw [rd_setDue]
          have hS6 := hS5.put rd (du + (numV y - 1))
          have nfr : fr ≠ r := fun q => by rw [q, hS.rd] at hf; cases hf
          have hf6 : (upd H5 r (.ins T.C_DutyReader dxr (rdF c T.a_is_name rd (du + (numV y - 1)) fr))) fr = some (.lst us) := by rw [upd_ne nfr]; exact hf5
          have ks6 : KpS (at3 c r fr) H (upd H5 r (.ins T.C_DutyReader dxr (rdF c T.a_is_name rd (du + (numV y - 1)) fr))) := ((((KpS.of s1).trans (KpS.kp (S := at3 c r fr) (.inl rfl) kp2)).trans (KpS.of (s3.trans s4))).trans (KpS.kp (S := at3 c r fr) (.inl rfl) kp5)).trans (KpS.upd (.inl (.inr (.inl rfl))))
          generalize upd H5 r (.ins T.C_DutyReader dxr (rdF c T.a_is_name rd (du + (numV y - 1)) fr)) = H6 at hS6 hf6 ks6 ⊢
          refine ⟨_, rfl, r, T.C_DutyReader, dxr, _, _, rfl, hS6.rd, T.cl_DutyReader, T.na_DutyReader_frames, rd_frames, .inl ⟨rfl, _, .of hf6⟩, _, rfl, _, rfl, (by decide : 0 ≤ sizeLine), fun l hl => ⟨(by decide : 3 ≤ sizeLine), fun a ha => ?_⟩⟩
          have nlf : l ≠ fr := fun q => by rw [q, hf6] at hl; cases hl
          have ha6 : H6 a = none := by
            by_cases z : a = l
            · rw [z, upd_same] at ha; cases ha
            · rw [upd_ne z] at ha; exact ha
          have nal : a ≠ l := fun q => by rw [q, upd_same] at ha; cases ha
          have naf : a ≠ fr := fun q => by rw [q, hf6] at ha6; cases ha6
          have hS7 := (hS6.newA (o := .lst []) hl).newA (o := .tup [.str x, .int (numV y), .ref l]) ha
          have hf7 : (upd (upd H6 l (.lst [])) a (.tup [.str x, .int (numV y), .ref l])) fr = some (.lst us) := by rw [upd_ne (Ne.symm naf), upd_ne (Ne.symm nlf)]; exact hf6
          refine ⟨fr, us, .ref a, rfl, rfl, hf7, by rw [sizeLine_eq]; omega, ?_⟩
          have hlH : NT H l := ks6.nt (fun z => by
            rcases z with z | z | z
            · rw [z, hS6.cu] at hl; cases hl
            · rw [z, hS6.rd] at hl; cases hl
            · exact nlf z) (NT.none hl)
          refine k2 _ _ _ eB l a _ (hS7.lst hbf hf7) ?_ upd_same ?_ ?_ hlH
          · exact ((ks6.trans (KpS.upd (.inr hl))).trans (KpS.upd (.inr ha))).trans (KpS.upd (.inl (.inr (.inr rfl))))
          · rw [upd_ne naf, upd_same]
          · rw [upd_ne nlf, upd_ne (Ne.symm nal), upd_same]
        · refine (k3 (s0 + 1) ?_).kp (KpS.kp (S := isAt c) rfl hS4.kp) |>.x (KpS.refl)
          unfold beginR; rw [hx]; dsimp only; rw [if_pos hm, if_pos hj]
          cases hy : ws[s0 + 1]? with
          | none => rfl
          | some y => dsimp only; rw [if_neg (by rw [hb y hy]; decide)]
    · refine (k3 s0 ?_).kp (KpS.kp (S := isAt c) rfl hS1.kp) |>.x (KpS.refl)
      unfold beginR
      cases hx : ws[s0]? with
      | none => rfl
      | some x => dsimp only; rw [if_neg (hb x hx)]
end
end Ag

set_option Elab.async false
set_option linter.all false
set_option maxRecDepth 100000
set_option maxHeartbeats 1000000
set_option pp.maxSteps 400
namespace Ag
open PySem PySem.Spec PyProof.Rows L2 LamX
/-! ### what is open -/
abbrev Stk := List (Str × Int × List PyData)
def frD : Stk → List PyData := List.map fun p => .tuple [.str p.1, .int p.2.1, .list p.2.2]
def dutyGo (ws : List Str) : Nat → Option PyData → Nat → Int → Int → Stk → Except Nat (PyData × Nat)
  | 0, told, s, _, _, _ => match told with | some d => .ok (d, s) | none => .error s
  | _ + 1, told, s, _, _, [] => match told with | some d => .ok (d, s) | none => .error s
  | f + 1, none, s, rd, du, stk => match beginR ws stk.length rd du s with
      | .plain d s' => dutyGo ws f (some d) s' (rd + 1) (du - 1) stk
      | .opened k m s' => dutyGo ws f none s' rd (du + (m - 1)) ((k, m, []) :: stk)
      | .bad e => .error e
  | f + 1, some d, s, rd, du, (k, m, found) :: rest =>
      if (found.length : Int) + 1 < m then dutyGo ws f none s rd du ((k, m, found ++ [d]) :: rest)
      else dutyGo ws f (some (.tuple [.str k, .tuple (found ++ [d])])) s rd du rest
def fuelOf (ws : List Str) : Nat := 4 * ws.length + 8
def dutyR (ws : List Str) : Except Nat (PyData × Nat) := match beginR ws 0 0 1 0 with
  | .plain d s => dutyGo ws (fuelOf ws) (some d) s (0 + 1) (1 - 1) []
  | .opened k m s => dutyGo ws (fuelOf ws) none s 0 (1 + (m - 1)) [(k, m, [])]
  | .bad e => .error e
theorem canLays_app : ∀ {xs ys : List PyData}, PyData.canLayAll0 xs = true → PyData.canLayAll0 ys = true → PyData.canLayAll0 (xs ++ ys) = true
  | [], _, _, h => h
  | x :: xs, ys, h, h2 => by
    simp only [PyData.canLayAll0, Bool.and_eq_true] at h
    show PyData.canLayAll0 (x :: (xs ++ ys)) = true
    simp only [PyData.canLayAll0, Bool.and_eq_true]
    exact ⟨h.1, canLays_app h.2 h2⟩
theorem canLays_one {x : PyData} (h : x.canLay0 = true) : PyData.canLayAll0 [x] = true := by simp [PyData.canLayAll0, h]
theorem canLays_rev : ∀ {xs : List PyData}, PyData.canLayAll0 xs = true → PyData.canLayAll0 xs.reverse = true
  | [], h => h
  | x :: xs, h => by
    simp only [PyData.canLayAll0, Bool.and_eq_true] at h
    rw [List.reverse_cons]
    exact canLays_app (canLays_rev h.2) (canLays_one h.1)
theorem dfs_rev {K : PySem.W.Frag} {F : Addr → Prop} {H : Hp} : ∀ {vs : List V} {ds : List PyData}, DfAll K F H vs ds → DfAll K F H vs.reverse ds.reverse
  | _, _, .nil => .nil
  | _, _, .cons h r => by
    rw [List.reverse_cons, List.reverse_cons]
    exact dfs_app (dfs_rev r) (.cons h .nil)
/-- the tuples and lists of what is open -/
inductive FrOk (K : PySem.W.Frag) (Hb : Hp) (fr : Addr) (H : Hp) : List Addr → List V → Stk → Prop
  | nil : FrOk K Hb fr H [] [] []
  | cons {l a : Addr} {ls : List Addr} {us vs : List V} {k : Str} {m : Int} {found : List PyData} {stk : Stk} (ha : H a = some (.tup [.str k, .int m, .ref l])) (hl : H l = some (.lst vs)) (hd : DfAll K nof H vs found) (hy : PyData.canLayAll0 found = true) (hk : (PyData.str k).canLay0 = true)
      (n1 : l ∉ ls) (n2 : l ≠ fr) (n3 : NT Hb l) (r : FrOk K Hb fr H ls us stk) : FrOk K Hb fr H (l :: ls) (.ref a :: us) ((k, m, found) :: stk)
section
variable {K : PySem.W.Frag} {Hb H H' : Hp} {fr : Addr} {S : Addr → Prop}
theorem keepT_of (k : KpS S H H') (h2 : ∀ b u, S b → H b = some u → isTup u = false) : KeepT H H' := fun a u h t => k a u (fun s => by rw [h2 a u s h] at t; cases t) (fun ps z => by subst z; cases t) h
theorem FrOk.gen (k : KpS S H H') (h2 : ∀ b u, S b → H b = some u → isTup u = false) {ls : List Addr} {us : List V} {stk : Stk} (h1 : ∀ b ∈ ls, ¬ S b) (h : FrOk K Hb fr H ls us stk) : FrOk K Hb fr H' ls us stk := by
  induction h with
  | nil => exact .nil
  | cons ha hl hd hy hk n1 n2 n3 r ih =>
    exact .cons (k _ _ (fun s => by have := h2 _ _ s ha; cases this) (fun _ z => nomatch z) ha) (k _ _ (h1 _ (.head _)) (fun _ z => nomatch z) hl) (dfs_keepT (keepT_of k h2) hd) hy hk n1 n2 n3 (ih fun b hb => h1 b (.tail _ hb))
theorem FrOk.lists {ls : List Addr} {us : List V} {stk : Stk} (h : FrOk K Hb fr H ls us stk) : ∀ b ∈ ls, b ≠ fr ∧ ∃ vs, H b = some (.lst vs) := by
  induction h with
  | nil => exact fun _ h => absurd h List.not_mem_nil
  | cons ha hl hd hy hk n1 n2 n3 r ih =>
    intro b hb
    rcases List.mem_cons.mp hb with rfl | hb
    · exact ⟨n2, _, hl⟩
    · exact ih b hb
theorem FrOk.len {ls : List Addr} {us : List V} {stk : Stk} (h : FrOk K Hb fr H ls us stk) : us.length = stk.length := by
  induction h with
  | nil => rfl
  | cons ha hl hd hy hk n1 n2 n3 r ih => show _ + 1 = _ + 1; rw [ih]
theorem FrOk.data {ls : List Addr} {us : List V} {stk : Stk} (h : FrOk K Hb fr H ls us stk) : DfAll K tru H us (frD stk) ∧ PyData.canLayAll0 (frD stk) = true := by
  induction h with
  | nil => exact ⟨.nil, rfl⟩
  | cons ha hl hd hy hk n1 n2 n3 r ih =>
    refine ⟨.cons (.tup (.of ha) (.cons (.str _) (.cons (.int _) (.cons (.lst (.inl ⟨.inl hl, trivial⟩) (dfs_mono (Same.refl _) (fun _ _ => trivial) hd)) .nil)))) ih.1, ?_⟩
    show PyData.canLayAll0 (_ :: frD _) = true
    simp only [PyData.canLayAll0, PyData.canLay0, Bool.and_eq_true] at hk hy ⊢
    exact ⟨⟨hk, trivial, hy, trivial⟩, ih.2⟩
end
section
variable {P : Program} {w : World} {K : PySem.W.Frag} {mg : Str → Option Value} {base : Heap} (T : Txt w K mg)
def two (l fr : Addr) : Addr → Prop := fun a => a = l ∨ a = fr
/-- a duty is put into what is open -/
def spEnd (C : Addr) : Sp := fun vs H Q _ => ∃ r dxr c nm fr rd du us a k m l xs v, vs = [.ref r, v] ∧ H r = some (.ins C dxr (rdF c nm rd du fr)) ∧ H fr = some (.lst (us ++ [.ref a])) ∧ H a = some (.tup [.str k, .int m, .ref l]) ∧ H l = some (.lst xs) ∧ l ≠ fr ∧ xs.length < 1000000 ∧
  ((xs.length : Int) + 1 < m → Q .non (upd H l (.lst (xs ++ [v])))) ∧
  (¬ (xs.length : Int) + 1 < m → ∀ t1 t2 H', (∀ b o, b ≠ l → b ≠ fr → H b = some o → H' b = some o) → H' fr = some (.lst us) → H' t2 = some (.tup (xs ++ [v])) → H' t1 = some (.tup [.str k, .ref t2]) → Q (.ref t1) H')
theorem ok_end : FnOk P w K mg base CX0 1 T.a_DutyReader_end T.d_DutyReader_end ["self", "duty"] (spEnd T.C_DutyReader) := by
  refine T.D_DutyReader_end.fn.ok sc_DutyReader_end (fun vs H Q E h => ?_) (fun cdv A outer s H vs Q E hr h => ?_)
  · obtain ⟨r, dxr, c, nm, fr, rd, du, us, a, k, m, l, xs, v, rfl, _⟩ := h; rfl
  · obtain ⟨r, dxr, c, nm, fr, rd, du, us, a, k, m, l, xs, v, rfl, hR, hf, ha, hl, nlf, hx, k1, k2⟩ := h
    refine ⟨_, (pss_cons (ps_asg (pe_ix ix_seq (pe_fld (pv 0) rfl) (pe_un un_neg pe_int) (fun _ _ => rfl)) (pg_tup rfl (pgs_cons (pg_name (i := 2) sc_DutyReader_end.nd rfl (by first | exact Or.inl rfl | exact Or.inr rfl)) (pgs_cons (pg_name (i := 3) sc_DutyReader_end.nd rfl (by first | exact Or.inl rfl | exact Or.inr rfl)) (pgs_cons (pg_name (i := 4) sc_DutyReader_end.nd rfl (by first | exact Or.inl rfl | exact Or.inr rfl)) pgs_nil)))))
      (pss_cons (ps_expr (pe_bm PySem.F.plainAttrs_list PySem.F.slot_list_append PySem.F.type_list_append mt_append (pv 4) (pa_cons (pv 1) pa_nil)))
      (pss_cons (ps_if (pt_cmpR op_lt (pe_callB call_len (by rfl) T.b_len bt_len (pa_cons (pv 4) pa_nil)) (pv 3) (nomark _)) (pss_one (ps_ret pe_non)) pss_nil)
      (pss_cons (ps_expr (pe_bm0 PySem.F.plainAttrs_list PySem.F.slot_list_pop PySem.F.type_list_pop mt_pop (pe_fld (pv 0) rfl)))
      (pss_one (ps_ret (pe_tup (pa_cons (pv 2) (pa_cons (pe_callTy call_tuple_of (by rfl) T.b_tuple bt_tuple (pa_cons (pv 4) pa_nil)) pa_nil))))))))), ?_⟩
    have nrl : r ≠ l := fun q => by rw [q, hl] at hR; cases hR
    refine ⟨_, rfl, r, T.C_DutyReader, dxr, _, _, rfl, hR, T.cl_DutyReader, T.na_DutyReader_frames, rd_frames, ?_⟩
    refine ⟨_, rfl, ?_⟩
    refine .inl ⟨_, _, _, _, rfl, rfl, .of hf, atI_last us _, ?_⟩
    refine ⟨a, _, rfl, .of ha, rfl, ?_⟩
    refine ⟨.str k, [.int m, .ref l], rfl, .int m, [.ref l], rfl, .ref l, [], rfl, rfl, ?_⟩
    refine ⟨_, rfl, .inl ⟨rfl, _, .of hl⟩, _, rfl, l, xs, v, rfl, rfl, hl, by rw [sizeLine_eq]; omega, ?_⟩
    have hl1 : (upd H l (.lst (xs ++ [v]))) l = some (.lst (xs ++ [v])) := upd_same
    have hR1 : (upd H l (.lst (xs ++ [v]))) r = some (.ins T.C_DutyReader dxr (rdF c nm rd du fr)) := by rw [upd_ne nrl]; exact hR
    have hf1 : (upd H l (.lst (xs ++ [v]))) fr = some (.lst (us ++ [.ref a])) := by rw [upd_ne (Ne.symm nlf)]; exact hf
    have kp1 : ∀ b o, b ≠ l → b ≠ fr → H b = some o → (upd H l (.lst (xs ++ [v]))) b = some o := fun b o n1 _ e => by rw [upd_ne n1]; exact e
    generalize upd H l (.lst (xs ++ [v])) = H1 at hl1 hR1 hf1 kp1 k1 ⊢
    refine ⟨_, rfl, _, _, rfl, .inl ⟨_, .of hl1, rfl⟩, _, rfl, _, _, rfl, rfl, _, rfl, ?_⟩
    refine ite2 (fun h => ?_) (fun h => ?_)
    · have h := of_decide_eq_true h
      exact k1 (by simpa using h)
    · have h : ¬ (xs.length : Int) + 1 < m := fun z => h (decide_eq_true (by simpa using z))
      refine ⟨_, rfl, r, T.C_DutyReader, dxr, _, _, rfl, hR1, T.cl_DutyReader, T.na_DutyReader_frames, rd_frames, .inl ⟨rfl, _, .of hf1⟩, fr, _, .ref a, rfl, rfl, hf1, by simp, ?_⟩
      rw [List.dropLast_concat]
      refine ⟨_, rfl, _, rfl, l, xs ++ [v], rfl, .inl ⟨.inl (.inl (by rw [upd_ne nlf]; exact hl1)), fun t2 h2 => ?_⟩⟩
      have n2 : t2 ≠ fr := fun q => by rw [q, upd_same] at h2; cases h2
      refine ⟨(by decide : 2 ≤ sizeLine), fun t1 h1 => ?_⟩
      have n1 : t1 ≠ fr := fun q => by rw [q, upd_ne (Ne.symm n2), upd_same] at h1; cases h1
      have n12 : t1 ≠ t2 := fun q => by rw [q, upd_same] at h1; cases h1
      refine k2 h t1 t2 _ (fun b o nb1 nb2 e => ?_) ?_ ?_ upd_same
      · have e1 := kp1 b o nb1 nb2 e
        have e2 : (upd H1 fr (.lst us)) b = some o := by rw [upd_ne nb2]; exact e1
        have m2 := ne_of_none e2 h2
        have e3 : (upd (upd H1 fr (.lst us)) t2 (.tup (xs ++ [v]))) b = some o := by rw [upd_ne m2]; exact e2
        rw [upd_ne (ne_of_none e3 h1)]; exact e3
      · rw [upd_ne (Ne.symm n1), upd_ne (Ne.symm n2), upd_same]
      · rw [upd_ne (Ne.symm n12), upd_same]
end
end Ag

set_option Elab.async false
set_option linter.all false
set_option maxRecDepth 100000
set_option maxHeartbeats 1000000
set_option pp.maxSteps 400
namespace Ag
open PySem PySem.Spec PyProof.Rows L2 LamX
theorem nmGo_mem {ws : List Str} {kd : Str} : ∀ {f : Nat} {found : List Str} {s : Nat} {nm : List Str} {t : Nat}, (∀ x ∈ found, x ∈ ws) → nmGo ws kd f found s = .ok (nm, t) → ∀ x ∈ nm, x ∈ ws
  | 0, found, s, nm, t, hf, h => by cases h; exact hf
  | f + 1, found, s, nm, t, hf, h => by
    unfold nmGo at h
    split at h
    · split at h
      · rename_i x hx
        split at h
        · exact nmGo_mem (fun y hy => by
            rcases List.mem_append.mp hy with hy | hy
            · exact hf y hy
            · rw [List.mem_singleton.mp hy]; exact List.mem_of_getElem? hx) h
        · cases h
      · cases h
    · cases h; exact hf
theorem names_mem {ws : List Str} {kd : Str} {s t : Nat} {nm : List Str} (h : namesR ws kd s = .ok (nm, t)) : ∀ x ∈ nm, x ∈ ws := by
  unfold namesR at h
  split at h
  · rename_i x hx
    split at h
    · split at h
      · rename_i found t' hg
        split at h
        · cases h
          exact nmGo_mem (fun y hy => by rw [List.mem_singleton.mp hy]; exact List.mem_of_getElem? hx) (by assumption)
        · cases h
      · cases h
    · cases h
  · cases h
theorem canLays_strs : ∀ {xs : List Str}, (∀ x ∈ xs, (PyData.str x).canLay0 = true) → PyData.canLayAll0 (xs.map .str) = true
  | [], _ => rfl
  | x :: xs, h => by
    show PyData.canLayAll0 (.str x :: xs.map .str) = true
    simp only [PyData.canLayAll0, Bool.and_eq_true]
    exact ⟨h x (.head _), canLays_strs fun y hy => h y (.tail _ hy)⟩
theorem plainD_ok {kd : Str} {nm : List Str} (h0 : (PyData.str kd).canLay0 = true) (h : ∀ x ∈ nm, (PyData.str x).canLay0 = true) (hn : nm ≠ []) : (plainD kd nm).canLay0 = true ∧ ∃ ds, plainD kd nm = .tuple ds := by
  obtain ⟨x, xs, rfl⟩ : ∃ x xs, nm = x :: xs := by cases nm with | nil => exact absurd rfl hn | cons x xs => exact ⟨x, xs, rfl⟩
  have hx := h x (.head _)
  have hs := canLays_strs h
  unfold plainD
  by_cases e : kd = "answer"
  · rw [if_pos e]
    refine ⟨?_, _, rfl⟩
    simp only [PyData.canLay0, PyData.canLayAll0, Bool.and_eq_true] at h0 hs ⊢
    exact ⟨h0, hs⟩
  · rw [if_neg e]
    by_cases e : kd = "call"
    · rw [if_pos e]
      refine ⟨?_, _, rfl⟩
      simp only [PyData.canLay0, PyData.canLayAll0, Bool.and_eq_true] at h0 hx ⊢
      exact ⟨h0, hx, trivial⟩
    · rw [if_neg e]
      refine ⟨?_, _, rfl⟩
      simp only [PyData.canLay0, PyData.canLayAll0, Bool.and_eq_true] at h0 hs ⊢
      exact ⟨h0, hs, trivial⟩
theorem begin_plain {ws : List Str} {len : Nat} {rd du : Int} {s s' : Nat} {d : PyData} (hg : ∀ x ∈ ws, gd (.str x) = true) (h : beginR ws len rd du s = .plain d s') : s < ws.length ∧ s < s' ∧ d.canLay0 = true ∧ ∃ ds, d = .tuple ds := by
  unfold beginR at h
  split at h
  · cases h
  · rename_i x hx
    split at h
    · split at h
      · split at h
        · split at h <;> cases h
        · cases h
      · split at h
        · rename_i nm t hn
          cases h
          have hp := names_pos hn
          have := plainD_ok (gd_lay (hg x (List.mem_of_getElem? hx))) (fun y hy => gd_lay (hg y (names_mem hn y hy))) hp.1
          exact ⟨(List.getElem?_eq_some_iff.mp hx).1, by omega, this.1, this.2⟩
        · cases h
    · cases h
theorem joints_room {x : Str} {n : Nat} {rd du : Int} (h : x ∈ kindsOf n rd du) (hj : x ∈ joints) : n < 4 ∧ rd + du < 4 := by
  unfold kindsOf at h
  by_cases b : (decide ((n : Int) < 4) && decide (rd + du < 4)) = true
  · rw [Bool.and_eq_true, decide_eq_true_eq, decide_eq_true_eq] at b
    exact ⟨by omega, b.2⟩
  · rw [if_neg b, List.append_nil] at h
    unfold joints at hj
    simp only [List.mem_cons, List.not_mem_nil, or_false] at hj
    rcases hj with rfl | rfl <;> exact absurd h (by decide +kernel)
theorem joint_lay {x : Str} (h : x ∈ joints) : (PyData.str x).canLay0 = true := by
  unfold joints at h
  simp only [List.mem_cons, List.not_mem_nil, or_false] at h
  rcases h with rfl | rfl <;> decide +kernel
theorem begin_opened {ws : List Str} {len : Nat} {rd du : Int} {s s' : Nat} {k : Str} {m : Int} (h : beginR ws len rd du s = .opened k m s') : s + 1 < ws.length ∧ s' = s + 2 ∧ k ∈ joints ∧ len < 4 ∧ rd + du < 4 ∧ ∃ y, ws[s + 1]? = some y ∧ numOk 2 (4 + 1 - rd - du) y = true ∧ m = numV y := by
  unfold beginR at h
  split at h
  · cases h
  · rename_i x hx
    split at h
    · rename_i hk
      split at h
      · rename_i hj
        split at h
        · rename_i y hy
          split at h
          · rename_i hn
            cases h
            have := joints_room hk hj
            exact ⟨(List.getElem?_eq_some_iff.mp hy).1, rfl, hj, this.1, this.2, y, hy, hn, rfl⟩
          · cases h
        · cases h
      · split at h <;> cases h
    · cases h
/-- what was told, at its value -/
def TD (K : PySem.W.Frag) (told : Option PyData) (v : V) (H : Hp) : Prop := match told with | none => v = .non | some d => Df K nof H v d ∧ d.canLay0 = true ∧ v ≠ .non
def tn : Option PyData → Nat | none => 0 | some _ => 1
theorem TD.same {K : PySem.W.Frag} {told : Option PyData} {v : V} {H H' : Hp} (h : TD K told v H) (s : Same H H') : TD K told v H' := by
  cases told with
  | none => exact h
  | some d => exact ⟨df_keepT (KeepT.of s) h.1, h.2⟩
theorem tup_ref {K : PySem.W.Frag} {F : Addr → Prop} {H : Hp} {v : V} {ds : List PyData} (h : Df K F H v (.tuple ds)) : v ≠ .non := by
  cases h; exact fun z => nomatch z
theorem ed_fldR {K : PySem.W.Frag} {σ : L2.St} {F : Addr → Prop} {H : Hp} {i : Nat} {a C dx : Addr} {fs : List (Str × V)} {f : Str} {v : V} {d : PyData} (h : σ[i]? = some (some (.ref a))) (ha : H a = some (.ins C dx fs)) (c : Cls K C) (nn : NoAttr K C f) (l : fs.lookup f = some v) (hd : Df K F H v d) : ED K (tFld K (tVar i) f) σ F H d :=
  fun H1 s Q q => ⟨_, h, a, C, dx, fs, _, rfl, s _ _ ha, c, nn, l, q _ H1 (Same.refl _) (df_mono s Fr.base hd)⟩
theorem dutyGo_nil {ws : List Str} {f s : Nat} {d : PyData} {rd du : Int} : dutyGo ws f (some d) s rd du [] = .ok (d, s) := by
  cases f <;> rfl
section
variable {P : Program} {w : World} {K : PySem.W.Frag} {mg : Str → Option Value} {base : Heap} {T : Txt w K mg} (LL : Lam4 T base)
theorem RS.tup {LL : Lam4 T base} {Hb H : Hp} {r dxr c dx rl fr : Addr} {s rd du : Int} {us : List V} (x : RS LL Hb r dxr c dx rl fr s rd du H) (hf : H fr = some (.lst us)) : ∀ b u, at3 c r fr b → H b = some u → isTup u = false := fun b u z e => by
  rcases z with z | z | z
  · rw [z, x.cu] at e; cases e; rfl
  · rw [z, x.rd] at e; cases e; rfl
  · rw [z, hf] at e; cases e; rfl
theorem RS.lists {LL : Lam4 T base} {Hb H : Hp} {r dxr c dx rl fr : Addr} {s rd du : Int} {ls : List Addr} {us : List V} {stk : Stk} (x : RS LL Hb r dxr c dx rl fr s rd du H) (h : FrOk K Hb fr H ls us stk) : ∀ b ∈ ls, ¬ at3 c r fr b := fun b hb z => by
  obtain ⟨n, vs, e⟩ := h.lists b hb
  rcases z with z | z | z
  · rw [z, x.cu] at e; cases e
  · rw [z, x.rd] at e; cases e
  · exact n z
theorem RS.ends {LL : Lam4 T base} {Hb H H' : Hp} {r dxr c dx rl fr l : Addr} {s rd du : Int} {us vs : List V} (x : RS LL Hb r dxr c dx rl fr s rd du H) (n1 : NT Hb l) (n2 : NT Hb fr) (h1 : H l = some (.lst us)) (h2 : H fr = some (.lst vs)) (k : ∀ b o, b ≠ l → b ≠ fr → H b = some o → H' b = some o) : RS LL Hb r dxr c dx rl fr s rd du H' :=
  have keep : ∀ b o, H b = some o → (∀ us, o ≠ .lst us) → H' b = some o := fun b o e n => k b o (fun q => by rw [q, h1] at e; cases e; exact n _ rfl) (fun q => by rw [q, h2] at e; cases e; exact n _ rfl) e
  ⟨x.hb, fun b o nc nt e => by
    have e1 := x.kp b o nc nt e
    refine k b o (fun q => ?_) (fun q => ?_) e1
    · obtain ⟨ps, z⟩ := n1 o (q ▸ e)
      exact nt ps z
    · obtain ⟨ps, z⟩ := n2 o (q ▸ e)
      exact nt ps z, keep _ _ x.cu (fun _ z => nomatch z), keep _ _ x.rd (fun _ z => nomatch z), tabs_keep (fun b o e z => keep b o e fun us q => by
    subst q
    rcases z with ⟨ps, z⟩ | ⟨_, _, z⟩
    · cases z
    · unfold CodeO at z; cases z) x.tb⟩
/-- the duty that stands at a line's begin -/
def spDuty : Sp := fun vs H Q E => ∃ (Hb : Hp) (r dxr c dx rl fr : Addr) (ws : List Str) (n : Nat) (b : Int), vs = [.ref r] ∧ CuAt K T.C_Cursor c dx rl ws n b Hb ∧ RS LL Hb r dxr c dx rl fr (0 : Nat) 0 1 H ∧ NT Hb fr ∧ H fr = some (.lst []) ∧ (∀ x ∈ ws, gd (.str x) = true) ∧
  (∀ d s', dutyR ws = .ok (d, s') → ∀ v H' rd du, RS LL Hb r dxr c dx rl fr (s' : Nat) rd du H' → Df K nof H' v d → Q v H') ∧
  (∀ e, dutyR ws = .error e → BadS (isAt c) LL.tbs T.C_BadText 1 ((e : Int) + 1) Hb E)
def dInv (Hb : Hp) (r dxr c dx rl fr : Addr) (ws : List Str) (f : Nat) (σ' : L2.St) (H' : Hp) : Prop := ∃ told v, ∃ s : Nat, ∃ (rd du : Int) (stk : Stk) (us : List V) (ls : List Addr), σ' = [some (.ref r), some v] ∧ dutyGo ws f told s rd du stk = dutyR ws ∧ 4 * (ws.length - s) + 2 * stk.length + tn told ≤ f ∧ RS LL Hb r dxr c dx rl fr (s : Nat) rd du H' ∧ H' fr = some (.lst us.reverse) ∧ FrOk K Hb fr H' ls us stk ∧ TD K told v H' ∧ (stk = [] → told ≠ none) ∧ stk.length ≤ 4 ∧ (∀ p ∈ stk, p.2.2.length + f ≤ 300000)
theorem ok_duty : FnOk P w K mg base (L2.CX P w) 12 T.a_DutyReader_duty T.d_DutyReader_duty ["self"] (spDuty LL) := by
  have G_DutyReader_begin := ok_begin (P := P) LL
  have G_DutyReader_end := ok_end (P := P) (base := base) T
  refine T.D_DutyReader_duty.fn.okX sc_DutyReader_duty (fun vs H Q E h => ?_) (fun cdv A outer s H vs Q E hr h => ?_)
  · obtain ⟨Hb, r, dxr, c, dx, rl, fr, ws, n, b, rfl, _⟩ := h; rfl
  · obtain ⟨Hb, r, dxr, c, dx, rl, fr, ws, n, b, rfl, hB, hS, hbf, hf, hg, k1, k2⟩ := h
    have hw := hB.wlen
    refine ⟨_, (C8.pss_cut (ps_set (i := 1) sc_DutyReader_duty.nd rfl (by first | exact Or.inl rfl | exact Or.inr rfl) (pe_meth0 (pv 0) T.cl_DutyReader T.mt_DutyReader_begin (G_DutyReader_begin) (hr.mono (by omega)) T.D_DutyReader_begin.bd .nil (passes_call (takes_of rfl rfl rfl rfl) fun _ _ _ _ z => z)))
      (pss_cons (ps_while (passes_of rfl) (pt_cmpR (op_neE hr.units) (pe_fld (pv 0) rfl) (pe_lst pa_nil) (nomark _)) (pss_one (ps_set (i := 1) sc_DutyReader_duty.nd rfl (by first | exact Or.inl rfl | exact Or.inr rfl) (pe_ifExp (pt_cmpR op_isN (pv 1) pe_non (nomark _)) (pe_meth0 (pv 0) T.cl_DutyReader T.mt_DutyReader_begin (G_DutyReader_begin) (hr.mono (by omega)) T.D_DutyReader_begin.bd .nil (passes_call (takes_of rfl rfl rfl rfl) fun _ _ _ _ z => z)) (pe_meth (pv 0) T.cl_DutyReader T.mt_DutyReader_end (G_DutyReader_end) (hr.mono (by omega)) T.D_DutyReader_end.bd .nil pass0 (pa_cons (pv 1) pa_nil))))))
      (pss_one (ps_ret (pv 1))))), ?_⟩
    refine ⟨fun σ' H' => ∃ f, dInv LL Hb r dxr c dx rl fr ws f σ' H', ?_, ?_⟩
    · refine ⟨_, rfl, r, dxr, _, rfl, hS.rd, rfl, Hb, r, dxr, c, dx, rl, fr, 0, 1, ws, n, b, 0, [], rfl, hB, hS, hbf, hf, by decide, hg, fun d s' eB v H' hS' ks hv => ?_, fun k m s' eB l a H' hS' ks hf' ha hl hn => ?_, fun e eB => ?_⟩
      · obtain ⟨b1, b2, b3, ds, rfl⟩ := begin_plain hg eB
        refine ⟨fuelOf ws, some _, v, s', 0 + 1, 1 - 1, [], [], [], rfl, ?_, ?_, hS', ?_, .nil, ⟨hv, b3, tup_ref hv⟩, fun _ => by simp, by decide, fun p hp => absurd hp List.not_mem_nil⟩
        · unfold dutyR; rw [show beginR ws 0 0 1 0 = _ from eB]
        · show _ + 2 * 0 + 1 ≤ 4 * ws.length + 8; omega
        · exact ks _ _ (fun z => z.elim (fun z => by rw [z, hS.cu] at hf; cases hf) fun z => by rw [z, hS.rd] at hf; cases hf) (fun _ z => nomatch z) hf
      · obtain ⟨b1, b2, b3, b4, _, _⟩ := begin_opened eB
        have nlf : l ≠ fr := fun q => by
          obtain ⟨ps, z⟩ := hn _ (q ▸ hf); cases z
        have nlb : NT Hb l := by
          intro o e
          refine Classical.byContradiction fun z => ?_
          obtain ⟨ps, q⟩ := hn o (hS.kp _ _ (fun q => by rw [q, hS'.cu] at hl; cases hl) (fun ps q => z ⟨ps, q⟩) e)
          exact z ⟨ps, q⟩
        refine ⟨fuelOf ws, none, .non, s', 0, 1 + (m - 1), [(k, m, [])], [.ref a], [l], rfl, ?_, ?_, hS', hf', .cons ha hl .nil rfl (joint_lay b3) List.not_mem_nil nlf nlb .nil, rfl, fun z => (nomatch z), by show 1 ≤ 4; decide, fun p hp => ?_⟩
        · unfold dutyR; rw [show beginR ws 0 0 1 0 = _ from eB]
        · show _ + 2 * 1 + 0 ≤ 4 * ws.length + 8; omega
        · rw [List.mem_singleton.mp hp]; show 0 + (4 * ws.length + 8) ≤ 300000; omega
      · refine (k2 e ?_).kp (KpS.kp (S := isAt c) rfl (Kp.refl _ _))
        unfold dutyR; rw [show beginR ws 0 0 1 0 = _ from eB]
    · rintro σ' H' ⟨f0, hI⟩
      refine run_while (W := dInv LL Hb r dxr c dx rl fr ws) (m0 := f0) hI ?_
      clear hI H' σ' hf hS
      rintro f σ' H1 ⟨told, v, s, rd, du, stk, us, ls, rfl, eG, hmu, hS, hf, hF, hD, hne, h4, hfu⟩
      have hdat := hF.data
      refine ⟨!(frD stk).reverse.isEmpty, et_test (ed_neE (K := K) (F := tru) (ed_fldR (i := 0) rfl hS.rd T.cl_DutyReader T.na_DutyReader_frames rd_frames (.lst (.inl ⟨.inl hf, trivial⟩) (dfs_rev hdat.1))) ed_emp (canLays_rev hdat.2)), fun hb H2 s2 => ?_, fun hb H2 s2 => ?_⟩
      · have hS2 := hS.same s2
        have hf2 := s2 _ _ hf
        obtain ⟨k, m, found, rest, rfl⟩ : ∃ k m found rest, stk = (k, m, found) :: rest := by
          cases stk with
          | nil => simp [frD] at hb
          | cons p rest => exact ⟨p.1, p.2.1, p.2.2, rest, rfl⟩
        obtain ⟨g, rfl⟩ : ∃ g, f = g + 1 := ⟨f - 1, by rw [List.length_cons] at hmu; omega⟩
        rw [List.length_cons] at hmu h4
        refine ⟨fun σ' H' => ∃ m', m' < g + 1 ∧ dInv LL Hb r dxr c dx rl fr ws m' σ' H', fun _ _ h => h, ?_⟩
        have elen : us.reverse.length = ((k, m, found) :: rest).length := by rw [List.length_reverse]; exact hF.len
        have hF2 : FrOk K Hb fr H2 ls us ((k, m, found) :: rest) := hF.gen (S := fun _ => False) (KpS.of s2) (fun _ _ z => z.elim) (fun _ _ z => z)
        cases told with
        | none =>
          obtain rfl : v = .non := hD
          refine ⟨_, rfl, rfl, _, rfl, ite2 (fun _ => ?_) (fun h => absurd (decide_eq_true rfl) h)⟩
          refine ⟨_, rfl, r, dxr, _, rfl, hS2.rd, rfl, Hb, r, dxr, c, dx, rl, fr, rd, du, ws, n, b, s, us.reverse, rfl, hB, hS2, hbf, hf2, by rw [elen, List.length_cons]; omega, hg, fun d s' eB v H' hS' ks hv => ?_, fun k' m' s' eB l a H' hS' ks hf' ha hl hn => ?_, fun e eB => ?_⟩
          · obtain ⟨b1, b2, b3, ds, rfl⟩ := begin_plain hg eB
            rw [elen] at eB
            have ks3 : KpS (at3 c r fr) H2 H' := ks.sub fun a z => z.elim .inl fun z => .inr (.inl z)
            refine ⟨g, by omega, some _, v, s', rd + 1, du - 1, _, us, ls, rfl, ?_, ?_, hS', ?_, hF2.gen ks3 (hS2.tup hf2) (hS2.lists hF2), ⟨hv, b3, tup_ref hv⟩, fun z => (nomatch z), by rw [List.length_cons]; omega, fun p hp => by have := hfu p hp; omega⟩
            · rw [← eG]; show _ = (match beginR _ _ _ _ _ with | .plain _ _ => _ | .opened _ _ _ => _ | .bad _ => _); rw [eB]
            · rw [List.length_cons]; show _ + 1 ≤ _
              have : tn none = 0 := rfl
              omega
            · exact ks _ _ (fun z => z.elim (fun z => by rw [z, hS2.cu] at hf2; cases hf2) fun z => by rw [z, hS2.rd] at hf2; cases hf2) (fun _ z => nomatch z) hf2
          · obtain ⟨b1, b2, b3, b4, _, _⟩ := begin_opened eB
            rw [elen] at eB b4
            rw [List.length_cons] at b4
            have nlf : l ≠ fr := fun q => by
              obtain ⟨ps, z⟩ := hn _ (q ▸ hf2); cases z
            have nlb : NT Hb l := by
              intro o e
              refine Classical.byContradiction fun z => ?_
              obtain ⟨ps, q⟩ := hn o (hS2.kp _ _ (fun q => by rw [q, hS'.cu] at hl; cases hl) (fun ps q => z ⟨ps, q⟩) e)
              exact z ⟨ps, q⟩
            have nls : l ∉ ls := fun z => by
              obtain ⟨_, vs, e⟩ := hF2.lists l z
              obtain ⟨ps, z⟩ := hn _ e; cases z
            refine ⟨g, by omega, none, .non, s', rd, du + (m' - 1), (k', m', []) :: (k, m, found) :: rest, .ref a :: us, l :: ls, rfl, ?_, ?_, hS', ?_, .cons ha hl .nil rfl (joint_lay b3) nls nlf nlb (hF2.gen ks (hS2.tup hf2) (hS2.lists hF2)), rfl, fun z => (nomatch z), ?_, fun p hp => ?_⟩
            · rw [← eG]; show _ = (match beginR _ _ _ _ _ with | .plain _ _ => _ | .opened _ _ _ => _ | .bad _ => _); rw [eB]
            · rw [List.length_cons, List.length_cons]; show _ + 0 ≤ _
              have : tn none = 0 := rfl
              omega
            · rw [hf', List.reverse_cons]
            · rw [List.length_cons, List.length_cons]; omega
            · rcases List.mem_cons.mp hp with rfl | hp
              · have := hfu _ (.head _); show 0 + g ≤ _; omega
              · have := hfu p hp; omega
          · refine (k2 e ?_)
            rw [elen] at eB
            rw [← eG]; show (match beginR _ _ _ _ _ with | .plain _ _ => _ | .opened _ _ _ => _ | .bad _ => _) = _; rw [eB]
        | some d =>
          obtain ⟨hd, hlay, hnn⟩ := hD.same s2
          refine ⟨_, rfl, rfl, _, rfl, ite2 (fun h => absurd (of_decide_eq_true h) hnn) (fun _ => ?_)⟩
          have eG' : dutyGo ws (g + 1) (some d) s rd du ((k, m, found) :: rest) = if (found.length : Int) + 1 < m then dutyGo ws g none s rd du ((k, m, found ++ [d]) :: rest)
            else dutyGo ws g (some (.tuple [.str k, .tuple (found ++ [d])])) s rd du rest := rfl
          rw [eG'] at eG
          have hfu0 := hfu _ (.head _)
          have hfu0 : found.length + (g + 1) ≤ 300000 := hfu0
          cases hF2 with
          | @cons l a ls us xs _ _ _ _ ha hl hdf hy hk n1 n2 n3 hR =>
            rw [List.reverse_cons] at hf2
            have exl : xs.length = found.length := dfs_len hdf
            refine ⟨_, rfl, r, dxr, _, rfl, hS2.rd, rfl, _, rfl, r, dxr, c, T.a_is_name, fr, rd, du, us.reverse, a, k, m, l, xs, v, rfl, hS2.rd, hf2, ha, hl, n2, by omega, fun hlt => ?_, fun hlt t1 t2 H' keep hf' h2 h1 => ?_⟩
            · rw [exl] at hlt
              rw [if_pos hlt] at eG
              have ksl : KpS (fun b => b = l) H2 (upd H2 l (.lst (xs ++ [v]))) := KpS.upd (.inl rfl)
              have ktl : ∀ b u, b = l → H2 b = some u → isTup u = false := fun b u q e => by rw [q, hl] at e; cases e; rfl
              refine ⟨g, by omega, none, .non, s, rd, du, _, .ref a :: us, l :: ls, rfl, eG, ?_, hS2.lst n3 hl, ?_, .cons ?_ upd_same (dfs_app (dfs_keepT (keepT_of ksl ktl) hdf) (.cons (df_keepT (keepT_of ksl ktl) hd) .nil)) (canLays_app hy (canLays_one hlay)) hk n1 n2 n3 (hR.gen ksl ktl fun b hb q => n1 (q ▸ hb)), rfl, fun z => (nomatch z), ?_, fun p hp => ?_⟩
              · rw [List.length_cons]; show _ + 0 ≤ _
                have : tn (some d) = 1 := rfl
                omega
              · rw [upd_ne (Ne.symm n2), hf2, List.reverse_cons]
              · rw [upd_ne (fun q => by rw [q, hl] at ha; cases ha)]; exact ha
              · rw [List.length_cons]; omega
              · rcases List.mem_cons.mp hp with rfl | hp
                · show (found ++ [d]).length + g ≤ _; rw [List.length_append]; show _ + 1 + g ≤ _; omega
                · have := hfu p (.tail _ hp); omega
            · rw [exl] at hlt
              rw [if_neg hlt] at eG
              have ks2 : KpS (two l fr) H2 H' := fun b o nb _ e => keep b o (fun q => nb (.inl q)) (fun q => nb (.inr q)) e
              have kt2 : ∀ b u, two l fr b → H2 b = some u → isTup u = false := fun b u q e => by
                rcases q with q | q
                · rw [q, hl] at e; cases e; rfl
                · rw [q, hf2] at e; cases e; rfl
              have hR' := hR.gen ks2 kt2 fun b hb q => by
                rcases q with q | q
                · exact n1 (q ▸ hb)
                · exact (hR.lists b hb).1 q
              have hkt := keepT_of ks2 kt2
              refine ⟨g, by omega, some _, .ref t1, s, rd, du, rest, us, ls, rfl, eG, ?_, hS2.ends n3 hbf hl hf2 keep, hf', hR', ⟨.tup (.of h1) (.cons (.str _) (.cons (.tup (.of h2) (dfs_app (dfs_keepT hkt hdf) (.cons (df_keepT hkt hd) .nil))) .nil)), ?_, fun z => (nomatch z)⟩, fun _ z => (nomatch z), by omega, fun p hp => by have := hfu p (.tail _ hp); omega⟩
              · have e1 : tn (some d) = 1 := rfl
                show _ + 1 ≤ _; omega
              · have := canLays_app hy (canLays_one hlay)
                simp only [PyData.canLay0, PyData.canLayAll0, Bool.and_eq_true] at hk this ⊢
                exact ⟨hk, this, trivial⟩
      · have e : stk = [] := by
          cases stk with
          | nil => rfl
          | cons p stk => simp [frD] at hb
        subst e
        cases told with
        | none => exact absurd rfl (hne rfl)
        | some d =>
          rw [dutyGo_nil] at eG
          exact ⟨_, rfl, k1 d s eG.symm v H2 rd du (hS.same s2) (hD.same s2).1⟩
end
end Ag

set_option Elab.async false
set_option linter.all false
set_option maxRecDepth 100000
set_option maxHeartbeats 1000000
set_option pp.maxSteps 400
namespace Ag
open PySem PySem.Spec PyProof.Rows L2 LamX
/-- what the words of a first line tell, n lines in all -/
def readT (ws : List Str) (n : Nat) : Except Int PyData := match dutyR ws with
  | .error e => .error ((e : Int) + 1)
  | .ok (d, s) => if s < ws.length ∨ n ≠ 1 then .error ((s : Int) + 1) else .ok d
theorem lines_short {x : Str} (h : x.length ≤ 50000) : ∀ l ∈ Txt.split x "\n", l.length ≤ 50000 := fun l hl => Nat.le_trans (PyProof.Rows.part_short hl) h
theorem lines_few {x : Str} (h : x.length < 50000) : (Txt.split x "\n").length ≤ 50000 := by
  have := split_weight x "\n" (by decide)
  omega
/-- the dict that is refused -/
def spDictBad (B : Addr) : Sp := fun vs H Q E => ∃ a, vs = [.ref a] ∧ H a = some (.dK []) ∧ BadAt B 0 0 H E
section
variable {P : Program} {w : World} {K : PySem.W.Frag} {mg : Str → Option Value} {base : Heap} (T : Txt w K mg)
theorem ok_rows_of_d : FnOk P w K mg base (L2.CX P w) 3 T.a_rows_of T.d_rows_of ["text"] (spDictBad T.C_BadText) := by
  have G_BadText___init__ := ok_BadText_init (P := P) (base := base) T
  refine T.D_rows_of.fn.okX sc_rows_of (fun vs H Q E h => ?_) (fun cdv A outer s H vs Q E hr h => ?_)
  · obtain ⟨a, rfl, _⟩ := h; rfl
  · obtain ⟨a0, rfl, ha0, kE⟩ := h
    refine ⟨_, (pss_cons (ps_if (pt_not (pt_val (pe_callB call_isi (by rfl) T.b_isinstance bt_isinstance (pa_cons (pv 0) (pa_cons (pe_bltn (v := .ty "str") (by rfl) T.b_str bt_str rfl) pa_nil))))) (pss_one (ps_raise rfl (takes_of rfl rfl rfl rfl) (pmk_oex T.ox_BadText T.ic_BadText T.ti_BadText (G_BadText___init__) (hr.mono (by omega)) T.D_BadText___init__.bd .nil pass0 (by rfl) T.g_BadText (pa_cons pe_int (pa_cons pe_int pa_nil))))) pss_nil)
      (pss_one (ps_ret (pe_lc (own := [("line", 1)]) rfl sc_rows_of.nd (pi_list (pe_split (pv 0) pe_str)) (blkOk_by (own := [("line", 1)]) (N := ["text", "line"]) (sc := defScope s_rows_of) (by decide +kernel)) (fun _ _ _ _ _ => (pg_name (i := 1) sc_rows_of.nd rfl (by first | exact Or.inl rfl | exact Or.inr rfl))) (fun _ _ _ _ _ => pts_nil) (fun _ _ _ _ _ => (pe_split (pv 1) pe_str)))))), ?_⟩
    refine s_if (b := true) (et_not (et_B (ed_isiE (K := K) (F := nn H) (T := "str") rfl ha0 (.inl rfl)))) (fun _ H1 s1 => ?_) (fun h => nomatch h)
    refine ⟨(by decide : 2 ≤ 1000), fun a ha => ?_⟩
    refine ⟨a, .int 0, .int 0, rfl, upd_same, fun d H' hd nda keep ea ed => ⟨rfl, d, _, ea, ed, ?_, kE d _ (fun b o e => ?_) ?_ upd_same⟩⟩
    · rw [upd_ne nda] at hd; exact hd
    · have e1 := s1 _ _ e
      have nba : b ≠ a := ne_of_none e1 ha
      rw [upd_ne nda] at hd
      rw [upd_ne (ne_of_none e1 hd), del_ne nba]
      exact keep b o nba (by rw [upd_ne nba]; exact e1)
    · rw [upd_ne nda] at hd; exact s1.freshA hd
theorem ok_rows_of_x : FnOk P w K mg base (L2.CX P w) 3 T.a_rows_of T.d_rows_of ["text"] (spOr (spLines K T.C_BadText) (spDictBad T.C_BadText)) := fn_or (ok_rows_of T) (ok_rows_of_d T)
end
section
variable {P : Program} {w : World} {K : PySem.W.Frag} {mg : Str → Option Value} {base : Heap} {T : Txt w K mg} (LL : Lam4 T base)
/-- what is no text -/
def spDReadOdd : Sp := fun vs H Q E => ∃ v d, vs = [v] ∧ Dx K H v d ∧ isiB "str" d = false ∧ BadAt T.C_BadText 0 0 H E
/-- the duty that a text tells -/
def spDRead : Sp := fun vs H Q E => ∃ v x, vs = [v] ∧ Dp K H v (.str x) ∧ x.length < 50000 ∧ Tabs LL.tbs H ∧ (∀ y ∈ Txt.split ((Txt.split x "\n").headD "") " ", gd (.str y) = true) ∧
  (∀ k, readT (Txt.split ((Txt.split x "\n").headD "") " ") (Txt.split x "\n").length = .error k → BadX LL.tbs T.C_BadText 1 k H E) ∧
  (∀ d, readT (Txt.split ((Txt.split x "\n").headD "") " ") (Txt.split x "\n").length = .ok d → ∀ u H', ExtN H H' → Tabs LL.tbs H' → Df K nof H' u d → Q u H')
include LL in
theorem ok_duty_read_odd : FnOk P w K mg base (L2.CX P w) 13 T.a_duty_read T.d_duty_read ["text"] (spDReadOdd (T := T)) := by
  have G_rows_of := ok_rows_of_x (P := P) (base := base) T
  have G_Cursor___init__ := ok_cu_init (P := P) (base := base) T
  have G_DutyReader___init__ := ok_rd_init (P := P) (base := base) T
  have G_DutyReader_duty := ok_duty (P := P) LL
  have G_Cursor_goes_on := ok_goes_on (P := P) (base := base) T
  refine T.D_duty_read.fn.okX sc_duty_read (fun vs H Q E h => ?_) (fun cdv A outer s H vs Q E hr h => ?_)
  · obtain ⟨v, d, rfl, _⟩ := h; rfl
  · obtain ⟨v, d, rfl, hv, hd, kE⟩ := h
    refine ⟨_, (pss_cons (ps_set (i := 1) sc_duty_read.nd rfl (by first | exact Or.inl rfl | exact Or.inr rfl) (pe_make T.mk_Cursor (G_Cursor___init__) (hr.mono (by omega)) (by rfl) T.g_Cursor T.D_Cursor___init__.bd .nil pass0 (pa_cons (pe_call (G_rows_of) (hr.mono (by omega)) (by rfl) T.D_rows_of.mg T.D_rows_of.fn.kp T.D_rows_of.bd .nil (passes_call (takes_of rfl rfl rfl rfl) fun _ _ _ _ z => z) (pa_cons (pv 0) pa_nil)) pa_nil)))
      (pss_cons (ps_set (i := 2) sc_duty_read.nd rfl (by first | exact Or.inl rfl | exact Or.inr rfl) (pe_meth0 (pe_make T.mk_DutyReader (G_DutyReader___init__) (hr.mono (by omega)) (by rfl) T.g_DutyReader T.D_DutyReader___init__.bd .nil pass0 (pa_cons (pv 1) (pa_cons (pe_glob (v := .ref T.a_is_name) (by rfl) T.D_is_name.mg rfl) pa_nil))) T.cl_DutyReader T.mt_DutyReader_duty (G_DutyReader_duty) (hr.mono (by omega)) T.D_DutyReader_duty.bd .nil (passes_call (takes_of rfl rfl rfl rfl) fun _ _ _ _ z => z)))
      (pss_cons (ps_expr (pe_meth (pv 1) T.cl_Cursor T.mt_Cursor_goes_on (G_Cursor_goes_on) (hr.mono (by omega)) T.D_Cursor_goes_on.bd .nil (passes_call (takes_of rfl rfl rfl rfl) fun _ _ _ _ z => z) (pa_cons pe_bl (pa_cons pe_bl pa_nil))))
      (pss_one (ps_ret (pv 2)))))), ?_⟩
    refine ⟨v, rfl, ?_⟩
    rcases hv with hv | ⟨rfl, a, rfl, ha⟩
    · exact .inl ⟨v, d, rfl, hv, fun _ => kE, fun x e => by subst e; cases hd⟩
    · exact .inr ⟨a, rfl, ha, kE⟩
theorem ok_duty_read_t : FnOk P w K mg base (L2.CX P w) 13 T.a_duty_read T.d_duty_read ["text"] (spDRead LL) := by
  have G_rows_of := ok_rows_of_x (P := P) (base := base) T
  have G_Cursor___init__ := ok_cu_init (P := P) (base := base) T
  have G_DutyReader___init__ := ok_rd_init (P := P) (base := base) T
  have G_DutyReader_duty := ok_duty (P := P) LL
  have G_Cursor_goes_on := ok_goes_on (P := P) (base := base) T
  refine T.D_duty_read.fn.okX sc_duty_read (fun vs H Q E h => ?_) (fun cdv A outer s H vs Q E hr h => ?_)
  · obtain ⟨v, d, rfl, _⟩ := h; rfl
  · obtain ⟨v, x, rfl, hv, hx, hT, hg, kE, kQ⟩ := h
    refine ⟨_, (pss_cons (ps_set (i := 1) sc_duty_read.nd rfl (by first | exact Or.inl rfl | exact Or.inr rfl) (pe_make T.mk_Cursor (G_Cursor___init__) (hr.mono (by omega)) (by rfl) T.g_Cursor T.D_Cursor___init__.bd .nil pass0 (pa_cons (pe_call (G_rows_of) (hr.mono (by omega)) (by rfl) T.D_rows_of.mg T.D_rows_of.fn.kp T.D_rows_of.bd .nil (passes_call (takes_of rfl rfl rfl rfl) fun _ _ _ _ z => z) (pa_cons (pv 0) pa_nil)) pa_nil)))
      (pss_cons (ps_set (i := 2) sc_duty_read.nd rfl (by first | exact Or.inl rfl | exact Or.inr rfl) (pe_meth0 (pe_make T.mk_DutyReader (G_DutyReader___init__) (hr.mono (by omega)) (by rfl) T.g_DutyReader T.D_DutyReader___init__.bd .nil pass0 (pa_cons (pv 1) (pa_cons (pe_glob (v := .ref T.a_is_name) (by rfl) T.D_is_name.mg rfl) pa_nil))) T.cl_DutyReader T.mt_DutyReader_duty (G_DutyReader_duty) (hr.mono (by omega)) T.D_DutyReader_duty.bd .nil (passes_call (takes_of rfl rfl rfl rfl) fun _ _ _ _ z => z)))
      (pss_cons (ps_expr (pe_meth (pv 1) T.cl_Cursor T.mt_Cursor_goes_on (G_Cursor_goes_on) (hr.mono (by omega)) T.D_Cursor_goes_on.bd .nil (passes_call (takes_of rfl rfl rfl rfl) fun _ _ _ _ z => z) (pa_cons pe_bl (pa_cons pe_bl pa_nil))))
      (pss_one (ps_ret (pv 2)))))), ?_⟩
    refine ⟨v, rfl, .inl ⟨v, .str x, rfl, hv, fun h => (nomatch h), fun y e => ?_⟩⟩
    cases e
    refine ⟨Nat.le_of_lt hx, lines_short (Nat.le_of_lt hx), lines_few hx, fun l us H1 s1 nl el hus => ?_⟩
    generalize hL : Txt.split x "\n" = L at hg kE kQ
    have hLd : linesD x = L.map fun l => .list ((Txt.split l " ").map .str) := by unfold linesD; rw [hL]
    have hn : L.length ≤ 50000 := by rw [← hL]; exact lines_few hx
    obtain ⟨l0, Lr, rfl⟩ : ∃ l0 Lr, L = l0 :: Lr := by
      cases L with
      | nil => have := split_pos x "\n"; rw [hL] at this; exact absurd this (by decide)
      | cons a b => exact ⟨a, b, rfl⟩
    have hl0 : l0.length < 50000 := Nat.lt_of_le_of_lt (PyProof.Rows.part_short (show l0 ∈ Txt.split x "\n" by rw [hL]; exact List.mem_cons_self)) hx
    rw [show (l0 :: Lr).headD ("" : Str) = l0 from rfl] at hg kE kQ
    rw [hLd] at hus
    have hwn : (Txt.split l0 " ").length ≤ 50000 := by have := split_weight l0 " " (by decide); omega
    obtain ⟨v0, hv0, dv0⟩ := dps_get (i := 0) (dfs_dps hus) rfl
    obtain ⟨wl, rfl, hwl⟩ : ∃ wl, v0 = .ref wl ∧ SqL K H1 wl ((Txt.split l0 " ").map V.str) := by
      cases dv0 with
      | lst hs r => exact ⟨_, rfl, by have e := strs_dps r; rw [← e]; exact hs⟩
    generalize Txt.split l0 " " = ws at hg kE kQ hwl hwn
    generalize hnL : (l0 :: Lr).length = n at kE kQ hn
    have hul : us.length = n := by rw [← hnL, dfs_len hus, List.length_map]
    intro c dx hc hdx ndc
    refine ⟨c, dx, l, rfl, upd_same, fun H3 kp e3 => ⟨rfl, ?_⟩⟩
    have s3 : Same H1 H3 := fun b o e => kp b o (ne_of_none e hc) (by rw [upd_ne (ne_of_none e hc), upd_ne (ne_of_none e hdx)]; exact e)
    have X3 : CuAt K T.C_Cursor c dx l ws n 0 H3 := ⟨e3, ⟨us, wl, .inl (.inl (s3 _ _ el)), hul, hv0, s3.slA hwl⟩, hwn, hn⟩
    have hcH : H c = none := s1.freshA hc
    have T3 := hT.ext (s1.trans s3)
    have kpE : ∀ {H'}, Kp c H3 H' → ExtN H H' := fun k b o e n => k b o (ne_of_none e hcH) n (s3 _ _ (s1 _ _ e))
    have bad : ∀ {k : Int}, readT ws n = .error k → BadS (isAt c) LL.tbs T.C_BadText 1 k H3 E := fun e d H' k t hd => kE _ e d H' (kpE fun b o nb nt h => k b o nb nt h) t hd
    refine ⟨_, rfl, ?_⟩
    intro r dxr hr hdr ndr
    have nrc : c ≠ r := fun q => by rw [← q, e3] at hr; cases hr
    refine ⟨r, dxr, c, T.a_is_name, rfl, upd_same, fun fr H4 kp4 nfr efr er => ⟨rfl, ?_⟩⟩
    have s4 : Same H3 H4 := fun b o e => kp4 b o (ne_of_none e hr) (by rw [upd_ne (ne_of_none e hr), upd_ne (ne_of_none e hdr)]; exact e)
    have nfrH : H3 fr = none := by
      cases e : H3 fr with
      | none => rfl
      | some o => rw [upd_ne (ne_of_none e hr), upd_ne (ne_of_none e hdr), e] at nfr; cases nfr
    have hS4 : RS LL H3 r dxr c dx l fr (0 : Nat) 0 1 H4 := ⟨NT.none hr, .of s4, s4 _ _ e3, er, T3.ext s4⟩
    refine ⟨r, dxr, _, rfl, er, rfl, H3, r, dxr, c, dx, l, fr, ws, n, 0, rfl, X3, hS4, NT.none nfrH, efr, hg, fun d s' eD v5 H5 rd du hS5 hv5 => ?_, fun e eD => bad (by unfold readT; rw [eD])⟩
    have C5 := X3.kp hS5.kp hS5.cu
    refine ⟨_, rfl, c, dx, _, rfl, hS5.cu, rfl, c, dx, l, ws, n, s', rfl, C5, fun hb => ?_, fun h1 h2 H6 s6 => ?_⟩
    · exact (BadS.x (bad (k := (s' : Int) + 1) (by unfold readT; rw [eD]; dsimp only; rw [if_pos hb])) (KpS.kp (S := isAt c) rfl hS5.kp)).at_ (ExtN.refl _) hS5.tb
    · exact ⟨_, rfl, kQ d (by unfold readT; rw [eD]; dsimp only; rw [if_neg (fun z => z.elim h1 (fun z => z h2))]) v5 H6 ((kpE hS5.kp).trans (.of s6)) (hS5.tb.ext s6) (df_keepT (KeepT.of s6) hv5)⟩
theorem ok_duty_read : FnOk P w K mg base (L2.CX P w) 13 T.a_duty_read T.d_duty_read ["text"] (spOr (spDRead LL) (spDReadOdd (T := T))) := fn_or (ok_duty_read_t LL) (ok_duty_read_odd LL)
end
end Ag

set_option Elab.async false
set_option linter.all false
set_option maxRecDepth 100000
set_option maxHeartbeats 1000000
set_option pp.maxSteps 400
/-! A duty's words read back. -/
namespace Ag
open PySem PySem.Spec PyProof.Rows L2 LamX
theorem drop_at {ws a : List Str} {x : Str} {s : Nat} (h : ws.drop s = x :: a) : ws[s]? = some x ∧ ws.drop (s + 1) = a := by
  have e := List.getElem?_drop (xs := ws) (i := s) (j := 0)
  rw [h] at e
  refine ⟨by simpa using e.symm, ?_⟩
  rw [← List.drop_drop, h]; rfl
theorem name_end {x : Str} (h : nameB x = true) : x ≠ (";" : Str) := fun q => by rw [q] at h; exact absurd h (by decide +kernel)
theorem nmGo_run {ws : List Str} {kd : Str} {rest : List Str} : ∀ {xs found : List Str} {f s : Nat}, ws.drop s = xs ++ (";" : Str) :: rest → (∀ x ∈ xs, nameB x = true) → leastN kd ≤ found.length + xs.length → found.length + xs.length ≤ mostN kd → (kd = "answer" → (found ++ xs).Nodup) → xs.length ≤ f → nmGo ws kd f found s = .ok (found ++ xs, s + xs.length)
  | [], found, f, s, hd, hn, h1, h2, h3, h4 => by
    rw [List.append_nil]
    have e := (drop_at hd).1
    cases f with
    | zero => rfl
    | succ g =>
      show (if _ then _ else _) = _
      have h1 : leastN kd ≤ found.length + 0 := h1
      rw [if_neg (fun z => z.elim (fun z => by omega) (fun z => z.2 e))]; rfl
  | x :: xs, found, f, s, hd, hn, h1, h2, h3, h4 => by
    obtain ⟨g, rfl⟩ : ∃ g, f = g + 1 := ⟨f - 1, by rw [List.length_cons] at h4; omega⟩
    rw [List.length_cons] at h1 h2 h4
    obtain ⟨e, hd'⟩ := drop_at hd
    have hx := hn x (.head _)
    have ok : okNm kd found x = true := by
      unfold okNm
      rw [hx, Bool.true_and, Bool.not_eq_true', Bool.and_eq_false_iff]
      by_cases q : kd = "answer"
      · refine .inr (decide_eq_false fun z => ?_)
        exact (List.nodup_append.mp (h3 q)).2.2 x z x (.head _) rfl
      · exact .inl (decide_eq_false q)
    rw [nmGo_ok (.inr ⟨by omega, fun z => by rw [e] at z; exact name_end hx (Option.some.inj z)⟩) e ok]
    have r := nmGo_run (kd := kd) (xs := xs) (found := found ++ [x]) (f := g) (s := s + 1) hd' (fun y hy => hn y (.tail _ hy)) (by rw [List.length_append]; show _ ≤ _ + 1 + _; omega) (by rw [List.length_append]; show _ + 1 + _ ≤ _; omega) (fun q => by rw [List.append_assoc]; exact h3 q) (by omega)
    rw [r, List.append_assoc, List.length_cons]
    show Except.ok (found ++ x :: xs, _) = _
    rw [Nat.add_assoc, Nat.add_comm 1]
theorem names_run {ws : List Str} {kd : Str} {rest nm : List Str} {s : Nat} (hd : ws.drop s = nm ++ (";" : Str) :: rest) (hn : ∀ x ∈ nm, nameB x = true) (h0 : 1 ≤ nm.length) (h1 : leastN kd ≤ nm.length) (h2 : nm.length ≤ mostN kd) (h3 : kd = "answer" → nm.Nodup) (h4 : nm.length ≤ 5) : namesR ws kd s = .ok (nm, s + nm.length + 1) := by
  obtain ⟨x, xs, rfl⟩ : ∃ x xs, nm = x :: xs := by cases nm with | nil => cases h0 | cons x xs => exact ⟨x, xs, rfl⟩
  obtain ⟨e, hd'⟩ := drop_at hd
  have hd' : ws.drop (s + 1) = xs ++ (";" : Str) :: rest := hd'
  have r := nmGo_run (kd := kd) (xs := xs) (found := [x]) (f := 4) (s := s + 1) hd' (fun y hy => hn y (.tail _ hy)) (by rw [List.length_cons] at h1; show _ ≤ 1 + _; omega) (by rw [List.length_cons] at h2; show 1 + _ ≤ _; omega) h3 (by rw [List.length_cons] at h4; omega)
  unfold namesR
  rw [e]
  show (if nameB x = true then _ else _) = _
  rw [if_pos (hn x (.head _)), r]
  have e2 : ws[s + 1 + xs.length]? = some (";" : Str) := by
    have q := List.getElem?_drop (xs := ws) (i := s + 1) (j := xs.length)
    rw [hd', List.getElem?_append_right (Nat.le_refl _), Nat.sub_self] at q
    exact q.symm
  show (if ws[s + 1 + xs.length]? = some (";" : Str) then _ else _) = _
  rw [if_pos e2, List.length_cons]
  show Except.ok (x :: xs, _) = _
  rw [show s + 1 + xs.length + 1 = s + (xs.length + 1) + 1 by omega]
theorem kind_facts {p : Pl} (h : OkP p) : kindS p ∈ plainKinds ∧ kindS p ∉ joints ∧ leastN (kindS p) ≤ (nmP p).length ∧ (nmP p).length ≤ mostN (kindS p) ∧ (kindS p = "answer" → (nmP p).Nodup) ∧ plainD (kindS p) (nmP p) = plD p := by
  cases p with
  | call w =>
    refine ⟨by show ("call" : Str) ∈ plainKinds; decide +kernel, by show ("call" : Str) ∉ joints; decide +kernel, by show leastN "call" ≤ 1; decide +kernel, by show 1 ≤ mostN "call"; decide +kernel, fun z => absurd z (by show ¬ ("call" : Str) = "answer"; decide +kernel), ?_⟩
    unfold plainD
    rw [if_neg (show ¬ kindS (.call w) = "answer" by show ¬ ("call" : Str) = "answer"; decide +kernel), if_pos (show kindS (.call w) = "call" from rfl)]; rfl
  | answer a b =>
    refine ⟨by show ("answer" : Str) ∈ plainKinds; decide +kernel, by show ("answer" : Str) ∉ joints; decide +kernel, by show leastN "answer" ≤ 2; decide +kernel, by show 2 ≤ mostN "answer"; decide +kernel, fun _ => ?_, ?_⟩
    · have := h.ans a b rfl
      show [a, b].Nodup
      simp [this]
    · unfold plainD
      rw [if_pos (show kindS (.answer a b) = "answer" from rfl)]; rfl
  | many k w =>
    have h1 := h.len
    have h2 := h.two k w rfl
    have h1 : 1 ≤ w.length ∧ w.length ≤ 4 := h1
    have na : ¬ kindS (.many k w) = "answer" := by show ¬ kdS k = "answer"; cases k <;> decide +kernel
    have nc : ¬ kindS (.many k w) = "call" := by show ¬ kdS k = "call"; cases k <;> decide +kernel
    have m4 : mostN (kindS (.many k w)) = 4 := by show mostN (kdS k) = 4; cases k <;> decide +kernel
    have l2 : leastN (kindS (.many k w)) ≤ 2 := by show leastN (kdS k) ≤ 2; cases k <;> decide +kernel
    refine ⟨by show kdS k ∈ plainKinds; cases k <;> decide +kernel, by show kdS k ∉ joints; cases k <;> decide +kernel, by show _ ≤ w.length; omega, by rw [m4]; exact h1.2, fun z => absurd z na, ?_⟩
    unfold plainD
    rw [if_neg na, if_neg nc]; rfl
theorem begin_pl {ws rest : List Str} {p : Pl} {len s : Nat} {rd du : Int} (h : OkP p) (hd : ws.drop s = wdP p ++ rest) : beginR ws len rd du s = .plain (plD p) (s + (wdP p).length) := by
  obtain ⟨k1, k2, k3, k4, k5, k6⟩ := kind_facts h
  have hd : ws.drop s = kindS p :: (nmP p ++ (";" : Str) :: rest) := by rw [hd]; show kindS p :: (nmP p ++ [(";" : Str)] ++ rest) = _; rw [List.append_assoc]; rfl
  obtain ⟨e, hd'⟩ := drop_at hd
  have r := names_run (kd := kindS p) hd' h.nam h.len.1 k3 k4 k5 (by have := h.len.2; omega)
  unfold beginR
  rw [e]
  dsimp only
  have hk : kindS p ∈ kindsOf len rd du := List.mem_append.mpr (.inl k1)
  rw [if_pos hk, if_neg k2, r]
  dsimp only
  rw [k6]
  have : (wdP p).length = (nmP p).length + 2 := by show (nmP p ++ [(";" : Str)]).length + 1 = _; rw [List.length_append]; rfl
  rw [this]
  congr 1; omega
theorem two_num : numV "2" = 2 := by decide +kernel
theorem two_ok : numB "2" = true := by decide +kernel
theorem begin_jn {ws rest : List Str} {al : Bool} {len s : Nat} {rd du : Int} (h1 : len < 4) (h2 : rd + du < 4) (hd : ws.drop s = jnS al :: ("2" : Str) :: rest) : beginR ws len rd du s = .opened (jnS al) 2 (s + 2) := by
  obtain ⟨e, hd'⟩ := drop_at hd
  obtain ⟨e2, _⟩ := drop_at hd'
  have hj : jnS al ∈ joints := by cases al <;> decide +kernel
  unfold beginR
  rw [e]
  dsimp only
  have hk : jnS al ∈ kindsOf len rd du := by
    unfold kindsOf
    refine List.mem_append.mpr (.inr ?_)
    rw [if_pos (by rw [Bool.and_eq_true, decide_eq_true_eq, decide_eq_true_eq]; exact ⟨by omega, h2⟩)]; exact hj
  rw [if_pos hk, if_pos hj, e2]
  dsimp only
  have ok : numOk 2 (4 + 1 - rd - du) "2" = true := by
    unfold numOk
    rw [two_num, two_ok, Bool.true_and, Bool.and_eq_true, decide_eq_true_eq, decide_eq_true_eq]
    omega
  rw [if_pos ok, two_num]
def stp : Dt → Nat
  | .pl _ => 1
  | .jn _ a b => stp a + 1 + (stp b + 1) + 1
theorem wdP_len (p : Pl) : (wdP p).length = (nmP p).length + 2 := by show (nmP p ++ [(";" : Str)]).length + 1 = _; rw [List.length_append]; rfl
theorem stp_le : ∀ {D : Dt}, OkD D → stp D + 2 ≤ (wdD D).length
  | .pl p, h => by have := h.len.1; show 1 + 2 ≤ (wdP p).length; rw [wdP_len]; omega
  | .jn al a b, h => by
    have h1 := stp_le h.1
    have h2 := stp_le h.2
    show stp a + 1 + (stp b + 1) + 1 + 2 ≤ (jnS al :: "2" :: (wdD a ++ wdD b)).length
    rw [List.length_cons, List.length_cons, List.length_append]; omega
theorem go_none {ws : List Str} {f s : Nat} {rd du : Int} {stk : Stk} (hs : stk ≠ []) : dutyGo ws (f + 1) none s rd du stk = match beginR ws stk.length rd du s with
      | .plain d s' => dutyGo ws f (some d) s' (rd + 1) (du - 1) stk
      | .opened k m s' => dutyGo ws f none s' rd (du + (m - 1)) ((k, m, []) :: stk)
      | .bad e => .error e := by
  cases stk with
  | nil => exact absurd rfl hs
  | cons p r => rfl
theorem go_some {ws : List Str} {f s : Nat} {rd du : Int} {stk : Stk} {d : PyData} {k : Str} {m : Int} {found : List PyData} : dutyGo ws (f + 1) (some d) s rd du ((k, m, found) :: stk) = if (found.length : Int) + 1 < m then dutyGo ws f none s rd du ((k, m, found ++ [d]) :: stk)
      else dutyGo ws f (some (.tuple [.str k, .tuple (found ++ [d])])) s rd du stk := rfl
theorem go_run {ws : List Str} : ∀ {D : Dt} {rest : List Str} {f s : Nat} {rd du : Int} {stk : Stk}, OkD D → ws.drop s = wdD D ++ rest → stk ≠ [] → stk.length + dep D ≤ 4 → rd + du - 1 + npl D ≤ 4 → dutyGo ws (stp D + f) none s rd du stk = dutyGo ws f (some (dtD D)) (s + (wdD D).length) (rd + npl D) (du - 1) stk
  | .pl p, rest, f, s, rd, du, stk, h, hd, hs, h1, h2 => by
    rw [show stp (.pl p) + f = f + 1 from Nat.add_comm _ _, go_none hs, begin_pl h hd]; rfl
  | .jn al a b, rest, f, s, rd, du, stk, h, hd, hs, h1, h2 => by
    have na := npl_pos a
    have nb := npl_pos b
    have h1 : stk.length + (max (dep a) (dep b) + 1) ≤ 4 := h1
    have h2 : rd + du - 1 + ((npl a + npl b : Nat) : Int) ≤ 4 := h2
    have hd : ws.drop s = jnS al :: ("2" : Str) :: (wdD a ++ (wdD b ++ rest)) := by rw [hd]; show jnS al :: "2" :: (wdD a ++ wdD b ++ rest) = _; rw [List.append_assoc]
    have hd1 := (drop_at hd).2
    have hd2 := (drop_at hd1).2
    have hd3 : ws.drop (s + 1 + 1 + (wdD a).length) = wdD b ++ rest := by rw [← List.drop_drop, hd2, List.drop_left']; rfl
    have ml := Nat.le_max_left (dep a) (dep b)
    have mr := Nat.le_max_right (dep a) (dep b)
    rw [show stp (.jn al a b) + f = (stp a + (stp b + 1 + 1 + f) + 1) by show stp a + 1 + (stp b + 1) + 1 + f = _; omega, go_none hs, begin_jn (by omega) (by omega) hd]
    dsimp only
    rw [go_run (D := a) h.1 hd2 (List.cons_ne_nil _ _) (by rw [List.length_cons]; omega) (by omega)]
    rw [show stp b + 1 + 1 + f = (stp b + (1 + f)) + 1 by omega, go_some, if_pos (by show (0 : Int) + 1 < 2; decide)]
    rw [go_run (D := b) h.2 hd3 (List.cons_ne_nil _ _) (by rw [List.length_cons]; omega) (by omega)]
    rw [show 1 + f = f + 1 by omega, go_some, if_neg (by show ¬ (1 : Int) + 1 < 2; decide)]
    show dutyGo ws f (some (.tuple [.str (jnS al), .tuple [dtD a, dtD b]])) _ _ _ stk = _
    have e1 : s + 1 + 1 + (wdD a).length + (wdD b).length = s + (wdD (.jn al a b)).length := by show _ = s + (jnS al :: "2" :: (wdD a ++ wdD b)).length; rw [List.length_cons, List.length_cons, List.length_append]; omega
    have e2 : rd + (npl a : Int) + (npl b : Int) = rd + ((npl (.jn al a b) : Nat) : Int) := by show _ = rd + ((npl a + npl b : Nat) : Int); omega
    have e3 : du + (2 - 1) - 1 - 1 = du - 1 := by omega
    rw [e1, e2, e3]; rfl
/-- a duty's words tell it -/
theorem read_back {D : Dt} (h : OkD D) (hn : npl D ≤ 4) (hd : dep D ≤ 4) : readT (wdD D) 1 = .ok (dtD D) := by
  have key : dutyR (wdD D) = .ok (dtD D, (wdD D).length) := by
    unfold dutyR
    cases D with
    | pl p =>
      rw [begin_pl (rest := []) h (by rw [List.append_nil]; rfl)]
      dsimp only
      rw [dutyGo_nil, Nat.zero_add]; rfl
    | jn al a b =>
      have na := npl_pos a
      have nb := npl_pos b
      have hn : npl a + npl b ≤ 4 := hn
      have hdd : max (dep a) (dep b) + 1 ≤ 4 := hd
      have ml := Nat.le_max_left (dep a) (dep b)
      have mr := Nat.le_max_right (dep a) (dep b)
      have e0 : (wdD (.jn al a b)).drop 0 = jnS al :: ("2" : Str) :: (wdD a ++ (wdD b ++ [])) := by rw [List.append_nil]; rfl
      have hd2 := (drop_at (drop_at e0).2).2
      have hd3 : (wdD (.jn al a b)).drop (0 + 1 + 1 + (wdD a).length) = wdD b ++ [] := by rw [← List.drop_drop, hd2, List.drop_left']; rfl
      rw [begin_jn (by decide) (by decide) e0]
      dsimp only
      have sl := stp_le h
      have sl : stp a + 1 + (stp b + 1) + 1 + 2 ≤ (wdD (.jn al a b)).length := sl
      obtain ⟨g, hg⟩ : ∃ g, fuelOf (wdD (.jn al a b)) = stp a + (stp b + 1 + 1 + g) := ⟨fuelOf (wdD (.jn al a b)) - (stp a + (stp b + 1 + 1)), by unfold fuelOf; omega⟩
      rw [hg, go_run (D := a) h.1 hd2 (List.cons_ne_nil _ _) (by show 1 + _ ≤ _; omega) (by omega)]
      rw [show stp b + 1 + 1 + g = (stp b + (1 + g)) + 1 by omega, go_some, if_pos (by show (0 : Int) + 1 < 2; decide)]
      rw [go_run (D := b) h.2 hd3 (List.cons_ne_nil _ _) (by show 1 + _ ≤ _; omega) (by omega)]
      rw [show 1 + g = g + 1 by omega, go_some, if_neg (by show ¬ (1 : Int) + 1 < 2; decide), dutyGo_nil]
      show Except.ok (PyData.tuple [.str (jnS al), .tuple [dtD a, dtD b]], _) = _
      have e1 : 0 + 1 + 1 + (wdD a).length + (wdD b).length = (wdD (.jn al a b)).length := by show _ = (jnS al :: "2" :: (wdD a ++ wdD b)).length; rw [List.length_cons, List.length_cons, List.length_append]; omega
      rw [e1]; rfl
  unfold readT
  rw [key]
  dsimp only
  rw [if_neg (fun z => z.elim (fun z => Nat.lt_irrefl _ z) (fun z => z rfl))]
end Ag

set_option Elab.async false
set_option linter.all false
set_option maxRecDepth 100000
set_option maxHeartbeats 1000000
set_option pp.maxSteps 400
/-! A duty's words and their text. -/
namespace Ag
open PySem PySem.Spec PyProof.Rows L2 LamX
theorem as_gd {n : Nat} {x : Str} (h : As n x) (hn : n ≤ 1000) : gd (.str x) = true := by
  simp only [gd, Bool.and_eq_true, decide_eq_true_eq]
  refine ⟨Array.all_eq_true_iff_forall_mem.mpr fun c hc => decide_eq_true ?_, Nat.le_trans h.2 hn⟩
  have := h.1 c (Array.mem_toList_iff.mpr hc); omega
theorem nameB_sign {x : Str} (h : nameB x = true) : ∀ c ∈ x.cps.toList, c ≠ 32 ∧ c ≠ 10 := by
  intro c hc
  unfold nameB at h
  have key := List.all_eq_true.mp (Bool.and_eq_true_iff.mp h).2 c hc
  rcases Bool.or_eq_true_iff.mp key with k | k
  · have := of_decide_eq_true k; omega
  · have := of_decide_eq_true k; omega
/-- a word of a text: plain signs, no blank and no line's end -/
def Wd (x : Str) : Prop := As 12 x ∧ ∀ c ∈ x.cps.toList, c ≠ 32 ∧ c ≠ 10
def wdB (x : Str) : Bool := asB 12 x && x.cps.toList.all fun c => decide (c ≠ 32) && decide (c ≠ 10)
theorem wd_of {x : Str} (h : wdB x = true) : Wd x := by
  unfold wdB at h
  rw [Bool.and_eq_true, List.all_eq_true] at h
  refine ⟨as_of h.1, fun c hc => ?_⟩
  have := h.2 c hc
  rw [Bool.and_eq_true, decide_eq_true_eq, decide_eq_true_eq] at this
  exact this
theorem wd_kind (p : Pl) : Wd (kindS p) := by
  cases p with
  | call w => exact wd_of (by show wdB "call" = true; decide +kernel)
  | answer a b => exact wd_of (by show wdB "answer" = true; decide +kernel)
  | many k w => exact wd_of (by show wdB (kdS k) = true; cases k <;> decide +kernel)
theorem wd_wdP {p : Pl} (h : OkP p) : ∀ x ∈ wdP p, Wd x := by
  intro x hx
  rcases List.mem_cons.mp hx with rfl | hx
  · exact wd_kind p
  · rcases List.mem_append.mp hx with hx | hx
    · exact ⟨h.as x hx, nameB_sign (h.nam x hx)⟩
    · rw [List.mem_singleton.mp hx]; exact wd_of (by decide +kernel)
theorem wd_wdD : ∀ {D : Dt}, OkD D → ∀ x ∈ wdD D, Wd x
  | .pl p, h => wd_wdP h
  | .jn al a b, h => fun x hx => by
    have hx : x ∈ jnS al :: ("2" : Str) :: (wdD a ++ wdD b) := hx
    rcases List.mem_cons.mp hx with rfl | hx
    · exact wd_of (by cases al <;> decide +kernel)
    · rcases List.mem_cons.mp hx with rfl | hx
      · exact wd_of (by decide +kernel)
      · rcases List.mem_append.mp hx with hx | hx
        · exact wd_wdD h.1 x hx
        · exact wd_wdD h.2 x hx
theorem wdD_len : ∀ {D : Dt}, OkD D → (wdD D).length + 2 ≤ 8 * npl D
  | .pl p, h => by have := h.len.2; show (wdP p).length + 2 ≤ 8 * 1; rw [wdP_len]; omega
  | .jn al a b, h => by
    have h1 := wdD_len h.1
    have h2 := wdD_len h.2
    show (jnS al :: "2" :: (wdD a ++ wdD b)).length + 2 ≤ 8 * (npl a + npl b)
    rw [List.length_cons, List.length_cons, List.length_append]; omega
theorem wdD_ne : ∀ (D : Dt), wdD D ≠ []
  | .pl p => List.cons_ne_nil _ _
  | .jn al a b => List.cons_ne_nil _ _
/-! ### joined texts -/
theorem join_sign {s : Str} : ∀ {xs : List Str} {c : Nat}, c ∈ (Str.join s xs).cps.toList → c ∈ s.cps.toList ∨ ∃ x ∈ xs, c ∈ x.cps.toList
  | [], c, h => absurd h List.not_mem_nil
  | [x], c, h => .inr ⟨x, List.mem_cons_self, h⟩
  | x :: y :: r, c, h => by
    have e : (Str.join s (x :: y :: r)).cps.toList = (x.cps.toList ++ s.cps.toList) ++ (Str.join s (y :: r)).cps.toList := by
      show (x ++ s ++ Str.join s (y :: r)).cps.toList = _
      rw [show (x ++ s ++ Str.join s (y :: r)).cps.toList = (x ++ s).cps.toList ++ (Str.join s (y :: r)).cps.toList from TL.tl_append _ _, show (x ++ s).cps.toList = x.cps.toList ++ s.cps.toList from TL.tl_append _ _]
    rw [e] at h
    rcases List.mem_append.mp h with h | h
    · rcases List.mem_append.mp h with h | h
      · exact .inr ⟨x, List.mem_cons_self, h⟩
      · exact .inl h
    · rcases join_sign h with h | ⟨z, hz, h⟩
      · exact .inl h
      · exact .inr ⟨z, List.mem_cons_of_mem _ hz, h⟩
theorem split_one {x : Str} (h : (10 : Nat) ∉ x.cps.toList) : Txt.split x "\n" = [x] := by
  have e := TL.split_join (y := "\n") (s := 10) (S := []) (by decide +kernel) (by decide +kernel) (parts := [x]) (by simp) (fun p hp => by rw [List.mem_singleton.mp hp]; exact h)
  rw [TL.join_eq] at e
  exact e
/-- the text of words -/
def txW (ws : List Str) : Str := Str.join " " ws
theorem split_words {ws : List Str} (hn : ws ≠ []) (h : ∀ x ∈ ws, Wd x) : Txt.split ((Txt.split (txW ws) "\n").headD "") " " = ws ∧ (Txt.split (txW ws) "\n").length = 1 := by
  have hl : (10 : Nat) ∉ (txW ws).cps.toList := fun hc => by
    rcases join_sign hc with q | ⟨x, hx, q⟩
    · exact absurd q (by decide +kernel)
    · exact ((h x hx).2 10 q).2 rfl
  rw [split_one hl]
  refine ⟨?_, rfl⟩
  show Txt.split (txW ws) " " = ws
  have e := TL.split_join (y := " ") (s := 32) (S := []) (by decide +kernel) (by decide +kernel) (parts := ws) hn (fun p hp hc => ((h p hp).2 32 hc).1 rfl)
  rw [TL.join_eq] at e
  exact e
theorem joinL_cons {S p : List Nat} {l : List (List Nat)} (h : l ≠ []) : TL.joinL S (p :: l) = p ++ (S ++ TL.joinL S l) := by
  cases l with
  | nil => exact absurd rfl h
  | cons q r => rfl
theorem joinL_app {S : List Nat} : ∀ {W R : List (List Nat)}, W ≠ [] → R ≠ [] → TL.joinL S (W ++ R) = TL.joinL S W ++ (S ++ TL.joinL S R)
  | [], _, h, _ => absurd rfl h
  | [p], R, _, hR => by
    show TL.joinL S (p :: R) = p ++ _
    rw [joinL_cons hR]
  | p :: q :: W, R, _, hR => by
    show TL.joinL S (p :: (q :: W ++ R)) = _
    rw [joinL_cons (by simp), joinL_cons (by simp), joinL_app (by simp) hR]
    simp [List.append_assoc]
theorem joinL_mid {S : List Nat} {W : List (List Nat)} (hW : W ≠ []) : ∀ {A R : List (List Nat)}, TL.joinL S (A ++ TL.joinL S W :: R) = TL.joinL S (A ++ (W ++ R))
  | [], [] => by simp [TL.joinL]
  | [], r :: R => by
    show TL.joinL S (TL.joinL S W :: (r :: R)) = TL.joinL S (W ++ (r :: R))
    rw [joinL_cons (by simp), joinL_app hW (by simp)]
  | a :: A, R => by
    show TL.joinL S (a :: (A ++ TL.joinL S W :: R)) = TL.joinL S (a :: (A ++ (W ++ R)))
    rw [joinL_cons (by simp), joinL_cons (by simp [hW]), joinL_mid hW]
theorem join_mid {W A R : List Str} (hW : W ≠ []) : txW (A ++ txW W :: R) = txW (A ++ (W ++ R)) := by
  refine TL.ext_tl ?_
  unfold txW
  rw [TL.tl_join, TL.tl_join, List.map_append, List.map_cons, TL.tl_join, List.map_append, List.map_append]
  exact joinL_mid (by simpa using hW)
theorem joinL_len {S : List Nat} (hS : S.length ≤ 1) {n : Nat} : ∀ {W : List (List Nat)}, (∀ p ∈ W, p.length ≤ n) → (TL.joinL S W).length ≤ W.length * (n + 1)
  | [], _ => by simp [TL.joinL]
  | [p], h => by have := h p (.head _); show p.length ≤ 1 * (n + 1); omega
  | p :: q :: W, h => by
    have h1 := h p (.head _)
    have h2 := joinL_len hS (W := q :: W) (fun y hy => h y (.tail _ hy))
    rw [joinL_cons (by simp), List.length_append, List.length_append]
    have e : (p :: q :: W).length * (n + 1) = (q :: W).length * (n + 1) + (n + 1) := by rw [List.length_cons, Nat.add_one_mul]
    rw [e]; omega
theorem txW_len {W : List Str} {n : Nat} (h : ∀ x ∈ W, x.length ≤ n) : (txW W).length ≤ W.length * (n + 1) := by
  rw [TL.len_tl]
  unfold txW
  rw [TL.tl_join]
  have := joinL_len (S := TL.tl " ") (by decide +kernel) (W := W.map TL.tl) (n := n) (fun p hp => by
    obtain ⟨x, hx, rfl⟩ := List.mem_map.mp hp
    rw [← TL.len_tl]; exact h x hx)
  rwa [List.length_map] at this
/-- what a duty's text tells -/
theorem text_tells {D : Dt} (h : OkD D) (hn : npl D ≤ 4) (hd : dep D ≤ 4) : (txW (wdD D)).length < 50000 ∧ (∀ y ∈ Txt.split ((Txt.split (txW (wdD D)) "\n").headD "") " ", gd (.str y) = true) ∧ readT (Txt.split ((Txt.split (txW (wdD D)) "\n").headD "") " ") (Txt.split (txW (wdD D)) "\n").length = .ok (dtD D) := by
  have hw := wd_wdD h
  have hl := wdD_len h
  obtain ⟨e1, e2⟩ := split_words (wdD_ne D) hw
  rw [e1, e2]
  refine ⟨?_, fun y hy => as_gd (hw y hy).1 (by decide), read_back h hn hd⟩
  have := txW_len (n := 12) fun x hx => (hw x hx).1.2
  omega
/-! ### duties as data -/
theorem noLs_app : ∀ (xs ys : List PyData), noLs (xs ++ ys) = (noLs xs && noLs ys)
  | [], ys => by simp [noLs]
  | x :: xs, ys => by simp [noLs, noLs_app xs ys, Bool.and_assoc]
theorem plD_noL (p : Pl) : noL (plD p) = true := by
  cases p with
  | call w => simp [plD, noL, noLs]
  | answer a b => simp [plD, noL, noLs]
  | many k w => simp [plD, noL, noLs, noLs_strs]
theorem dtD_noL : ∀ (D : Dt), noL (dtD D) = true
  | .pl p => plD_noL p
  | .jn al a b => by simp [dtD, noL, noLs, dtD_noL a, dtD_noL b]
theorem plD_lay {p : Pl} (h : OkP p) : (plD p).canLay0 = true := by
  have k := gd_lay (as_gd (wd_kind p).1 (by decide))
  have n : ∀ x ∈ nmP p, (PyData.str x).canLay0 = true := fun x hx => gd_lay (as_gd (h.as x hx) (by decide))
  have := plainD_ok k n (by intro z; have := h.len.1; rw [z] at this; cases this)
  rw [(kind_facts h).2.2.2.2.2] at this
  exact this.1
theorem dtD_lay : ∀ {D : Dt}, OkD D → (dtD D).canLay0 = true
  | .pl p, h => plD_lay h
  | .jn al a b, h => by
    have h1 := dtD_lay h.1
    have h2 := dtD_lay h.2
    have h0 : (PyData.str (jnS al)).canLay0 = true := by cases al <;> decide +kernel
    simp only [dtD, PyData.canLay0, PyData.canLayAll0, Bool.and_eq_true] at h0 ⊢
    exact ⟨h0, ⟨h1, h2, trivial⟩, trivial⟩
end Ag

set_option Elab.async false
set_option linter.all false
set_option maxRecDepth 100000
set_option maxHeartbeats 1000000
set_option pp.maxSteps 400
namespace Ag
open PySem PySem.Spec PyProof.Rows L2 LamX
theorem same_upd {H H' : Hp} {a : Addr} {o : HO} (s : Same H H') (h : H a = none) : Same H (upd H' a o) := fun b u e => by
  rw [upd_ne (ne_of_none e h)]; exact s _ _ e
theorem keepT_lst {H : Hp} {a : Addr} {us : List V} {o : HO} (h : H a = some (.lst us)) : KeepT H (upd H a o) := fun b u e t => by
  rw [upd_ne (fun q => by rw [q, h] at e; cases e; cases t)]; exact e
theorem run_fmtI {K : PySem.W.Frag} {σ : L2.St} {F : Addr → Prop} {H : Hp} {te : TE} {ts : List TE} {acc : Str} {i : Int} {Q : Str → Hp → Prop} (h : ED K te σ F H (.int i)) (hi : i.natAbs.log2 < 1920) (k : ∀ H1, Same H H1 → (acc ++ (toString i : Str)).length ≤ sizeLine ∧ tJs ts (acc ++ (toString i : Str)) σ H1 Q) : tJs (tFmt te :: ts) acc σ H Q :=
  h H (Same.refl _) _ fun v H1 s1 hv => by
    cases hv
    exact .inr ⟨i, rfl, hi, _, rfl, k H1 s1⟩
theorem sum_len {n : Nat} : ∀ {l : List Str}, (∀ x ∈ l, x.length ≤ n) → (l.map (·.length)).sum ≤ l.length * n
  | [], _ => by simp
  | x :: l, h => by
    have h1 := h x (.head _)
    have h2 := sum_len (l := l) fun y hy => h y (.tail _ hy)
    rw [List.map_cons, List.sum_cons, List.length_cons, Nat.add_one_mul]; omega
end Ag

set_option Elab.async false
set_option linter.all false
set_option maxRecDepth 100000
set_option maxHeartbeats 1000000
set_option pp.maxSteps 400
namespace Ag
open PySem PySem.Spec PyProof.Rows L2
section
variable {K : PySem.W.Frag} {σ : L2.St} {F : Addr → Prop} {H : Hp} {te ta tb : TE} {xs : List Str}
theorem el_listOf (h : ED K te σ F H (.tuple (xs.map .str))) : EL (tCB (fun xs H Q => ∃ p ys, xs = [.ref p] ∧ (SqL K H p ys ∨ SqT K H p ys) ∧ ∀ l, H l = none → Q (.ref l) (upd H l (.lst ys))) (tCons te tNil)) σ H xs := fun H1 s Q q =>
  h H1 s _ fun v H2 s2 hv => by
    cases hv with
    | tup ht r =>
      have e := strs_dps (dfs_dps r)
      subst e
      exact ⟨_, _, rfl, .inr ht, fun l hn => q l _ (s2.trans (Same.newA hn)) upd_same⟩
theorem el_listOfL (h : ED K te σ F H (.list (xs.map .str))) : EL (tCB (fun xs H Q => ∃ p ys, xs = [.ref p] ∧ (SqL K H p ys ∨ SqT K H p ys) ∧ ∀ l, H l = none → Q (.ref l) (upd H l (.lst ys))) (tCons te tNil)) σ H xs := fun H1 s Q q =>
  h H1 s _ fun v H2 s2 hv => by
    cases hv with
    | lst ht r =>
      have e := strs_dps (dfs_dps r)
      subst e
      exact ⟨_, _, rfl, .inl (ht.imp (fun z => z.1) id), fun l hn => q l _ (s2.trans (Same.newA hn)) upd_same⟩
theorem el_ifT {t : TT} (h : ET t σ H true) (h1 : EL ta σ H xs) : EL (tIf t ta tb) σ H xs := fun H1 s Q q => h H1 s _ fun H2 s2 => h1 H2 (s.trans s2) _ fun p H3 s3 hp => q p H3 (s2.trans s3) hp
theorem el_ifF {t : TT} (h : ET t σ H false) (h1 : EL tb σ H xs) : EL (tIf t ta tb) σ H xs := fun H1 s Q q => h H1 s _ fun H2 s2 => h1 H2 (s.trans s2) _ fun p H3 s3 hp => q p H3 (s2.trans s3) hp
theorem el_rep {n : Nat} (ha : EL ta σ H xs) (hb : ED K tb σ F H (.int (n : Nat))) (hn : n ≤ 1000) (hl : xs.length ≤ 50) : EL (tOp rRep ta tb) σ H (List.replicate n xs).flatten := fun H1 s Q q =>
  ha H1 s _ fun p H2 s2 hp => hb H2 (s.trans s2) _ fun b H3 s3 hb3 => by
    cases hb3
    have hm : xs.length * n ≤ 50 * 1000 := Nat.mul_le_mul hl hn
    refine ⟨p, (n : Int), _, rfl, rfl, s3 _ _ hp, by omega, by omega, ?_, fun l hn => q l _ ((s2.trans s3).trans (Same.newA hn)) ?_⟩
    · rw [List.length_map, Int.toNat_natCast]; exact small5 (by omega)
    · rw [upd_same, Int.toNat_natCast]
      show some (HO.lst (List.replicate n (xs.map V.str)).flatten) = some (HO.lst ((List.replicate n xs).flatten.map V.str))
      rw [List.map_flatten, List.map_replicate]
theorem run_el_ret {D : Ends} (h : EL te σ H xs) (k : ∀ p H1, Same H H1 → H1 p = some (.lst (xs.map V.str)) → D.rt (.ref p) H1) : tRet te D σ H := h H (Same.refl _) _ k
theorem run_el_set {i : Nat} {D : Ends} (h : EL te σ H xs) (k : ∀ p H1, Same H H1 → H1 p = some (.lst (xs.map V.str)) → D.nx (σ.set i (some (.ref p))) H1) : tAsg te (gName i) D σ H := h H (Same.refl _) _ k
theorem run_lcr {n i : Nat} {g : TG} {tt : TT} {te2 : TE} {vs : List Nat} {D : Ends} (h : ED K te σ F H (.int (n : Nat))) (hn : n ≤ 100000) (k : ∀ H2, Same H H2 → tAsg (tLc (fun _ H R => R (Itr 0 n) H) g tt te2 vs) (gName i) D σ H2) : tAsg (tLc (iRng1 (tCons te tNil)) g tt te2 vs) (gName i) D σ H := h H (Same.refl _) _ fun v H2 s2 hv => by
  cases hv
  refine ⟨_, rfl, by omega, by omega, ?_⟩
  rw [Int.toNat_natCast]
  exact k H2 s2
end
section
variable {P : Program} {w : World} {K : PySem.W.Frag} {mg : Str → Option Value} {base : Heap} (T : Txt w K mg)
def spPN (K : PySem.W.Frag) : Sp := fun vs H Q _ => ∃ v p, vs = [v] ∧ Dp K H v (plD p) ∧ OkP p ∧ ∀ l H', Same H H' → H' l = some (.lst ((nmP p).map V.str)) → Q (.ref l) H'
theorem ok_plain_names : FnOk P w K mg base CX0 1 T.a_law_plain_names T.d_law_plain_names ["duty"] (spPN K) := by
  refine T.D_law_plain_names.fn.ok sc_law_plain_names (fun vs H Q E h => ?_) (fun cdv A outer s H vs Q E hr h => ?_)
  · obtain ⟨v, p, rfl, _⟩ := h; rfl
  · obtain ⟨v, p, rfl, hv, ok, k⟩ := h
    refine ⟨_, (pss_one (ps_ret (pe_ifExp (pt_cmpR op_eq (pe_ix ix_seq (pv 0) pe_int (fun _ _ => rfl)) pe_str (nomark _)) (pe_lst (pa_cons (pe_ix ix_seq (pv 0) pe_int (fun _ _ => rfl)) pa_nil)) (pe_ifExp (pt_cmpR op_eq (pe_ix ix_seq (pv 0) pe_int (fun _ _ => rfl)) pe_str (nomark _)) (pe_callTy call_list_of (by rfl) T.b_list bt_list (pa_cons (pe_slice sl_tupA (pv 0) (po_some pe_int) po_none) pa_nil)) (pe_callTy call_list_of (by rfl) T.b_list bt_list (pa_cons (pe_ix ix_seq (pv 0) pe_int (fun _ _ => rfl)) pa_nil)))))), ?_⟩
    have var : ED K (tVar 0) (start ["duty"] [v]) (nn H) H (plD p) := ed_var rfl (dp_df hv)
    have l4 := ok.len
    cases p with
    | call c =>
      exact run_el_ret (el_ifT (et_is (et_test (ed_eqS (ed_ixT (j := 0) (d := .str "call") var ed_int rfl) (ed_str (x := "call")))) (by decide)) (el_lst (xs := [c]) (K := K) (F := nn H) (ea_cons (ed_ixT (j := 1) (d := .str c) var ed_int rfl) ea_nil) (by show 1 ≤ 100000; decide))) k
    | answer a b =>
      refine run_el_ret (el_ifF (et_is (et_test (ed_eqS (ed_ixT (j := 0) (d := .str "answer") var ed_int rfl) (ed_str (x := "call")))) (by decide)) (el_ifT (et_is (et_test (ed_eqS (ed_ixT (j := 0) (d := .str "answer") var ed_int rfl) (ed_str (x := "answer")))) (by decide)) (el_listOf (xs := [a, b]) (K := K) (F := nn H) (ed_is (ed_slT var (eo_some (K := K) (F := nn H) (ed_int (i := 1))) eo_none) ?_)))) k
      rfl
    | many kd ws =>
      have n1 : decide (kdS kd = "call") = false := by cases kd <;> decide
      have n2 : decide (kdS kd = "answer") = false := by cases kd <;> decide
      exact run_el_ret (el_ifF (et_is (et_test (ed_eqS (ed_ixT (j := 0) (d := .str (kdS kd)) var ed_int rfl) (ed_str (x := "call")))) n1) (el_ifF (et_is (et_test (ed_eqS (ed_ixT (j := 0) (d := .str (kdS kd)) var ed_int rfl) (ed_str (x := "answer")))) n2) (el_listOf (xs := ws) (K := K) (F := nn H) (ed_ixT (j := 1) (d := .tuple (ws.map .str)) var ed_int rfl)))) k
theorem el_call {K : PySem.W.Frag} {σ : L2.St} {F : Addr → Prop} {H : Hp} {sp : Sp} {E : XK} {ta : TA} {ds : List PyData} {xs : List Str} (h : EA K ta σ F H ds) (hr : ∀ F vs H1, DfAll K F H1 vs ds → ∀ Q : VK, (∀ p H2, Same H1 H2 → H2 p = some (.lst (xs.map V.str)) → Q (.ref p) H2) → sp vs H1 Q E) : EL (tCall sp [] E ta) σ H xs := fun H1 s Q q =>
  h H1 s _ fun vs H2 s2 hv => by
    show sp (vs ++ []) H2 Q E
    rw [List.append_nil]
    exact hr _ vs H2 hv Q fun p H3 s3 hp => q p H3 (s2.trans s3) hp
theorem pl_kind (p : Pl) : ∃ rest, plD p = .tuple (.str (kindS p) :: rest) := by cases p <;> exact ⟨_, rfl⟩
theorem kind_joint (p : Pl) : decide (kindS p ∈ (["all", "any"] : List Str)) = false := by
  refine decide_eq_false ?_
  cases p with
  | call c => dsimp only [kindS]; decide
  | answer a b => dsimp only [kindS]; decide
  | many k ws => cases k <;> (dsimp only [kindS, kdS]; decide)
theorem ed_strI {K : PySem.W.Frag} {σ : L2.St} {F : Addr → Prop} {H : Hp} {te : TE} {i : Int} (h : ED K te σ F H (.int i)) (hi : i.natAbs.log2 < 1920) : ED K (tCB (fun xs H Q => ∃ i : Int, xs = [.int i] ∧ i.natAbs.log2 < 1920 ∧ Q (.str (toString i)) H) (tCons te tNil)) σ F H (.str (toString i : Str)) := fun H1 s Q q =>
  h H1 s _ fun v H2 s2 hv => by
    cases hv
    exact ⟨i, rfl, hi, q _ H2 s2 (.str _)⟩
/-- the words of a duty's text -/
def spDW (K : PySem.W.Frag) (n : Nat) : Sp := fun vs H Q _ => ∃ v d, vs = [v] ∧ Dp K H v (dtD d) ∧ dep d ≤ n ∧ OkD d ∧ (wdD d).length ≤ 1000 ∧ ∀ l H', Same H H' → H' l = some (.lst ((wdD d).map V.str)) → Q (.ref l) H'
theorem step_dw (m n : Nat) {spR : Sp} (hm : 1 ≤ m) (G_law_duty_words : FnOk P w K mg base CX0 m T.a_law_duty_words T.d_law_duty_words ["duty"] spR) (hR : ∀ vs H Q E, n ≠ 0 → spDW K (n - 1) vs H Q E → spR vs H Q E) :
    FnOk P w K mg base CX0 (m + 1) T.a_law_duty_words T.d_law_duty_words ["duty"] (spDW K n) := by
  have G_law_plain_names := ok_plain_names (P := P) (base := base) T
  refine T.D_law_duty_words.fn.ok sc_law_duty_words (fun vs H Q E h => ?_) (fun cdv A outer s H vs Q E hr h => ?_)
  · obtain ⟨v, d, rfl, _⟩ := h; rfl
  · obtain ⟨v, d, rfl, hv, hn, hok, hlen, k⟩ := h
    refine ⟨_, (pss_cons (ps_if (pt_cmpR op_notIn_seq (pe_ix ix_seq (pv 0) pe_int (fun _ _ => rfl)) (pe_lst (pa_cons pe_str (pa_cons pe_str pa_nil))) (by rfl)) (pss_one (ps_ret (pe_op op_cat (pe_op op_cat (pe_lst (pa_cons (pe_ix ix_seq (pv 0) pe_int (fun _ _ => rfl)) pa_nil)) (pe_call (G_law_plain_names) (hr.mono (by omega)) (by rfl) T.D_law_plain_names.mg T.D_law_plain_names.fn.kp T.D_law_plain_names.bd .nil pass0 (pa_cons (pv 0) pa_nil))) (pe_lst (pa_cons pe_str pa_nil))))) pss_nil)
      (pss_cons (ps_set (i := 1) sc_law_duty_words.nd rfl (by first | exact Or.inl rfl | exact Or.inr rfl) (pe_lst (pa_cons (pe_ix ix_seq (pv 0) pe_int (fun _ _ => rfl)) (pa_cons (pe_callTy call_str_int (by rfl) T.b_str bt_str (pa_cons (pe_callB call_len (by rfl) T.b_len bt_len (pa_cons (pe_ix ix_seq (pv 0) pe_int (fun _ _ => rfl)) pa_nil)) pa_nil)) pa_nil))))
      (pss_cons (ps_for PassesOwn.never rfl (pi_tup (pe_ix ix_seq (pv 0) pe_int (fun _ _ => rfl))) (pg_name (i := 2) sc_law_duty_words.nd rfl (by first | exact Or.inl rfl | exact Or.inr rfl)) (pss_one (ps_set (i := 1) sc_law_duty_words.nd rfl (by first | exact Or.inl rfl | exact Or.inr rfl) (pe_op op_cat (pv 1) (pe_call (G_law_duty_words) (hr.mono (by omega)) (by rfl) T.D_law_duty_words.mg T.D_law_duty_words.fn.kp T.D_law_duty_words.bd .nil pass0 (pa_cons (pv 2) pa_nil))))))
      (pss_one (ps_ret (pv 1)))))), ?_⟩
    have jl : ∀ H1, ED K (tLst (tCons (tC (.str "all")) (tCons (tC (.str "any")) tNil))) (start ["duty", "found", "part"] [v]) (nn H) H1 (.list ((["all", "any"] : List Str).map .str)) := fun H1 => ed_lst (ea_cons ed_str (ea_cons ed_str ea_nil)) (by show 2 ≤ 100000; decide)
    cases d with
    | pl p =>
      obtain ⟨rest, e⟩ := pl_kind p
      have hv : Dp K H v (plD p) := hv
      have h4 := hok.len.2
      have h4 : (nmP p).length ≤ 4 := h4
      have k0 : ∀ H1, Same H H1 → ED K (tOp (rIx K) (tVar 0) (tC (.int 0))) (start ["duty", "found", "part"] [v]) (nn H) H1 (.str (kindS p)) := fun H1 s1 => ed_ixT (j := 0) (ds := .str (kindS p) :: rest) (ed_var rfl (df_mono s1 (fun _ z => z) (dp_df (e ▸ hv)))) ed_int rfl
      refine s_if (b := true) (et_is (et_test (ed_notInSeq (k0 H (Same.refl _)) (jl H) (.inr rfl))) (by rw [kind_joint]; rfl)) (fun _ H1 s1 => ?_) (fun h => nomatch h)
      have hv1 := dp_mono s1 hv
      refine run_el_ret (el_cat (el_cat (el_lst (xs := [kindS p]) (ea_cons (k0 H1 s1) ea_nil) (by show 1 ≤ 100000; decide)) (el_call (K := K) (F := nn H1) (ds := [plD p]) (xs := nmP p) (ea_cons (ed_var rfl (dp_df hv1)) ea_nil) fun F vs H2 hvs Q q => ?_) (by show 1 + _ ≤ _; omega)) (el_lst (K := K) (F := nn H1) (xs := [(";" : Str)]) (ea_cons (ed_str (x := ";")) ea_nil) (by show 1 ≤ 100000; decide)) (by rw [List.length_append]; show 1 + _ + 1 ≤ _; omega)) fun p2 H2 s2 hp2 => ?_
      · obtain _ | ⟨h1, hvs⟩ := hvs
        cases hvs
        exact ⟨_, p, rfl, df_dp h1, hok, q⟩
      · refine k p2 H2 (s1.trans s2) ?_
        rw [hp2]; rfl
    | jn al a b =>
      have hn : max (dep a) (dep b) + 1 ≤ n := hn
      have hl2 : (wdD a).length + (wdD b).length + 2 ≤ 1000 := by
        have e : (wdD (.jn al a b)).length = _ := rfl
        have : (jnS al :: ("2" : Str) :: (wdD a ++ wdD b)).length ≤ 1000 := hlen
        rw [List.length_cons, List.length_cons, List.length_append] at this; omega
      have hj : decide (jnS al ∈ (["all", "any"] : List Str)) = true := by cases al <;> decide
      have hv : Dp K H v (.tuple [.str (jnS al), .tuple [dtD a, dtD b]]) := hv
      have var : ∀ H1, Same H H1 → ED K (tVar 0) (start ["duty", "found", "part"] [v]) (nn H) H1 (.tuple [.str (jnS al), .tuple [dtD a, dtD b]]) := fun H1 s1 => ed_var rfl (df_mono s1 (fun _ z => z) (dp_df hv))
      refine s_if (b := false) (et_is (et_test (ed_notInSeq (ed_ixT (j := 0) (d := .str (jnS al)) (var H (Same.refl _)) ed_int rfl) (jl H) (.inr rfl))) (by rw [hj]; rfl)) (fun h => nomatch h) (fun _ H1 s1 => ?_)
      obtain ⟨av, pa, va, vb, rfl, hs1, hs2, ha, hb⟩ : ∃ av pa va vb, v = .ref av ∧ SqT K H av [.str (jnS al), .ref pa] ∧ SqT K H pa [va, vb] ∧ Dp K H va (dtD a) ∧ Dp K H vb (dtD b) := by
        cases hv with
        | tup hs r =>
          obtain _ | ⟨h1, r⟩ := r
          obtain _ | ⟨h2, r⟩ := r
          cases r; cases h1
          cases h2 with
          | tup hs2 r2 =>
            obtain _ | ⟨g1, r2⟩ := r2
            obtain _ | ⟨g2, r2⟩ := r2
            cases r2
            exact ⟨_, _, _, _, rfl, hs, hs2, g1, g2⟩
      have e2 : (toString (2 : Int) : Str) = "2" := by decide +kernel
      refine run_el_set (el_lst (xs := [jnS al, (toString (2 : Int) : Str)]) (ea_cons (ed_ixT (j := 0) (d := .str (jnS al)) (var H1 s1) ed_int rfl) (ea_cons (ed_strI (i := 2) (ed_len (ed_ixT (j := 1) (d := .tuple [dtD a, dtD b]) (var H1 s1) ed_int rfl) rfl) (by decide +kernel)) ea_nil)) (by show 2 ≤ 100000; decide)) fun l0 H2 s12 el0 => ?_
      have s2 := s1.trans s12
      rw [e2] at el0
      refine ⟨_, rfl, .inr (.inl ⟨_, _, _, _, rfl, rfl, s2.stA hs1, rfl, pa, rfl, ⟨_, s2.stA hs2⟩, for_tup (K := K) (a := pa) (xs := [va, vb]) (fun i σ' H' => ∃ o2 l, σ' = [some (.ref av), some (.ref l), o2] ∧ Same H H' ∧ H' l = some (.lst ((jnS al :: ("2" : Str) :: ([a, b].take i).flatMap wdD).map V.str))) ⟨none, l0, rfl, s2, el0⟩ (fun i σ' H' _ p => by obtain ⟨_, _, _, z, _⟩ := p; exact z.stA hs2) ?_ ?_⟩)⟩
      · rintro i x σ' H' hi ⟨o2, l, rfl, s3, el⟩
        have key : ∀ (c : Dt), dep c ≤ n - 1 → OkD c → (wdD c).length ≤ 1000 → (([a, b].take i).flatMap wdD).length ≤ 1000 → Dp K H x (dtD c) → (([a, b].take (i + 1)).flatMap wdD) = (([a, b].take i).flatMap wdD) ++ wdD c →
            spR [x] H' (fun y H4 => rCat (.ref l) y H4 fun z H5 => ∃ o2 l, [some (V.ref av), some z, some x] = [some (.ref av), some (.ref l), o2] ∧ Same H H5 ∧ H5 l = some (.lst ((jnS al :: ("2" : Str) :: ([a, b].take (i + 1)).flatMap wdD).map V.str))) E0 := by
          intro c hd hok hcl hul hx2 hap
          refine hR _ _ _ _ (by omega) ⟨x, c, rfl, dp_mono s3 hx2, hd, hok, hcl, fun l2 H4 s4 el2 => ?_⟩
          refine ⟨l, l2, _, _, rfl, rfl, s4 _ _ el, el2, small5 (by rw [List.length_map, List.length_map, List.length_cons, List.length_cons]; omega), fun l3 hl3 => ⟨_, l3, rfl, (s3.trans s4).trans (Same.newA hl3), ?_⟩⟩
          rw [upd_same, hap, ← List.map_append]; rfl
        refine ⟨_, rfl, _, rfl, ?_⟩
        match i, hi with
        | 0, hi => cases hi; exact key a (by omega) hok.1 (by omega) (by show 0 ≤ 1000; decide) ha (by simp)
        | 1, hi => cases hi; exact key b (by omega) hok.2 (by omega) (by simp; omega) hb (by simp)
      · rintro σ' H' ⟨o2, l, rfl, s3, el⟩
        refine ⟨_, rfl, k l H' s3 ?_⟩
        have e : (([a, b].take [va, vb].length).flatMap wdD) = wdD a ++ wdD b := by
          show [a, b].flatMap wdD = wdD a ++ wdD b
          simp
        rw [e] at el; exact el
theorem ok_duty_words : ∀ n : Nat, FnOk P w K mg base CX0 (n + 3) T.a_law_duty_words T.d_law_duty_words ["duty"] (spDW K n)
  | 0 => step_dw T 2 0 (by omega) (no_ok (P := P) (w := w) (base := base) 1 T.D_law_duty_words sc_law_duty_words) fun vs H Q E h => absurd rfl h
  | n + 1 => step_dw T (n + 3) (n + 1) (by omega) (ok_duty_words n) fun vs H Q E _ h => h
end
end Ag

set_option Elab.async false
set_option linter.all false
set_option maxRecDepth 100000
set_option maxHeartbeats 1000000
set_option pp.maxSteps 400
/-! What the law's own body needs. -/
namespace Ag
open PySem PySem.Spec PyProof.Rows L2 LamX
theorem xw_line : (("line" : Str) == ("word" : Str)) = false := by decide +kernel
theorem xd_word {l s : Int} : ([("word", V.int s), ("line", V.int l)] : List (Str × V)).lookup ("word" : Str) = some (V.int s) := rfl
theorem xd_line {l s : Int} : ([("word", V.int s), ("line", V.int l)] : List (Str × V)).lookup ("line" : Str) = some (V.int l) := by
  rw [List.lookup_cons, xw_line]; rfl
/-- what is caught here: a BadText, told as a list; else None -/
def eWhy (B : Addr) (Q : VK) : XK := fun cls d H => ∃ (l s : Int) (dx : Addr), cls = .ref B ∧ d = some dx ∧ H dx = some (.xd [("word", .int s), ("line", .int l)]) ∧ ∀ p H2, Same H H2 → H2 p = some (.lst [.str "text", .int l, .int s]) → Q (.ref p) H2
def TWhy (B : Addr) : (XK → Hp → VK → Prop) → Hp → VK → Prop := fun tl H Q => ∀ Q' : VK, (∀ v H', Q .non H' → Q' v H') → tl (eWhy B Q) H Q'
theorem exm_self {K : PySem.W.Frag} {C : Addr} (x : XfC K C) (o : OexC K C) (s : PySem.W.subIn K (.ref C) (.ref C) = some true) : PySem.W.exmOne K (.ref C) (.ref C) = some true := PySem.W.exm_ref x.exC x.hdC o.tyC s
def tsNo : Addr → Value → Option Addr → TS := fun _ _ _ _ _ _ => False
theorem why_gives {X : Cx} (T : Txt X.w X.K X.mg) {g : Addr} {cdg : Value} {q : Str} :
    GivesTo X ["call", "found", "error"] "_law_why" (defScope s_law_why) g cdg (defBody s_law_why) "call" q (TWhy T.C_BadText) := by
  intro f c' s H Q tl act hc h
  refine ⟨_, pss_cons (ps_set (i := 1) sc_law_why.nd rfl (.inl rfl) pe_non) (pss_cons (ps_try_named
    (l := [⟨.ref T.C_BadText, 2, fun a c d => tAsg (tLst (tCons (tC (.str "text")) (tCons (tXf a c d T.C_BadText "line" (tVar 2)) (tCons (tXf a c d T.C_BadText "word" (tVar 2)) tNil)))) (gName 1)⟩, ⟨.ref T.C_BadNumber, 2, tsNo⟩, ⟨.ref T.C_BadRow, 2, tsNo⟩, ⟨.ref T.C_NoName, 2, tsNo⟩, ⟨.ref T.C_Unlike, 2, tsNo⟩, ⟨.ref T.C_TooMany, 2, tsNo⟩])
    (tb := fun W D σ H => ∃ Ech : XK, (∀ cls d σ' H', Ech cls d H' → W cls d σ' H') ∧ σ[0]? = some (some (.ref f)) ∧ H c' = some (CodeO c' q) ∧ tl Ech H (fun _ H' => D.nx σ H'))
    rfl rfl sc_law_why.nd LamX.takes0 (fun W pn xe tk _ => ?body)
    (.cons ⟨by rfl, by decide, .inl T.g_BadText⟩ rfl rfl (fun a oe c d pn hz hf => pss_one (ps_set (i := 1) sc_law_why.nd rfl (.inl rfl) (pe_lst (pa_cons pe_str (pa_cons (pe_xf (X := (cxOf C8.CX0 X.prog X.w X.K X.mg X.base ["call", "found", "error"] "_law_why" (defScope s_law_why) g cdg X.A X.stack s H C8.E0).nox) T.xf_BadText T.na_BadText_line hz hf (pv 2)) (pa_cons (pe_xf (X := (cxOf C8.CX0 X.prog X.w X.K X.mg X.base ["call", "found", "error"] "_law_why" (defScope s_law_why) g cdg X.A X.stack s H C8.E0).nox) T.xf_BadText T.na_BadText_word hz hf (pv 2)) pa_nil))))))
    (.cons ⟨by rfl, by decide, .inl T.g_BadNumber⟩ rfl rfl (fun a oe c d pn hz hf => pss_never)
    (.cons ⟨by rfl, by decide, .inl T.g_BadRow⟩ rfl rfl (fun a oe c d pn hz hf => pss_never)
    (.cons ⟨by rfl, by decide, .inl T.g_NoName⟩ rfl rfl (fun a oe c d pn hz hf => pss_never)
    (.cons ⟨by rfl, by decide, .inl T.g_Unlike⟩ rfl rfl (fun a oe c d pn hz hf => pss_never)
    (.cons ⟨by rfl, by decide, .inl T.g_TooMany⟩ rfl rfl (fun a oe c d pn hz hf => pss_never) .nil))))))) (pss_one (ps_ret (pv 1)))), ?_⟩
  case body =>
    refine ⟨fun pins s' σ H' D I h' => ?_⟩
    obtain ⟨Ech, hW, h1, h2, h3⟩ := h'
    exact (pss_one (ps_expr (act W pn xe Ech _ _ tk hW))).run pins s' σ H' D I ⟨h1, h2, h3⟩
  · refine ⟨eWhy T.C_BadText Q, fun cls d σ' H' he => ?_, rfl, hc, h _ fun v H' q => ⟨_, rfl, q⟩⟩
    obtain ⟨l, s', dx, rfl, rfl, hdx, k⟩ := he
    refine ⟨true, exm_self T.xf_BadText T.ox_BadText T.sb_BadText, fun _ hl a ha => ?_, fun h => nomatch h⟩
    have hl : σ'.length = 3 := hl
    have e2 : (σ'.set 2 (some (V.ref a)))[2]? = some (some (.ref a)) := List.getElem?_set_self (by omega)
    refine ⟨_, e2, rfl, rfl, dx, _, _, rfl, hdx, xd_line, _, e2, rfl, rfl, dx, _, _, rfl, hdx, xd_word, (by show 3 ≤ sizeLine; decide), fun p hp => ?_⟩
    refine ⟨_, ?_, k p _ (Same.newA hp) upd_same⟩
    show (((σ'.set 2 (some (V.ref a))).set 1 (some (V.ref p))).set 2 none)[1]? = _
    rw [List.getElem?_set_ne (by decide), List.getElem?_set_self (by rw [List.length_set]; omega)]

/-- where a BadText tells to be wrong, or nothing -/
def whyR : Option (Int × Int) → PyData | none => .none | some (l, s) => .list [.str "text", .int l, .int s]
theorem whyR_sh (l s : Int) : SeqAt.shaped (whyR (some (l, s))) = true ∧ PyData.eqv (whyR (some (l, s))) (whyR (some (l, s))) = true := by
  refine ⟨?_, by simp [whyR, PyData.eqv, PyData.eqvAll]⟩
  have e : (whyR (some (l, s))).canLay0 = true := gd_lay (by
    show (gd (.str "text") && (gd (.int l) && (gd (.int s) && true))) && decide (3 ≤ 1000) = true
    rw [as_gd (as_of (n := 20) (by decide +kernel)) (by decide)]; rfl)
  unfold SeqAt.shaped
  rw [e]; simp [whyR, PyData.depth, PyData.depthAll]
section
variable {K : PySem.W.Frag} {σ : L2.St} {H : Hp} {te tv : TE} {B : Addr} {Tb : List (Addr × Str)} {sp : Sp} {v : V} {rr : Option (Int × Int)}
theorem run_why {Q : VK} (tabs : Tabs Tb H) (hte : ∀ H' (Q : VK), Q v H' → te σ H' Q)
    (hp : ∀ H1, ExtN H H1 → Tabs Tb H1 → ∀ (Q' : VK) (E : XK), (rr = none → ∀ u H', ExtN H1 H' → Tabs Tb H' → Q' u H') → (∀ l s, rr = some (l, s) → BadX Tb B l s H1 E) → sp [v] H1 Q' E)
    (k : ∀ u H', ExtN H H' → Tabs Tb H' → Dp K H' u (whyR rr) → Q u H') : tLam Tb (TWhy B) (fun E => tCall sp [] E (tCons te tNil)) σ H Q :=
  ⟨tabs, fun H1 ext T1 Q' hQ' => hte H1 _ (hp H1 ext T1 Q' _ (fun e u H' s' t' => hQ' u H' (k .non H' (ext.trans s') t' (by rw [e]; exact .non)))
    (fun l s e d H' s' t' e' => ⟨l, s, d, rfl, rfl, e', fun p2 H2 s2 hp2 => k (.ref p2) H2 ((ext.trans s').trans (ExtN.of s2)) (t'.ext s2) (by
      rw [e]; exact .lst (.inl (.inl hp2)) (.cons (.str _) (.cons (.int _) (.cons (.int _) .nil))))⟩))⟩
theorem run_retwhy {r : R2} {D : Ends} (tabs : Tabs Tb H) (hte : ∀ H' (Q : VK), Q v H' → te σ H' Q)
    (hp : ∀ H1, ExtN H H1 → Tabs Tb H1 → ∀ (Q' : VK) (E : XK), (rr = none → ∀ u H', ExtN H1 H' → Tabs Tb H' → Q' u H') → (∀ l s, rr = some (l, s) → BadX Tb B l s H1 E) → sp [v] H1 Q' E)
    (k : ∀ u H', ExtN H H' → Tabs Tb H' → Dp K H' u (whyR rr) → tv σ H' fun y H2 => r u y H2 D.rt) :
    tRet (tOp r (tLam Tb (TWhy B) (fun E => tCall sp [] E (tCons te tNil))) tv) D σ H := run_why (K := K) tabs hte hp k
end
/-! ### a duty shown -/
theorem shownAll_strs : ∀ {ws : List Str}, (∀ x ∈ ws, As 12 x) → PyData.showableAll (ws.map .str) = true ∧ (PyData.shownAll (ws.map .str)).length = ws.length ∧ ((PyData.shownAll (ws.map .str)).map (·.length)).sum ≤ 122 * ws.length
  | [], _ => by simp [PyData.showableAll, PyData.shownAll]
  | x :: r, h => by
    obtain ⟨i1, i2, i3⟩ := shownAll_strs fun y hy => h y (List.mem_cons_of_mem _ hy)
    have hx := h x List.mem_cons_self
    have l := StrLaws.reprText_len x fun c hc => by have := hx.1 c hc; omega
    have l2 := hx.2
    have e1 : PyData.shownAll ((x :: r).map .str) = reprText x :: PyData.shownAll (r.map .str) := by
      rw [List.map_cons, PyData.shownAll, PyData.shown]
    refine ⟨?_, ?_, ?_⟩
    · rw [List.map_cons, PyData.showableAll, i1, PyData.showable]; rfl
    · rw [e1, List.length_cons, i2, List.length_cons]
    · rw [e1, List.map_cons, List.sum_cons, List.length_cons]; omega
theorem shown_word {x : Str} (h : As 12 x) : (reprText x).length ≤ 122 := by
  have l := StrLaws.reprText_len x fun c hc => by have := h.1 c hc; omega
  have := h.2; omega
theorem tup_shown {ds : List PyData} {n : Nat} (h : ((PyData.shownAll ds).map (·.length)).sum + 2 * (PyData.shownAll ds).length + 3 ≤ n) : (PyData.tuple ds).shown.length ≤ n := by
  rw [PyData.shown]
  have := tupleText_len_le (PyData.shownAll ds)
  omega
theorem plD_shown {p : Pl} (h : OkP p) : (plD p).showable = true ∧ (plD p).depth ≤ 4 ∧ (plD p).shown.length ≤ 1000 := by
  have hk := shown_word (wd_kind p).1
  have h4 := h.len.2
  cases p with
  | call w =>
    have hw := shown_word (h.as w (.head _))
    refine ⟨by simp [plD, PyData.showable, PyData.showableAll], by simp [plD, PyData.depth, PyData.depthAll], ?_⟩
    refine tup_shown ?_
    simp only [PyData.shownAll, PyData.shown, List.map_cons, List.map_nil, List.sum_cons, List.sum_nil, List.length_cons, List.length_nil]
    have hk : (reprText "call").length ≤ 122 := hk
    omega
  | answer a b =>
    have ha := shown_word (h.as a (.head _))
    have hb := shown_word (h.as b (.tail _ (.head _)))
    refine ⟨by simp [plD, PyData.showable, PyData.showableAll], by simp [plD, PyData.depth, PyData.depthAll], ?_⟩
    refine tup_shown ?_
    simp only [PyData.shownAll, PyData.shown, List.map_cons, List.map_nil, List.sum_cons, List.sum_nil, List.length_cons, List.length_nil]
    have hk : (reprText "answer").length ≤ 122 := hk
    omega
  | many k w =>
    have h4 : w.length ≤ 4 := h4
    obtain ⟨i1, i2, i3⟩ := shownAll_strs (ws := w) h.as
    have sd := strs_depth w
    have inner : (PyData.tuple (w.map .str)).shown.length ≤ 600 := tup_shown (by rw [i2]; omega)
    have hk : (reprText (kdS k)).length ≤ 122 := hk
    refine ⟨?_, ?_, ?_⟩
    · show (PyData.tuple [.str (kdS k), .tuple (w.map .str)]).showable = true
      simp only [PyData.showable, PyData.showableAll, i1]; rfl
    · show (PyData.tuple [.str (kdS k), .tuple (w.map .str)]).depth ≤ 4
      simp only [PyData.depth, PyData.depthAll]; omega
    · refine tup_shown ?_
      have e : PyData.shownAll [.str (kdS k), .tuple (w.map .str)] = [reprText (kdS k), (PyData.tuple (w.map .str)).shown] := by
        simp only [PyData.shownAll, PyData.shown]
      rw [e]
      simp only [List.map_cons, List.map_nil, List.sum_cons, List.sum_nil, List.length_cons, List.length_nil]
      omega
theorem dtD_shown : ∀ {D : Dt}, OkD D → (dtD D).showable = true ∧ (dtD D).depth ≤ 4 * npl D ∧ (dtD D).shown.length + 200 ≤ 1200 * npl D
  | .pl p, h => by
    obtain ⟨i1, i2, i3⟩ := plD_shown h
    refine ⟨i1, i2, ?_⟩
    show (plD p).shown.length + 200 ≤ 1200 * 1
    omega
  | .jn al a b, h => by
    obtain ⟨a1, a2, a3⟩ := dtD_shown h.1
    obtain ⟨b1, b2, b3⟩ := dtD_shown h.2
    have na := npl_pos a
    have nb := npl_pos b
    have hj : (reprText (jnS al)).length ≤ 40 := by cases al <;> decide +kernel
    refine ⟨?_, ?_, ?_⟩
    · show (PyData.tuple [.str (jnS al), .tuple [dtD a, dtD b]]).showable = true
      simp only [PyData.showable, PyData.showableAll, a1, b1]; rfl
    · show (PyData.tuple [.str (jnS al), .tuple [dtD a, dtD b]]).depth ≤ 4 * (npl a + npl b)
      simp only [PyData.depth, PyData.depthAll]; omega
    · have inner : (PyData.tuple [dtD a, dtD b]).shown.length ≤ (dtD a).shown.length + (dtD b).shown.length + 7 := tup_shown (by
        simp only [PyData.shownAll, List.map_cons, List.map_nil, List.sum_cons, List.sum_nil, List.length_cons, List.length_nil]; omega)
      have outer : (PyData.tuple [.str (jnS al), .tuple [dtD a, dtD b]]).shown.length ≤ 40 + ((dtD a).shown.length + (dtD b).shown.length + 7) + 7 := tup_shown (by
        have e : PyData.shownAll [.str (jnS al), .tuple [dtD a, dtD b]] = [reprText (jnS al), (PyData.tuple [dtD a, dtD b]).shown] := by
          simp only [PyData.shownAll, PyData.shown]
        rw [e]
        simp only [List.map_cons, List.map_nil, List.sum_cons, List.sum_nil, List.length_cons, List.length_nil]; omega)
      show (PyData.tuple [.str (jnS al), .tuple [dtD a, dtD b]]).shown.length + 200 ≤ 1200 * (npl a + npl b)
      omega
theorem dep_npl : ∀ D : Dt, dep D + 1 ≤ npl D
  | .pl _ => Nat.le_refl _
  | .jn _ a b => by
    have h1 := dep_npl a
    have h2 := dep_npl b
    show max (dep a) (dep b) + 1 + 1 ≤ npl a + npl b
    omega
end Ag

set_option Elab.async false
set_option linter.all false
set_option maxRecDepth 100000
set_option maxHeartbeats 1000000
set_option pp.maxSteps 400
namespace Ag
open PySem PySem.Spec PyProof.Rows L2
theorem none_left (p : PyData → Bool) (l : List PyData) : (List.filter (fun s => !p s) l).isEmpty = (l.map p).all id := by
  rw [List.all_map, Bool.eq_iff_iff, List.isEmpty_iff, List.filter_eq_nil_iff, List.all_eq_true]
  refine forall_congr' fun a => forall_congr' fun _ => ?_
  show ¬ ((!p a) = true) ↔ p a = true
  cases p a <;> simp
section
variable {P : Program} {w : World} {K : PySem.W.Frag} {mg : Str → Option Value} {base : Heap} (T : Txt w K mg)
theorem ok_law_is_name : FnOk P w K mg base CX0 1 T.a_law_is_name T.d_law_is_name ["value"] (spB K (fun d => gd d = true) isName) := by
  refine T.D_law_is_name.fn.ok sc_law_is_name (fun vs H Q E h => ?_) (fun cdv A outer s H vs Q E hr h => ?_)
  · obtain ⟨v, d, rfl, _⟩ := h; rfl
  · obtain ⟨v, d, rfl, hv, hd, k⟩ := h
    refine ⟨_, (pss_cons (ps_if (PW.pt (pw_or (pt_not (pt_val (pe_callB call_isi (by rfl) T.b_isinstance bt_isinstance (pa_cons (pv 0) (pa_cons (pe_bltn (v := .ty "str") (by rfl) T.b_str bt_str rfl) pa_nil))))) (pw_or (pt_not (pt_chain op_le op_le pe_int (pe_callB call_len (by rfl) T.b_len bt_len (pa_cons (pv 0) pa_nil)) pe_int)) (pw_or1 (pt_cmpR op_notIn_sign (pe_ix ix_seq (pv 0) pe_int (fun _ _ => rfl)) pe_str rfl))))) (pss_one (ps_ret pe_bl)) pss_nil)
      (pss_one (ps_ret (pe_cmpR (op_eqE hr.units) (pe_lc (own := [("sign", 1)]) rfl sc_law_is_name.nd (pi_str (pv 0)) (blkOk_by (own := [("sign", 1)]) (N := ["value", "sign"]) (sc := defScope s_law_is_name) (by decide +kernel)) (fun _ _ _ _ _ => (pg_name (i := 1) sc_law_is_name.nd rfl (by first | exact Or.inl rfl | exact Or.inr rfl))) (fun _ _ _ _ _ => (pts_one (pt_cmpR op_notIn_sign (pv 1) pe_str rfl))) (fun _ _ _ _ _ => (pv 1))) (pe_lst pa_nil) (nomark _))))), ?_⟩
    have hvar : ∀ H1, Same H H1 → ED K (tVar 0) (start ["value", "sign"] [v]) (nn H) H1 d := fun H1 s1 => ed_var rfl (df_mono s1 (fun _ z => z) (dp_df hv))
    have isi := et_B (ed_isi (T := "str") (hvar H (Same.refl _)) (.inl rfl))
    cases d with
    | str x =>
      have hx : x.length ≤ 1000 := by simp only [gd, Bool.and_eq_true, decide_eq_true_eq] at hd; exact hd.2
      have h12 : ET _ _ H _ := et_not (et_test (ed_chain (r := rI0 fun i j => .bl (decide (i ≤ j))) (r' := rI0 fun i j => .bl (decide (i ≤ j))) (ed_int (i := 1)) (ed_len (hvar H (Same.refl _)) (decide_eq_true (by omega))) (ed_int (i := 12)) rd_cmp fun _ => rd_cmp))
      by_cases hb : decide (1 ≤ (x.length : Int)) && decide ((x.length : Int) ≤ 12)
      · obtain ⟨c, cs, hc⟩ : ∃ c cs, x.cps.toList = c :: cs := by
          cases hc : x.cps.toList with
          | nil => 
            have : x.length = 0 := by show x.cps.size = 0; rw [← Array.length_toList, hc]; rfl
            simp [this] at hb
          | cons c cs => exact ⟨c, cs, rfl⟩
        have hch := et_B (ed_notInS (ed_ixS (j := 0) (hvar H (Same.refl _)) ed_int (by omega) (c := c) (by rw [hc]; rfl)) (ed_str (x := "abcdefghijklmnopqrstuvwxyz")))
        refine s_if (b := !letter c) (et_is (et_or (et_not isi) fun _ => et_or h12 fun _ => hch) ?_) (fun h H1 s1 => ?_) (fun h H1 s1 => ?_)
        · rw [mem_letters]; show (!true || (!(decide (1 ≤ (x.length : Int)) && decide ((x.length : Int) ≤ 12)) || !letter c)) = _; rw [hb]; rfl
        · have := k H1 s1
          have e : isName (.str x) = false := by
            show nameB x = false
            unfold nameB; rw [hc]; simp at h; simp [h]
          rw [e] at this; exact this
        · refine s_retB (F := nn H) (ed_eqE (ed_lc (f := fun s => !(letter (sgn s) || figure (sgn s))) (m := fun s => s) (ei_str (hvar H1 s1)) ?_ fun F2 H2 e2 v2 d2 hm hd2 => ?_) ed_emp ?_) ?_ fun H2 s2 => k H2 (s1.trans s2)
          · unfold signs; rw [List.length_map, Array.length_toList]; show x.length ≤ _; omega
          · obtain ⟨c2, hc2, rfl⟩ := List.mem_map.mp hm
            refine ⟨_, fun Q q => q, rfl, et_is (et_test (ed_notInS (ed_var rfl hd2) (ed_str (x := "abcdefghijklmnopqrstuvwxyz0123456789")))) ?_, fun _ => ed_var rfl hd2⟩
            rw [mem_both]; rfl
          · rw [List.map_id']
            refine gds_lay (gds_of fun y hy => ?_)
            obtain ⟨c2, hc2, rfl⟩ := List.mem_map.mp (List.mem_filter.mp hy).1
            simp only [gd, Bool.and_eq_true, decide_eq_true_eq] at hd
            have : c2 < 0x110000 := by
              have := (Array.all_eq_true_iff_forall_mem.mp hd.1) c2 (by rw [← Array.mem_toList_iff]; exact hc2)
              simpa using this
            simp only [gd, Bool.and_eq_true, decide_eq_true_eq]
            exact ⟨by simp [this], by show (1 : Nat) ≤ 1000; decide⟩
          · show _ = nameB x
            have e := all_signs (p := fun c => letter c || figure c) (fun s => letter (sgn s) || figure (sgn s)) (fun c => rfl) x
            rw [List.map_id']
            have e2 : (List.filter (fun s => !(letter (sgn s) || figure (sgn s))) (signs x)).isEmpty = ((signs x).map fun s => letter (sgn s) || figure (sgn s)).all id := by
              rw [List.all_map, Bool.eq_iff_iff, List.isEmpty_iff, List.filter_eq_nil_iff, List.all_eq_true]
              refine forall_congr' fun a => forall_congr' fun _ => ?_
              show ¬ ((!(letter (sgn a) || figure (sgn a))) = true) ↔ (letter (sgn a) || figure (sgn a)) = true
              cases (letter (sgn a) || figure (sgn a)) <;> simp
            rw [e2, e]
            unfold nameB; rw [hb, hc]; simp at h; simp [h]
      · rw [Bool.not_eq_true] at hb
        refine s_if (b := true) (et_is (et_or (b := true) (et_not isi) fun _ => et_is (et_or (b := false) h12 fun h => ?_) ?_) ?_) (fun h H1 s1 => ?_) (fun h H1 s1 => nomatch h)
        · have h := (show (!(decide (1 ≤ (x.length : Int)) && decide ((x.length : Int) ≤ 12))) = false from h)
          rw [hb] at h; cases h
        · show (!(decide (1 ≤ (x.length : Int)) && decide ((x.length : Int) ≤ 12)) || false) = true
          rw [hb]; rfl
        · rfl
        · have := k H1 s1
          have e : isName (.str x) = false := by
            show nameB x = false
            unfold nameB; rw [hb]; rfl
          rw [e] at this; exact this
    | _ =>
      refine s_if (b := true) (et_or (b := true) (et_not isi) fun h => nomatch h) (fun h H1 s1 => ?_) (fun h H1 s1 => nomatch h)
      exact k H1 s1

def spFig (K : PySem.W.Frag) : Sp := fun vs H Q _ => ∃ x : Str, vs = [.str x] ∧ gd (.str x) = true ∧ ∀ H', Same H H' → Q (.bl (numB x)) H'
theorem rdc_fig {E : XK} {x : Str} (h : gd (.str x) = true) : RDC K (fun vs H Q => spFig K vs H Q E) [.str x] (.bool (numB x)) := fun F vs H1 hv Q q => by
  obtain _ | ⟨hv, hn⟩ := hv
  cases hn; cases hv
  exact ⟨x, rfl, h, fun H' s => q _ H' s (.bl _)⟩
theorem ok_law_is_figures : FnOk P w K mg base CX0 1 T.a_law_is_figures T.d_law_is_figures ["word"] (spFig K) := by
  refine T.D_law_is_figures.fn.ok sc_law_is_figures (fun vs H Q E h => ?_) (fun cdv A outer s H vs Q E hr h => ?_)
  · obtain ⟨x, rfl, _⟩ := h; rfl
  · obtain ⟨x, rfl, hd, k⟩ := h
    refine ⟨_, (pss_one (ps_ret (pe_and (pe_chain op_le op_le pe_int (pe_callB call_len (by rfl) T.b_len bt_len (pa_cons (pv 0) pa_nil)) pe_int) (pe_and (pe_cmpR (op_eqE hr.units) (pe_lc (own := [("sign", 1)]) rfl sc_law_is_figures.nd (pi_str (pv 0)) (blkOk_by (own := [("sign", 1)]) (N := ["word", "sign"]) (sc := defScope s_law_is_figures) (by decide +kernel)) (fun _ _ _ _ _ => (pg_name (i := 1) sc_law_is_figures.nd rfl (by first | exact Or.inl rfl | exact Or.inr rfl))) (fun _ _ _ _ _ => (pts_one (pt_cmpR op_notIn_sign (pv 1) pe_str rfl))) (fun _ _ _ _ _ => (pv 1))) (pe_lst pa_nil) (nomark _)) (pe_one (pe_or (pe_cmpR op_eq (pv 0) pe_str (nomark _)) (pe_one (pe_cmpR op_ne (pe_ix ix_seq (pv 0) pe_int (fun _ _ => rfl)) pe_str (nomark _))))))))), ?_⟩
    have hx : x.length ≤ 1000 := by simp only [gd, Bool.and_eq_true, decide_eq_true_eq] at hd; exact hd.2
    have hvar : ∀ H1, ED K (tVar 0) (start ["word", "sign"] [.str x]) (nn H) H1 (.str x) := fun H1 => ed_var rfl (.str _)
    refine s_retB (F := nn H) (b := (decide (1 ≤ (x.length : Int)) && decide ((x.length : Int) ≤ 40)) && ((List.filter (fun s => !figure (sgn s)) (signs x)).isEmpty && (decide (x = "0") || !decide ((⟨#[x.cps.toList.headD 0]⟩ : Str) = "0")))) (ed_andV (ed_chain (r := rI0 fun i j => .bl (decide (i ≤ j))) (r' := rI0 fun i j => .bl (decide (i ≤ j))) (ed_int (i := 1)) (ed_len (hvar H) (decide_eq_true (by omega))) (ed_int (i := 40)) rd_cmp fun _ => rd_cmp) fun hb => ed_andV (ed_is (ed_eqE (ed_lc (f := fun s => !figure (sgn s)) (m := fun s => s) (ei_str (hvar H)) ?_ fun F2 H2 e2 v2 d2 hm hd2 => ?_) ed_emp ?_) ?_) fun _ => ed_orV (ed_eqS (hvar H) (ed_str (x := "0"))) fun _ => ?_) ?_ k
    · unfold signs; rw [List.length_map, Array.length_toList]; show x.length ≤ _; omega
    · obtain ⟨c2, hc2, rfl⟩ := List.mem_map.mp hm
      refine ⟨_, fun Q q => q, rfl, et_is (et_test (ed_notInS (ed_var rfl hd2) (ed_str (x := "0123456789")))) ?_, fun _ => ed_var rfl hd2⟩
      rw [mem_figures]; rfl
    · rw [List.map_id']
      refine gds_lay (gds_of fun y hy => ?_)
      obtain ⟨c2, hc2, rfl⟩ := List.mem_map.mp (List.mem_filter.mp hy).1
      simp only [gd, Bool.and_eq_true, decide_eq_true_eq] at hd
      have : c2 < 0x110000 := by
        have := (Array.all_eq_true_iff_forall_mem.mp hd.1) c2 (by rw [← Array.mem_toList_iff]; exact hc2)
        simpa using this
      simp only [gd, Bool.and_eq_true, decide_eq_true_eq]
      exact ⟨by simp [this], by show (1 : Nat) ≤ 1000; decide⟩
    · rw [List.map_id']
    · obtain ⟨c, cs, hc⟩ := len_pos (Bool.and_eq_true_iff.mp hb).1
      refine ed_is (ed_neS (ed_ixS (j := 0) (hvar H) ed_int (by omega) (c := c) (by rw [hc]; rfl)) (ed_str (x := "0"))) ?_
      rw [hc]; rfl
    · rw [none_left (fun s => figure (sgn s)), all_signs (p := figure) (fun s => figure (sgn s)) (fun c => rfl)]; rfl
end
end Ag

set_option Elab.async false
set_option linter.all false
set_option maxRecDepth 100000
set_option maxHeartbeats 1000000
set_option pp.maxSteps 400
namespace Ag
open PySem PySem.Spec PyProof.Rows L2
/-! ### a dict of pairs, written as a list of tuples -/
theorem valV_out {κ : Type} [DecidableEq κ] {k : κ} : ∀ {more acc : List (κ × V)}, k ∉ more.map (·.1) → valV (more.foldl (fun acc kv => putK acc kv.1 kv.2) acc) k = valV acc k
  | [], _, _ => rfl
  | p :: r, acc, h => by
    rw [List.map_cons, List.mem_cons, not_or] at h
    rw [List.foldl_cons, valV_out h.2, valV_put, if_neg h.1]
theorem valV_in {κ : Type} [DecidableEq κ] {k : κ} {v : V} : ∀ {more acc : List (κ × V)}, (more.map (·.1)).Nodup → (k, v) ∈ more → valV (more.foldl (fun acc kv => putK acc kv.1 kv.2) acc) k = some v
  | [], _, _, h => absurd h List.not_mem_nil
  | p :: r, acc, n, h => by
    rw [List.map_cons, List.nodup_cons] at n
    rw [List.foldl_cons]
    rcases List.mem_cons.mp h with rfl | h
    · rw [valV_out n.1, valV_put, if_pos rfl]
    · exact valV_in n.2 h
abbrev pairsT : List (Str × Int × Int) := [("call", 1, 1), ("answer", 2, 2), ("never", 1, 4), ("row", 2, 4), ("steps", 2, 4)]
def pairD : Str × Int × Int → PyData := fun p => .tuple [.str p.1, .tuple [.int p.2.1, .int p.2.2]]
theorem ed_pair {K : PySem.W.Frag} {σ : L2.St} {F : Addr → Prop} {H : Hp} {k : Str} {a b : Int} : ED K (tTup (tCons (tC (.str k)) (tCons (tTup (tCons (tC (.int a)) (tCons (tC (.int b)) tNil))) tNil))) σ F H (pairD (k, a, b)) :=
  ed_tup (ea_cons ed_str (ea_cons (ed_tup (ea_cons ed_int (ea_cons ed_int ea_nil)) (by show (2 : Nat) ≤ 100000; decide)) ea_nil)) (by show (2 : Nat) ≤ 100000; decide)
theorem run_dict {K : PySem.W.Frag} {σ : L2.St} {F : Addr → Prop} {H : Hp} {r : List V → Hp → VK → Prop} {ta : TA} {ty : TE} {g : TG} {D : Ends} {ds : List PyData} (h : EA K ta σ F H ds) (hl : ds.length ≤ 100000)
    (k : ∀ v H1, Same H H1 → Df K (Fr F H) H1 v (.list ds) → r [v] H1 fun x H2 => ty σ H2 fun y H3 => ∃ a v, x = .ref a ∧ DGet H3 a y (some v) ∧ g v σ H3 D.nx) : tAsg (tDGet (tCB r (tCons (tLst ta) tNil)) ty) g D σ H :=
  ed_lst h hl H (Same.refl _) _ k
theorem pair_rows {K : PySem.W.Frag} {H : Hp} : ∀ {tab : List (Str × Int × Int)} {vs : List V}, DpAll K H vs (tab.map pairD) → ∃ (ps : List Addr) (kvs : List (Key × V)), vs = ps.map V.ref ∧ Paired (fun p kv => SqT K H p [kV kv.1, kv.2]) ps kvs ∧ kvs.map (·.1) = tab.map (fun p => Sum.inr p.1) ∧
    ∀ p ∈ tab, ∃ t, (Sum.inr p.1, V.ref t) ∈ kvs ∧ SqT K H t [.int p.2.1, .int p.2.2]
  | [], _, .nil => ⟨[], [], rfl, .nil, rfl, fun _ h => absurd h List.not_mem_nil⟩
  | (k, a, b) :: tab, _, .cons h r => by
    obtain ⟨ps, kvs, rfl, hp, hk, hm⟩ := pair_rows r
    have h : Dp K H _ (.tuple [.str k, .tuple [.int a, .int b]]) := h
    cases h with
    | tup hs q =>
      obtain _ | ⟨q1, q⟩ := q
      obtain _ | ⟨q2, q⟩ := q
      cases q; cases q1
      cases q2 with
      | tup hs2 q3 =>
        obtain _ | ⟨g1, q3⟩ := q3
        obtain _ | ⟨g2, q3⟩ := q3
        cases q3; cases g1; cases g2
        refine ⟨_ :: ps, (Sum.inr k, .ref _) :: kvs, rfl, .cons hs hp, by rw [List.map_cons, List.map_cons, hk], fun p hp => ?_⟩
        rcases List.mem_cons.mp hp with rfl | hp
        · exact ⟨_, .head _, hs2⟩
        · obtain ⟨t, e, z⟩ := hm p hp
          exact ⟨t, .tail _ e, z⟩
theorem pairs_nd : (pairsT.map (fun p => (Sum.inr p.1 : Key))).Nodup := by decide +kernel
theorem pairs_has {kd : Str} (h : kd ∈ plainKinds) : (kd, (leastN kd : Int), (mostN kd : Int)) ∈ pairsT := by
  unfold plainKinds at h
  simp only [List.mem_cons, List.not_mem_nil, or_false] at h
  rcases h with rfl | rfl | rfl | rfl | rfl <;> decide +kernel
theorem seen_eq {o : Option Str} {z : Str} : PyData.eqv (seenD o) (.str z) = decide (o = some z) := by
  have := seen_ne (o := o) (z := z)
  rw [decide_not] at this
  cases h : PyData.eqv (seenD o) (.str z) <;> rw [h] at this <;> simpa using this.symm
/-! ### the names, read the law's way -/
def finN (ws : List Str) : Except Nat (List Str × Nat) → Except Nat (List Str × Nat)
  | .ok (found, t) => if ws[t]? = some (";" : Str) then .ok (found, t + 1) else .error t
  | .error e => .error e
theorem names_fin {ws : List Str} {kd : Str} {s : Nat} (hk : kd ∈ plainKinds) : namesR ws kd s = finN ws (nmGo ws kd 5 [] s) := by
  have l1 : 1 ≤ leastN kd := by unfold leastN; split <;> decide
  unfold namesR
  cases hx : ws[s]? with
  | none =>
    rw [nmGo_bad (.inl (by show 0 < _; omega)) (fun x e => by rw [hx] at e; cases e)]; rfl
  | some x =>
    have okx : okNm kd [] x = nameB x := by unfold okNm; simp
    dsimp only
    by_cases hn : nameB x = true
    · rw [if_pos hn, nmGo_ok (.inl (by show 0 < _; omega)) hx (by rw [okx]; exact hn)]
      show _ = finN ws (nmGo ws kd 4 [x] (s + 1))
      cases nmGo ws kd 4 [x] (s + 1) <;> rfl
    · rw [if_neg hn, nmGo_bad (.inl (by show 0 < _; omega)) (fun y e => by rw [hx] at e; cases e; rw [okx]; simpa using hn)]; rfl
theorem fin_done {ws found : List Str} {kd : Str} {f p : Nat} (h1 : ws[p]? = some (";" : Str)) (h2 : leastN kd ≤ found.length) : finN ws (nmGo ws kd (f + 1) found p) = .ok (found, p + 1) := by
  have e : nmGo ws kd (f + 1) found p = .ok (found, p) := by
    show (if _ then _ else _) = _
    rw [if_neg (fun z => z.elim (fun z => by omega) (fun z => z.2 h1))]
  rw [e]; show (if _ then _ else _) = _; rw [if_pos h1]
theorem fin_bad {ws found : List Str} {kd : Str} {f p : Nat} (lm : leastN kd ≤ mostN kd) (h1 : ¬ (ws[p]? = some (";" : Str) ∧ leastN kd ≤ found.length)) (h2 : found.length = mostN kd ∨ ∀ x, ws[p]? = some x → okNm kd found x = false) : finN ws (nmGo ws kd (f + 1) found p) = .error p := by
  by_cases c : found.length < leastN kd ∨ (found.length < mostN kd ∧ ws[p]? ≠ some (";" : Str))
  · rw [nmGo_bad c (h2.resolve_left (fun z => by rcases c with c | c <;> omega))]; rfl
  · have e : nmGo ws kd (f + 1) found p = .ok (found, p) := by
      show (if _ then _ else _) = _
      rw [if_neg c]
    rw [e]; show (if _ then _ else _) = _
    rw [if_neg (fun z => h1 ⟨z, by omega⟩)]
theorem fin_step {ws found : List Str} {kd x : Str} {f p : Nat} (h1 : found.length < mostN kd) (hx : ws[p]? = some x) (ho : okNm kd found x = true) : finN ws (nmGo ws kd (f + 1) found p) = finN ws (nmGo ws kd f (found ++ [x]) (p + 1)) := by
  have hn : nameB x = true := by unfold okNm at ho; exact (Bool.and_eq_true_iff.mp ho).1
  rw [nmGo_ok (.inr ⟨h1, fun z => by rw [hx] at z; exact name_end hn (Option.some.inj z)⟩) hx ho]
section
variable {P : Program} {w : World} {K : PySem.W.Frag} {mg : Str → Option Value} {base : Heap} (T : Txt w K mg)
/-- a plain duty behind its first word, the law's way -/
def spRP (K : PySem.W.Frag) : Sp := fun vs H Q _ => ∃ (wa : Addr) (ws : List Str) (s : Nat) (kd : Str), vs = [.ref wa, .int (s : Int)] ∧ SqL K H wa (ws.map V.str) ∧ ws.length ≤ 50000 ∧ (∀ x ∈ ws, gd (.str x) = true) ∧ ws[s]? = some kd ∧ kd ∈ plainKinds ∧
  (∀ nm t, namesR ws kd (s + 1) = .ok (nm, t) → ∀ r v H', Same H H' → H' r = some (.tup [.int 0, v, .int (t : Nat)]) → Df K nof H' v (plainD kd nm) → Q (.ref r) H') ∧
  (∀ e, namesR ws kd (s + 1) = .error e → ∀ r (x : Int) H', Same H H' → H' r = some (.tup [.int ((e : Int) + 1), .non, .int x]) → Q (.ref r) H')
theorem ok_law_read_plain : FnOk P w K mg base CX0 2 T.a_law_read_plain T.d_law_read_plain ["words", "at"] (spRP K) := by
  have G_law_is_name := ok_law_is_name (P := P) (base := base) T
  refine T.D_law_read_plain.fn.ok sc_law_read_plain (fun vs H Q E h => ?_) (fun cdv A outer s H vs Q E hr h => ?_)
  · obtain ⟨wa, ws, s, kd, rfl, _⟩ := h; rfl
  · obtain ⟨wa, ws, s0, kd, rfl, hw, wl, hg, hkd, hk, k1, k2⟩ := h
    refine ⟨_, (pss_cons (ps_par (i := 2) (j := 3) (by rfl) sc_law_read_plain.nd rfl rfl (by decide) rfl rfl (pa_cons (pe_ix ix_seq (pv 0) (pv 1) (fun _ _ => rfl)) (pa_cons (pe_lst pa_nil) pa_nil)) (by rfl))
      (pss_cons (ps_asg (pe_dget (hu_of hr) (pe_callTy (call_dictP rfl) (by rfl) T.b_dict bt_dict (pa_cons (pe_lst (pa_cons (pe_tup (pa_cons pe_str (pa_cons (pe_tup (pa_cons pe_int (pa_cons pe_int pa_nil))) pa_nil))) (pa_cons (pe_tup (pa_cons pe_str (pa_cons (pe_tup (pa_cons pe_int (pa_cons pe_int pa_nil))) pa_nil))) (pa_cons (pe_tup (pa_cons pe_str (pa_cons (pe_tup (pa_cons pe_int (pa_cons pe_int pa_nil))) pa_nil))) (pa_cons (pe_tup (pa_cons pe_str (pa_cons (pe_tup (pa_cons pe_int (pa_cons pe_int pa_nil))) pa_nil))) (pa_cons (pe_tup (pa_cons pe_str (pa_cons (pe_tup (pa_cons pe_int (pa_cons pe_int pa_nil))) pa_nil))) pa_nil)))))) pa_nil)) (pv 2) (fun _ _ => rfl)) (pg_tup rfl (pgs_cons (pg_name (i := 4) sc_law_read_plain.nd rfl (by first | exact Or.inl rfl | exact Or.inr rfl)) (pgs_cons (pg_name (i := 5) sc_law_read_plain.nd rfl (by first | exact Or.inl rfl | exact Or.inr rfl)) pgs_nil))))
      (pss_cons (ps_for PassesOwn.never rfl (pi_range1 (by rfl) T.b_range (pa_cons (pe_op op_add (pv 5) pe_int) pa_nil)) (pg_name (i := 6) sc_law_read_plain.nd rfl (by first | exact Or.inl rfl | exact Or.inr rfl)) (pss_cons (ps_set (i := 1) sc_law_read_plain.nd rfl (by first | exact Or.inl rfl | exact Or.inr rfl) (pe_op op_add (pv 1) pe_int))
      (pss_cons (ps_set (i := 7) sc_law_read_plain.nd rfl (by first | exact Or.inl rfl | exact Or.inr rfl) (pe_ifExp (pt_cmpR op_lt (pv 1) (pe_callB call_len (by rfl) T.b_len bt_len (pa_cons (pv 0) pa_nil)) (nomark _)) (pe_ix ix_seq (pv 0) (pv 1) (fun _ _ => rfl)) pe_non))
      (pss_cons (ps_if (PW.pt (pw_and (pt_cmpR (op_eqD hr.units) (pv 7) pe_str (nomark _)) (pw_and1 (pt_cmpR op_ge (pe_callB call_len (by rfl) T.b_len bt_len (pa_cons (pv 3) pa_nil)) (pv 4) (nomark _))))) (pss_cons (ps_set (i := 8) sc_law_read_plain.nd rfl (by first | exact Or.inl rfl | exact Or.inr rfl) (pe_ifExp (pt_cmpR op_in_seq (pv 2) (pe_lst (pa_cons pe_str (pa_cons pe_str pa_nil))) (by rfl)) (pe_op op_catA (pe_tup (pa_cons (pv 2) pa_nil)) (pe_callTy call_tuple_of (by rfl) T.b_tuple bt_tuple (pa_cons (pv 3) pa_nil))) (pe_tup (pa_cons (pv 2) (pa_cons (pe_callTy call_tuple_of (by rfl) T.b_tuple bt_tuple (pa_cons (pv 3) pa_nil)) pa_nil)))))
      (pss_one (ps_ret (pe_tup (pa_cons pe_int (pa_cons (pv 8) (pa_cons (pe_op op_add (pv 1) pe_int) pa_nil))))))) pss_nil)
      (pss_cons (ps_if (PW.pt (pw_or (pt_cmpR op_isN (pv 7) pe_non (nomark _)) (pw_or (pt_not (pt_val (pe_call (G_law_is_name) (hr.mono (by omega)) (by rfl) T.D_law_is_name.mg T.D_law_is_name.fn.kp T.D_law_is_name.bd .nil pass0 (pa_cons (pv 7) pa_nil)))) (pw_or (pt_cmpR op_eq (pe_callB call_len (by rfl) T.b_len bt_len (pa_cons (pv 3) pa_nil)) (pv 5) (nomark _)) (pw_or1 (PW.pt (pw_and (pt_cmpR op_eq (pv 2) pe_str (nomark _)) (pw_and1 (pt_cmpR op_in_seq (pv 7) (pv 3) (by rfl)))))))))) (pss_one (ps_ret (pe_tup (pa_cons (pe_op op_add (pv 1) pe_int) (pa_cons pe_non (pa_cons (pv 1) pa_nil)))))) pss_nil)
      (pss_one (ps_expr (pe_bm PySem.F.plainAttrs_list PySem.F.slot_list_append PySem.F.type_list_append mt_append (pv 3) (pa_cons (pv 7) pa_nil)))))))))
      (pss_one (ps_ret (pe_tup (pa_cons (pe_op op_add (pv 1) pe_int) (pa_cons pe_non (pa_cons (pv 1) pa_nil))))))))), ?_⟩
    obtain ⟨lm1, lm2, lm3⟩ := least_most hk
    refine ⟨_, rfl, _, rfl, .inl ⟨_, _, _, _, rfl, rfl, hw, atI_nat (by rw [List.getElem?_map, hkd]; rfl), (by decide : 0 ≤ sizeLine), fun l hl => ⟨_, _, rfl, ?_⟩⟩⟩
    have s1 : Same H (upd H l (.lst [])) := Same.newA hl
    have el : (upd H l (.lst [])) l = some (.lst []) := upd_same
    generalize upd H l (.lst []) = H1 at s1 el ⊢
    dsimp only
    refine run_dict (K := K) (F := nn H1) (ea_cons (ed_pair (k := "call") (a := 1) (b := 1)) (ea_cons (ed_pair (k := "answer") (a := 2) (b := 2)) (ea_cons (ed_pair (k := "never") (a := 1) (b := 4)) (ea_cons (ed_pair (k := "row") (a := 2) (b := 4)) (ea_cons (ed_pair (k := "steps") (a := 2) (b := 4)) ea_nil))))) (by show (5 : Nat) ≤ 100000; decide) fun v H2 s2 hv => ?_
    obtain ⟨a, us, rfl, hsq, hus⟩ : ∃ a us, v = .ref a ∧ SqL K H2 a us ∧ DpAll K H2 us (pairsT.map pairD) := by
      cases df_dp hv with
      | lst hs r => exact ⟨_, _, rfl, hs, r⟩
    obtain ⟨ps, kvs, rfl, hpr, hks, hmem⟩ := pair_rows hus
    refine ⟨a, ps, kvs, rfl, hsq, hpr, fun p hp => ⟨_, rfl, ?_⟩⟩
    obtain ⟨t, hin, ht⟩ := hmem _ (pairs_has hk)
    refine ⟨p, .ref t, rfl, .inl ⟨_, Sum.inr kd, .inl upd_same, rfl, (valV_in (by rw [hks]; exact pairs_nd) hin).symm⟩, ?_⟩
    have s3 := s2.trans (Same.newA (o := .dK (mergeK [] kvs)) hp)
    have ht3 := (Same.newA (o := .dK (mergeK [] kvs)) hp).stA ht
    generalize upd H2 p (.dK (mergeK [] kvs)) = H3 at s3 ht3 ⊢
    refine ⟨t, _, rfl, ht3, rfl, .int (leastN kd : Int), [.int (mostN kd : Int)], rfl, .int (mostN kd : Int), [], rfl, rfl, ?_⟩
    have sH := s1.trans s3
    have el3 := s3 _ _ el
    clear hv hsq hus hpr hks hmem hin ht ht3 hp s2 s3 el s1
    have hlw : ((lenP (PyData.list (ws.map .str)) : Nat) : Int) = (ws.length : Int) := by show (((ws.map PyData.str).length : Nat) : Int) = _; rw [List.length_map]
    have k1 : ∀ nm t, namesR ws kd (s0 + 1) = .ok (nm, t) → ∀ r v H', Same H H' → H' r = some (.tup [.int 0, v, .int (t : Nat)]) → Df K nof H' v (plainD kd nm) → Q (.ref r) H' := k1
    refine ⟨_, rfl, _, _, rfl, rfl, _, rfl, by omega, by omega, for_range (n := mostN kd + 1) (fun i σ' H' => ∃ (found : List Str) (o6 o7 o8 : Option V), σ' = [some (.ref wa), some (.int ((s0 + i : Nat) : Int)), some (.str kd), some (.ref l), some (.int (leastN kd : Int)), some (.int (mostN kd : Int)), o6, o7, o8] ∧ found.length = i ∧ i ≤ mostN kd ∧ namesR ws kd (s0 + 1) = finN ws (nmGo ws kd (5 - i) found (s0 + 1 + i)) ∧ H' l = some (.lst (found.map V.str)) ∧ Same H H')
      ⟨[], none, none, none, rfl, rfl, Nat.zero_le _, names_fin hk, el3, sH⟩ ?_ ?_⟩
    · rintro i σ' H4 hi ⟨found, o6, o7, o8, rfl, hfl, him, hG, ef, sH4⟩
      clear el3 sH
      obtain ⟨f, hf5⟩ : ∃ f, 5 - i = f + 1 := ⟨4 - i, by omega⟩
      rw [hf5] at hG
      have wv : ∀ {H5 : Hp} (o1 o7 : Option V), Same H4 H5 → ED K (tVar 0) [some (.ref wa), o1, some (.str kd), some (.ref l), some (.int (leastN kd : Int)), some (.int (mostN kd : Int)), some (.int (0 + (i : Int))), o7, o8] tru H5 (.list (ws.map .str)) := fun {H5} o1 o7 s => ed_var rfl (.lst ((sH4.trans s).slA hw |>.imp (fun z => ⟨z, trivial⟩) id) (dfs_strs ws))
      refine s_set (K := K) (F := tru) (ed_add (ed_var rfl (.int ((s0 + i : Nat) : Int))) (ed_int (i := 1))) fun v H5 s5 hv => ?_
      cases hv
      have ep : ((s0 + i : Nat) : Int) + 1 = ((s0 + 1 + i : Nat) : Int) := by omega
      rw [ep]
      generalize hp : s0 + 1 + i = p at hG
      refine s_set (K := K) (F := tru) (d := seenD ws[p]?) (ed_if (et_test (ed_lt (ed_var (i := 1) rfl (.int _)) (ed_len (wv _ _ s5) rfl))) (fun hb => ?_) (fun hb => ?_)) fun v H6 s6 hv => ?_
      · have hb := of_decide_eq_true hb
        rw [hlw] at hb
        have e : ws[p]? = some (ws[p]'(by omega)) := List.getElem?_eq_getElem _
        rw [e]
        exact ed_ixL (j := p) (wv _ _ s5) (ed_var (i := 1) rfl (.int _)) (by rw [List.getElem?_map, e]; rfl)
      · have hb := of_decide_eq_false hb
        rw [hlw] at hb
        rw [List.getElem?_eq_none (by omega)]
        exact ed_non
      have s46 := s5.trans s6
      have sH6 := sH4.trans s46
      have ef6 := s46 _ _ ef
      clear sH4 ef s5 s6 s46 wv
      have fv : ∀ {H7 : Hp} (o7 o8 : Option V), Same H6 H7 → ED K (tVar 3) [some (.ref wa), some (.int (p : Int)), some (.str kd), some (.ref l), some (.int (leastN kd : Int)), some (.int (mostN kd : Int)), some (.int (0 + (i : Int))), o7, o8] tru H7 (.list (found.map .str)) := fun {H7} o7 o8 s => ed_var rfl (.lst (.inl ⟨.inl (s _ _ ef6), trivial⟩) (dfs_strs found))
      have hlf : ((lenP (PyData.list (found.map .str)) : Nat) : Int) = (found.length : Int) := by show (((found.map PyData.str).length : Nat) : Int) = _; rw [List.length_map]
      have vv : ∀ {H7 : Hp}, Same H6 H7 → ED K (tVar 7) [some (.ref wa), some (.int (p : Int)), some (.str kd), some (.ref l), some (.int (leastN kd : Int)), some (.int (mostN kd : Int)), some (.int (0 + (i : Int))), some v, o8] tru H7 (seenD ws[p]?) := fun {H7} s => ed_var rfl (df_mono s (fun _ _ => trivial) hv)
      have shS : SeqAt.shaped (seenD ws[p]?) = true := seen_sh hg
      refine s_if (b := decide (ws[p]? = some (";" : Str)) && decide (leastN kd ≤ found.length)) (et_is (et_and (et_test (ed_eqD (vv (Same.refl _)) (ed_str (x := ";")) shS (by decide +kernel))) fun _ => et_test (ed_ge (ed_len (fv _ _ (Same.refl _)) rfl) (ed_var (i := 4) rfl (.int _)))) (by rw [seen_eq, hlf]; congr 1; exact decide_eq_decide.mpr Int.ofNat_le)) (fun hb H7 s7 => ?_) (fun hb H7 s7 => ?_)
      · rw [Bool.and_eq_true, decide_eq_true_eq, decide_eq_true_eq] at hb
        rw [fin_done hb.1 hb.2] at hG
        have one : kd = "call" → ∃ x, found = [x] := fun e => by
          have m1 : mostN kd = 1 := by rw [e]; decide +kernel
          have l1 : leastN kd = 1 := by rw [e]; decide +kernel
          match found, hfl, hb.2 with
          | [x], _, _ => exact ⟨x, rfl⟩
          | [], _, h => rw [l1] at h; exact absurd h (by decide)
          | x :: y :: r, h, _ => simp only [List.length_cons] at h; omega
        refine s_set (K := K) (F := tru) (d := plainD kd found) (ed_if (et_test (ed_inSeq (K := K) (F := tru) (xs := ["call", "answer"]) (ed_var (i := 2) rfl (.str kd)) (ed_lst (ea_cons (ed_str (x := "call")) (ea_cons (ed_str (x := "answer")) ea_nil)) (by show (2 : Nat) ≤ 100000; decide)) (.inr rfl))) (fun hc => ?_) (fun hc => ?_)) fun v2 H8 s8 hv2 => ?_
        · have hc := of_decide_eq_true hc
          have tv : ED K _ _ tru H7 (.tuple (found.map .str)) := ed_tupleOf (fv (some v) o8 s7) rfl
          refine ed_is (ed_catT (ed_tup (ea_cons (ed_var (i := 2) rfl (.str kd)) ea_nil) (by show (1 : Nat) ≤ 100000; decide)) tv (by rw [List.length_map]; show 1 + _ ≤ _; omega)) ?_
          unfold plainD
          by_cases e : kd = "answer"
          · rw [if_pos e]; rfl
          · have e2 : kd = "call" := by
              simp only [List.mem_cons, List.not_mem_nil, or_false] at hc
              exact hc.resolve_right e
            obtain ⟨x, rfl⟩ := one e2
            rw [if_neg e, if_pos e2]; rfl
        · have hc := of_decide_eq_false hc
          simp only [List.mem_cons, List.not_mem_nil, or_false, not_or] at hc
          refine ed_is (ed_tup (ea_cons (ed_var (i := 2) rfl (.str kd)) (ea_cons (ed_tupleOf (fv (some v) o8 s7) rfl) ea_nil)) (by show (2 : Nat) ≤ 100000; decide)) ?_
          unfold plainD
          rw [if_neg hc.2, if_neg hc.1]; rfl
        · refine ⟨_, rfl, _, rfl, _, _, rfl, rfl, (by show (3 : Nat) ≤ sizeLine; decide), fun r hr => ?_⟩
          have s68 := s7.trans s8
          refine k1 found (p + 1) hG r v2 _ ((sH6.trans s68).trans (Same.newA hr)) upd_same (df_keepT (KeepT.of (Same.newA hr)) (df_noL (plain_noL kd found) hv2))
      · have hb' : ¬ (ws[p]? = some (";" : Str) ∧ leastN kd ≤ found.length) := fun z => by rw [decide_eq_true z.1, decide_eq_true z.2] at hb; cases hb
        have badK : (found.length = mostN kd ∨ ∀ x, ws[p]? = some x → okNm kd found x = false) → ∀ r (x : Int) H', Same H H' → H' r = some (.tup [.int ((p : Int) + 1), .non, .int x]) → Q (.ref r) H' := fun z r x H' s e => k2 p (by rw [hG, fin_bad lm1 hb' z]) r x H' s e
        have ret : (found.length = mostN kd ∨ ∀ x, ws[p]? = some x → okNm kd found x = false) → ∀ H8, Same H7 H8 → tRet (tTup (tCons (tOp (rI0 fun i j => .int (i + j)) (tVar 1) (tC (.int 1))) (tCons (tC .non) (tCons (tVar 1) tNil)))) { nx := fun _ H' => Q .non H', rt := Q } [some (.ref wa), some (.int (p : Int)), some (.str kd), some (.ref l), some (.int (leastN kd : Int)), some (.int (mostN kd : Int)), some (.int (0 + (i : Int))), some v, o8] H8 := fun z H8 s8 =>
          ⟨_, rfl, _, _, rfl, rfl, _, rfl, (by show (3 : Nat) ≤ sizeLine; decide), fun r hr => badK z r _ _ ((sH6.trans (s7.trans s8)).trans (Same.newA hr)) upd_same⟩
        cases hx : ws[p]? with
        | none =>
          rw [hx] at vv
          refine s_if (b := true) (et_or (a := true) (b := true) (et_test (ed_isN (vv s7))) (fun z => nomatch z)) (fun _ H8 s8 => ?_) (fun h => nomatch h)
          exact ret (.inr fun x e => by rw [hx] at e; cases e) H8 s8
        | some x =>
          rw [hx] at vv
          have gx := hg x (List.mem_of_getElem? hx)
          have hv' : v = .str x := by rw [hx] at hv; cases hv; rfl
          refine s_if (b := !nameB x || (decide (found.length = mostN kd) || (decide (kd = "answer") && decide (x ∈ found)))) (et_is (et_or (et_test (ed_isN (vv s7))) fun _ => et_or (et_not (et_B (ed_call (ea_cons (vv s7) ea_nil) (rdc_spB gx)))) fun _ => et_or (et_test (ed_eqI (ed_len (fv _ _ s7) rfl) (ed_var (i := 5) rfl (.int _)))) fun _ => et_and (et_test (ed_eqS (K := K) (F := tru) (ed_var (i := 2) rfl (.str kd)) (ed_str (x := "answer")))) fun _ => et_test (ed_inSeq (vv s7) (fv _ _ s7) (.inr rfl))) (by rw [hlf]; show (false || _) = _; rw [Bool.false_or]; congr 2; exact decide_eq_decide.mpr Int.ofNat_inj)) (fun hc H8 s8 => ?_) (fun hc H8 s8 => ?_)
          · refine ret ?_ H8 s8
            rw [Bool.or_eq_true, Bool.or_eq_true, decide_eq_true_eq, Bool.not_eq_true'] at hc
            rcases hc with hc | hc | hc
            · refine .inr fun y e => ?_
              rw [hx] at e; cases e
              unfold okNm; rw [hc]; rfl
            · exact .inl hc
            · refine .inr fun y e => ?_
              rw [hx] at e; cases e
              unfold okNm; rw [hc]; simp
          · rw [Bool.or_eq_false_iff, Bool.or_eq_false_iff, decide_eq_false_iff_not, Bool.not_eq_false'] at hc
            obtain ⟨c1, c2, c3⟩ := hc
            have ok : okNm kd found x = true := by unfold okNm; rw [c1, c3]; rfl
            have s68 := s7.trans s8
            refine ⟨_, rfl, .inl ⟨rfl, _, .of (s68 _ _ ef6)⟩, _, rfl, l, _, v, rfl, rfl, s68 _ _ ef6, by rw [List.length_map, sizeLine_eq]; omega, ?_⟩
            refine ⟨found ++ [x], some (.int (0 + (i : Int))), some v, o8, ?_, by rw [List.length_append, hfl]; rfl, by omega, ?_, by rw [upd_same, hv', List.map_append]; rfl, same_upd (sH6.trans s68) hl⟩
            · rw [show s0 + (i + 1) = p by omega]
            · rw [hG, fin_step (by omega) hx ok, show 5 - (i + 1) = f by omega, show s0 + 1 + (i + 1) = p + 1 by omega]
    · rintro σ' H' ⟨found, o6, o7, o8, rfl, hfl, him, _⟩
      omega
end
end Ag

set_option Elab.async false
set_option linter.all false
set_option maxRecDepth 100000
set_option maxHeartbeats 2000000
set_option pp.maxSteps 400
namespace Ag
open PySem PySem.Spec PyProof.Rows L2
section
variable {K : PySem.W.Frag} {σ : L2.St} {F : Addr → Prop} {H : Hp} {te : TE} {d : PyData}
theorem run_edc {tr : TA} {Q : List V → Hp → Prop} (h : ED K te σ F H d) (k : ∀ v H1, Same H H1 → Df K (Fr F H) H1 v d → tr σ H1 fun vs H2 => Q (v :: vs) H2) : tCons te tr σ H Q := h H (Same.refl _) _ k
end
theorem cons_split {α β : Type} {r s : List (α × β)} {p : α × β} (h : p ∈ r) : p ∈ s ++ r := List.mem_append_right _ h
/-! ### None in a list of texts -/
theorem inV_non : ∀ (xs : List Str), inV .non (xs.map V.str) = false
  | [] => rfl
  | x :: xs => by
    have h := inV_non xs
    unfold inV at h ⊢
    rw [List.map_cons, List.any_cons, h]; rfl
def inO : Option Str → List Str → Bool
  | some x, xs => decide (x ∈ xs)
  | none, _ => false
theorem et_seenNotIn {K : PySem.W.Frag} {σ : L2.St} {F : Addr → Prop} {H : Hp} {te tb : TE} {o : Option Str} {xs : List Str} (h : ED K te σ F H (seenD o)) (hb : EL tb σ H xs) : ET (tTest (tOp (rIn K true) te tb)) σ H (!inO o xs) := fun H1 s Q q =>
  h H1 s _ fun v H2 s2 hv => hb H2 (s.trans s2) _ fun p H3 s3 hp => by
    refine ⟨p, _, rfl, .inl (SqL.of hp), ?_, flat_strs xs, _, rfl, ?_⟩
    · cases o with
      | none => cases hv; rfl
      | some x => cases hv; rfl
    · cases o with
      | none =>
        cases hv
        show Q (!inV .non (xs.map V.str)) H3
        rw [inV_non]; exact q H3 (s2.trans s3)
      | some x =>
        cases hv
        show Q (!inV (.str x) (xs.map V.str)) H3
        rw [inV_strs]; exact q H3 (s2.trans s3)
/-! ### the law's laps beside the program's machine -/
def mu (L : Nat) (told : Option PyData) (s : Nat) (stk : Stk) : Nat := 4 * (L - s) + 2 * stk.length + tn told
def Rdy (ws : List Str) (f : Nat) (told : Option PyData) (s : Nat) (rd du : Int) (stk : Stk) : Prop :=
  match told with
  | none => (stk = [] ∧ s = 0 ∧ rd = 0 ∧ du = 1) ∨ (stk ≠ [] ∧ dutyGo ws f none s rd du stk = dutyR ws)
  | some d => dutyGo ws f (some d) s rd du stk = dutyR ws
theorem rdy_begin {ws : List Str} {f s : Nat} {rd du : Int} {stk : Stk} (h : Rdy ws f none s rd du stk) (hm : mu ws.length none s stk ≤ f) : ∃ g, mu ws.length none s stk ≤ g + 1 ∧
    (∀ d s', beginR ws stk.length rd du s = .plain d s' → dutyGo ws g (some d) s' (rd + 1) (du - 1) stk = dutyR ws) ∧
    (∀ k m s', beginR ws stk.length rd du s = .opened k m s' → dutyGo ws g none s' rd (du + (m - 1)) ((k, m, []) :: stk) = dutyR ws) ∧
    (∀ e, beginR ws stk.length rd du s = .bad e → dutyR ws = .error e) := by
  rcases h with ⟨rfl, rfl, rfl, rfl⟩ | ⟨hs, h⟩
  · refine ⟨fuelOf ws, by unfold mu fuelOf tn; show 4 * (ws.length - 0) + 2 * 0 + 0 ≤ 4 * ws.length + 8 + 1; omega, fun d s' e => ?_, fun k m s' e => ?_, fun e eB => ?_⟩
    · unfold dutyR; rw [show beginR ws 0 0 1 0 = _ from e]
    · unfold dutyR; rw [show beginR ws 0 0 1 0 = _ from e]
    · unfold dutyR; rw [show beginR ws 0 0 1 0 = _ from eB]
  · obtain ⟨g, rfl⟩ : ∃ g, f = g + 1 := by
      refine ⟨f - 1, ?_⟩
      have : 1 ≤ stk.length := by cases stk with | nil => exact absurd rfl hs | cons p r => simp
      unfold mu at hm; omega
    rw [go_none hs] at h
    exact ⟨g, hm, fun d s' e => by rw [e] at h; exact h, fun k m s' e => by rw [e] at h; exact h, fun e eB => by rw [eB] at h; exact h.symm⟩
/-- what a lap leaves, or finds -/
structure LapAt (K : PySem.W.Frag) (Hb : Hp) (fr : Addr) (ws : List Str) (i f : Nat) (told : Option PyData) (v : V) (s : Nat) (rd du : Int) (stk : Stk) (us : List V) (ls : List Addr) (H : Hp) : Prop where
  hb : Hb fr = none
  kp : Same Hb H
  hfr : H fr = some (.lst us.reverse)
  ok : FrOk K Hb fr H ls us stk
  td : TD K told v H
  mm : mu ws.length told s stk ≤ f
  mi : mu ws.length told s stk + i < 300
  few : ∀ p ∈ stk, (p.2.2.length : Int) < p.2.1
  laps : ∀ p ∈ stk, p.2.2.length ≤ i
  s4 : stk.length ≤ 4
theorem LapAt.same {K : PySem.W.Frag} {Hb H H' : Hp} {fr : Addr} {ws : List Str} {i f : Nat} {told : Option PyData} {v : V} {s : Nat} {rd du : Int} {stk : Stk} {us : List V} {ls : List Addr} (x : LapAt K Hb fr ws i f told v s rd du stk us ls H) (e : Same H H') : LapAt K Hb fr ws i f told v s rd du stk us ls H' :=
  ⟨x.hb, x.kp.trans e, e _ _ x.hfr, x.ok.gen (S := fun _ => False) (KpS.of e) (fun _ _ z => z.elim) (fun _ _ z => z), x.td.same e, x.mm, x.mi, x.few, x.laps, x.s4⟩
theorem nt_none {H H' : Hp} {a : Addr} (s : Same H H') (n : H' a = none) : NT H a := NT.none (s.freshA n)
/-- what the law's reader tells -/
def dueD : Except Int PyData → Option (Int × Int) × Option PyData
  | .error k => (some (1, k), none)
  | .ok d => (none, some d)
section
variable {P : Program} {w : World} {K : PySem.W.Frag} {mg : Str → Option Value} {base : Heap} (T : Txt w K mg)
def spDue (K : PySem.W.Frag) : Sp := fun vs H Q _ => ∃ x : Str, vs = [.str x] ∧ x.length < 50000 ∧ (Txt.split ((Txt.split x "\n").headD "") " ").length ≤ 70 ∧ (∀ y ∈ Txt.split ((Txt.split x "\n").headD "") " ", gd (.str y) = true) ∧
  (∀ k, readT (Txt.split ((Txt.split x "\n").headD "") " ") (Txt.split x "\n").length = .error k → ∀ r l H', Same H H' → H' r = some (.tup [.ref l, .non]) → H' l = some (.lst [.str "text", .int 1, .int k]) → H l = none → Q (.ref r) H') ∧
  (∀ d, readT (Txt.split ((Txt.split x "\n").headD "") " ") (Txt.split x "\n").length = .ok d → ∀ r v H', Same H H' → H' r = some (.tup [.non, v]) → Df K nof H' v d → Q (.ref r) H')
theorem ok_law_due : FnOk P w K mg base CX0 3 T.a_law_due T.d_law_due ["text"] (spDue K) := by
  have G_law_read_plain := ok_law_read_plain (P := P) (base := base) T
  have G_law_is_figures := ok_law_is_figures (P := P) (base := base) T
  refine T.D_law_due.fn.ok sc_law_due (fun vs H Q E h => ?_) (fun cdv A outer s H vs Q E hr h => ?_)
  · obtain ⟨x, rfl, _⟩ := h; rfl
  · obtain ⟨x, rfl, hx, h70, hg, k1, k2⟩ := h
    refine ⟨_, (pss_cons (ps_setLc (i := 1) (own := [("line", 2)]) rfl sc_law_due.nd rfl rfl (sw_true rfl rfl rfl (by decide +kernel)) (pi_list (pe_split (pv 0) pe_str)) (blkOk_by (own := [("line", 2)]) (N := ["text", "lines", "line", "words", "frames", "read", "due", "at", "told", "lap", "here", "has_room", "wrong", "kind", "many", "found"]) (sc := defScope s_law_due) (by decide +kernel)) (fun _ _ _ _ _ => (pg_name (i := 2) sc_law_due.nd rfl (by first | exact Or.inl rfl | exact Or.inr rfl))) (fun _ _ _ _ _ => pts_nil) (fun _ _ _ _ _ => (pe_split (pv 2) pe_str)))
      (pss_cons (ps_asg (pe_tup (pa_cons (pe_ix ix_seq (pv 1) pe_int (fun _ _ => rfl)) (pa_cons (pe_lst pa_nil) (pa_cons pe_int (pa_cons pe_int (pa_cons pe_int (pa_cons pe_non pa_nil))))))) (pg_tup rfl (pgs_cons (pg_name (i := 3) sc_law_due.nd rfl (by first | exact Or.inl rfl | exact Or.inr rfl)) (pgs_cons (pg_name (i := 4) sc_law_due.nd rfl (by first | exact Or.inl rfl | exact Or.inr rfl)) (pgs_cons (pg_name (i := 5) sc_law_due.nd rfl (by first | exact Or.inl rfl | exact Or.inr rfl)) (pgs_cons (pg_name (i := 6) sc_law_due.nd rfl (by first | exact Or.inl rfl | exact Or.inr rfl)) (pgs_cons (pg_name (i := 7) sc_law_due.nd rfl (by first | exact Or.inl rfl | exact Or.inr rfl)) (pgs_cons (pg_name (i := 8) sc_law_due.nd rfl (by first | exact Or.inl rfl | exact Or.inr rfl)) pgs_nil))))))))
      (pss_cons (ps_for PassesOwn.never rfl (pi_range1 (by rfl) T.b_range (pa_cons pe_int pa_nil)) (pg_name (i := 9) sc_law_due.nd rfl (by first | exact Or.inl rfl | exact Or.inr rfl)) (C8.pss_cut (ps_if (pt_cmpR op_isN (pv 8) pe_non (nomark _)) (pss_cons (ps_set (i := 10) sc_law_due.nd rfl (by first | exact Or.inl rfl | exact Or.inr rfl) (pe_ifExp (pt_cmpR op_lt (pv 7) (pe_callB call_len (by rfl) T.b_len bt_len (pa_cons (pv 3) pa_nil)) (nomark _)) (pe_ix ix_seq (pv 3) (pv 7) (fun _ _ => rfl)) pe_non))
      (pss_cons (ps_set (i := 11) sc_law_due.nd rfl (by first | exact Or.inl rfl | exact Or.inr rfl) (pe_and (pe_cmpR op_lt (pe_callB call_len (by rfl) T.b_len bt_len (pa_cons (pv 4) pa_nil)) pe_int (nomark _)) (pe_one (pe_cmpR op_lt (pe_op op_add (pv 5) (pv 6)) pe_int (nomark _)))))
      (pss_cons (ps_if (pt_cmpR op_notIn_seq (pv 10) (pe_op op_cat (pe_lst (pa_cons pe_str (pa_cons pe_str (pa_cons pe_str (pa_cons pe_str (pa_cons pe_str pa_nil)))))) (pe_ifExp (pt_val (pv 11)) (pe_lst (pa_cons pe_str (pa_cons pe_str pa_nil))) (pe_lst pa_nil))) (by rfl)) (pss_one (ps_ret (pe_tup (pa_cons (pe_lst (pa_cons pe_str (pa_cons pe_int (pa_cons (pe_op op_add (pv 7) pe_int) pa_nil)))) (pa_cons pe_non pa_nil))))) pss_nil)
      (pss_cons (ps_if (pt_cmpR op_in_seq (pv 10) (pe_lst (pa_cons pe_str (pa_cons pe_str pa_nil))) (by rfl)) (pss_cons (ps_if (PW.pt (pw_or (pt_cmpR op_ge (pe_op op_add (pv 7) pe_int) (pe_callB call_len (by rfl) T.b_len bt_len (pa_cons (pv 3) pa_nil)) (nomark _)) (pw_or (pt_not (pt_val (pe_call (G_law_is_figures) (hr.mono (by omega)) (by rfl) T.D_law_is_figures.mg T.D_law_is_figures.fn.kp T.D_law_is_figures.bd .nil pass0 (pa_cons (pe_ix ix_seq (pv 3) (pe_op op_add (pv 7) pe_int) (fun _ _ => rfl)) pa_nil)))) (pw_or1 (pt_not (pt_chain op_le op_le pe_int (pe_callTy call_int_str (by rfl) T.b_int bt_int (pa_cons (pe_ix ix_seq (pv 3) (pe_op op_add (pv 7) pe_int) (fun _ _ => rfl)) pa_nil)) (pe_op op_sub (pe_op op_sub pe_int (pv 5)) (pv 6)))))))) (pss_one (ps_ret (pe_tup (pa_cons (pe_lst (pa_cons pe_str (pa_cons pe_int (pa_cons (pe_op op_add (pv 7) pe_int) pa_nil)))) (pa_cons pe_non pa_nil))))) pss_nil)
      (pss_cons (ps_set (i := 6) sc_law_due.nd rfl (by first | exact Or.inl rfl | exact Or.inr rfl) (pe_op op_sub (pe_op op_add (pv 6) (pe_callTy call_int_str (by rfl) T.b_int bt_int (pa_cons (pe_ix ix_seq (pv 3) (pe_op op_add (pv 7) pe_int) (fun _ _ => rfl)) pa_nil))) pe_int))
      (pss_cons (ps_expr (pe_bm PySem.F.plainAttrs_list PySem.F.slot_list_append PySem.F.type_list_append mt_append (pv 4) (pa_cons (pe_tup (pa_cons (pv 10) (pa_cons (pe_callTy call_int_str (by rfl) T.b_int bt_int (pa_cons (pe_ix ix_seq (pv 3) (pe_op op_add (pv 7) pe_int) (fun _ _ => rfl)) pa_nil)) (pa_cons (pe_lst pa_nil) pa_nil)))) pa_nil)))
      (pss_cons (ps_set (i := 7) sc_law_due.nd rfl (by first | exact Or.inl rfl | exact Or.inr rfl) (pe_op op_add (pv 7) pe_int))
      (pss_one ps_continue))))) pss_nil)
      (pss_cons (ps_asg (pe_call (G_law_read_plain) (hr.mono (by omega)) (by rfl) T.D_law_read_plain.mg T.D_law_read_plain.fn.kp T.D_law_read_plain.bd .nil pass0 (pa_cons (pv 3) (pa_cons (pv 7) pa_nil))) (pg_tup rfl (pgs_cons (pg_name (i := 12) sc_law_due.nd rfl (by first | exact Or.inl rfl | exact Or.inr rfl)) (pgs_cons (pg_name (i := 8) sc_law_due.nd rfl (by first | exact Or.inl rfl | exact Or.inr rfl)) (pgs_cons (pg_name (i := 7) sc_law_due.nd rfl (by first | exact Or.inl rfl | exact Or.inr rfl)) pgs_nil)))))
      (pss_cons (ps_if (pt_cmpR op_gt (pv 12) pe_int (nomark _)) (pss_one (ps_ret (pe_tup (pa_cons (pe_lst (pa_cons pe_str (pa_cons pe_int (pa_cons (pv 12) pa_nil)))) (pa_cons pe_non pa_nil))))) pss_nil)
      (pss_one (ps_par (i := 5) (j := 6) (by rfl) sc_law_due.nd rfl rfl (by decide) rfl rfl (pa_cons (pe_op op_add (pv 5) pe_int) (pa_cons (pe_op op_sub (pv 6) pe_int) pa_nil)) (by rfl))))))))) pss_nil)
      (pss_cons (ps_if (pt_cmpR (op_eqE hr.units) (pv 4) (pe_lst pa_nil) (nomark _)) (pss_cons (ps_if (PW.pt (pw_or (pt_cmpR op_lt (pv 7) (pe_callB call_len (by rfl) T.b_len bt_len (pa_cons (pv 3) pa_nil)) (nomark _)) (pw_or1 (pt_cmpR op_gt (pe_callB call_len (by rfl) T.b_len bt_len (pa_cons (pv 1) pa_nil)) pe_int (nomark _))))) (pss_one (ps_ret (pe_tup (pa_cons (pe_lst (pa_cons pe_str (pa_cons pe_int (pa_cons (pe_op op_add (pv 7) pe_int) pa_nil)))) (pa_cons pe_non pa_nil))))) pss_nil)
      (pss_one (ps_ret (pe_tup (pa_cons pe_non (pa_cons (pv 8) pa_nil)))))) pss_nil)
      (pss_cons (ps_asg (pe_ix ix_seq (pv 4) (pe_un un_neg pe_int) (fun _ _ => rfl)) (pg_tup rfl (pgs_cons (pg_name (i := 13) sc_law_due.nd rfl (by first | exact Or.inl rfl | exact Or.inr rfl)) (pgs_cons (pg_name (i := 14) sc_law_due.nd rfl (by first | exact Or.inl rfl | exact Or.inr rfl)) (pgs_cons (pg_name (i := 15) sc_law_due.nd rfl (by first | exact Or.inl rfl | exact Or.inr rfl)) pgs_nil)))))
      (pss_cons (ps_expr (pe_bm PySem.F.plainAttrs_list PySem.F.slot_list_append PySem.F.type_list_append mt_append (pv 15) (pa_cons (pv 8) pa_nil)))
      (pss_cons (ps_set (i := 8) sc_law_due.nd rfl (by first | exact Or.inl rfl | exact Or.inr rfl) pe_non)
      (pss_one (ps_if (pt_cmpR op_eq (pe_callB call_len (by rfl) T.b_len bt_len (pa_cons (pv 15) pa_nil)) (pv 14) (nomark _)) (pss_cons (ps_expr (pe_bm0 PySem.F.plainAttrs_list PySem.F.slot_list_pop PySem.F.type_list_pop mt_pop (pv 4)))
      (pss_one (ps_set (i := 8) sc_law_due.nd rfl (by first | exact Or.inl rfl | exact Or.inr rfl) (pe_tup (pa_cons (pv 13) (pa_cons (pe_callTy call_tuple_of (by rfl) T.b_tuple bt_tuple (pa_cons (pv 15) pa_nil)) pa_nil)))))) pss_nil))))))))
      (pss_one (ps_ret (pe_tup (pa_cons (pe_lst (pa_cons pe_str (pa_cons pe_int (pa_cons pe_int pa_nil)))) (pa_cons pe_non pa_nil)))))))), ?_⟩
    refine s_set (K := K) (F := nn H) (d := .list (linesD x)) (ed_is (ed_lc (f := fun _ => true) (m := fun d => match d with | .str l => .list ((Txt.split l " ").map .str) | d => d) (ei_list (ed_split (ed_var rfl (.str x)) (ed_str (x := "\n")) (by decide +kernel) (by omega))) (by have := lines_few hx; rw [List.length_map]; omega) (fun F2 H2 e2 v2 d2 hm hd2 => ?_)) ?_) fun lv H1 s1 hlv => ?_
    · obtain ⟨l, hl, rfl⟩ := List.mem_map.mp hm
      have := lines_short (Nat.le_of_lt hx) l hl
      exact ⟨_, fun Q q => q, rfl, et_yes, fun _ => ed_split (ed_var rfl hd2) (ed_str (x := " ")) (by decide +kernel) (by omega)⟩
    · rw [filt_tt, List.map_map]; rfl
    obtain ⟨la, us0, rfl, hla, hus⟩ : ∃ la us, lv = .ref la ∧ SqL K H1 la us ∧ DpAll K H1 us (linesD x) := by
      cases df_dp hlv with
      | lst hs r => exact ⟨_, _, rfl, hs, r⟩
    generalize hL : Txt.split x "\n" = L at hg k1 k2 h70
    have hLd : linesD x = L.map fun l => .list ((Txt.split l " ").map .str) := by unfold linesD; rw [hL]
    have hn : L.length ≤ 50000 := by rw [← hL]; exact lines_few hx
    obtain ⟨l0, Lr, rfl⟩ : ∃ l0 Lr, L = l0 :: Lr := by
      cases L with
      | nil => have := split_pos x "\n"; rw [hL] at this; exact absurd this (by decide)
      | cons a b => exact ⟨a, b, rfl⟩
    rw [show (l0 :: Lr).headD ("" : Str) = l0 from rfl] at hg k1 k2 h70
    rw [hLd] at hus
    obtain ⟨v0, hv0, dv0⟩ := dps_get (i := 0) hus rfl
    obtain ⟨wl, rfl, hwl⟩ : ∃ wl, v0 = .ref wl ∧ SqL K H1 wl ((Txt.split l0 " ").map V.str) := by
      cases dv0 with
      | lst hs r => exact ⟨_, rfl, by have e := strs_dps r; rw [← e]; exact hs⟩
    generalize Txt.split l0 " " = ws at hg k1 k2 hwl h70
    generalize hnL : (l0 :: Lr).length = n at k1 k2 hn
    have hul : us0.length = n := by rw [← hnL, dps_len hus, List.length_map]
    have hll : (((l0 :: Lr).map fun l => PyData.list ((Txt.split l " ").map .str)).length) = n := by rw [← hnL, List.length_map]
    generalize ((l0 :: Lr).map fun l => PyData.list ((Txt.split l " ").map .str)) = LD at hus hll
    have dl : Dp K H1 (.ref la) (.list LD) := .lst hla hus
    clear hlv hus dv0 hLd hL hnL
    refine ⟨_, rfl, .inl ⟨_, _, _, _, rfl, rfl, hla, (atI_nat hv0 : atI us0 ((0 : Nat) : Int) = some (V.ref wl)), (by decide : 0 ≤ sizeLine), fun fr hfr => ⟨(by show 6 ≤ sizeLine; decide), fun tq htq => ?_⟩⟩⟩
    refine ⟨tq, _, rfl, .of upd_same, rfl, _, _, rfl, _, _, rfl, _, _, rfl, _, _, rfl, _, _, rfl, _, _, rfl, rfl, ?_⟩
    have s2 : Same H1 (upd (upd H1 fr (.lst [])) tq (.tup [.ref wl, .ref fr, .int 0, .int 1, .int 0, .non])) := (Same.newA hfr).trans (Same.newA htq)
    have efr : (upd (upd H1 fr (.lst [])) tq (.tup [.ref wl, .ref fr, .int 0, .int 1, .int 0, .non])) fr = some (.lst []) := by
      rw [upd_ne (fun q => by rw [← q, upd_same] at htq; cases htq), upd_same]
    generalize upd (upd H1 fr (.lst [])) tq (.tup [.ref wl, .ref fr, .int 0, .int 1, .int 0, .non]) = H2 at s2 efr ⊢
    clear htq tq
    have hlw : ((lenP (PyData.list (ws.map .str)) : Nat) : Int) = (ws.length : Int) := by show (((ws.map PyData.str).length : Nat) : Int) = _; rw [List.length_map]
    have ret : ∀ (te : TE) (σ : L2.St) (H' : Hp) (D : Ends) (k : Int), D.rt = Q → Same H1 H' → ED K te σ tru H' (.int k) → readT ws n = .error k → tRet (tTup (tCons (tLst (tCons (tC (.str "text")) (tCons (tC (.int 1)) (tCons te tNil)))) (tCons (tC .non) tNil))) D σ H' := fun te σ H' D k hD sH he hk => by
      refine he H' (Same.refl _) _ fun v H5 s5 hv => ?_
      cases hv
      refine ⟨(by show 3 ≤ sizeLine; decide), fun q hq => ⟨(by show 2 ≤ sizeLine; decide), fun r hr => ?_⟩⟩
      have sA := Same.newA (o := .lst [.str "text", .int 1, .int k]) hq
      have sB := Same.newA (o := .tup [.ref q, .non]) hr
      show D.rt _ _
      rw [hD]
      exact k1 k hk r q _ (((s1.trans sH).trans s5).trans (sA.trans sB)) upd_same (sB _ _ upd_same) ((s1.trans sH).freshA (s5.freshA hq))
    have eD : ∀ e, dutyR ws = .error e → readT ws n = .error ((e : Int) + 1) := fun e h => by unfold readT; rw [h]
    refine ⟨300, rfl, by decide, by decide, for_range (n := 300) (fun i σ' H' => ∃ f told v, ∃ s : Nat, ∃ (rd du : Int) (stk : Stk) (us : List V) (ls : List Addr) (o9 o10 o11 o12 o13 o14 o15 : Option V), σ' = [some (.str x), some (.ref la), none, some (.ref wl), some (.ref fr), some (.int rd), some (.int du), some (.int (s : Nat)), some v, o9, o10, o11, o12, o13, o14, o15] ∧ Rdy ws f told s rd du stk ∧ LapAt K H1 fr ws i f told v s rd du stk us ls H')
      ⟨4 * ws.length, none, .non, 0, 0, 1, [], [], [], none, none, none, none, none, none, none, rfl, .inl ⟨rfl, rfl, rfl, rfl⟩, ⟨hfr, s2, efr, .nil, rfl, Nat.le_refl _, by show 4 * (ws.length - 0) + 2 * 0 + 0 + 0 < 300; omega, fun p h => absurd h List.not_mem_nil, fun p h => absurd h List.not_mem_nil, by decide⟩⟩ ?_ ?_⟩
    · rintro i σ' H3 hi ⟨f, told, v, s, rd, du, stk, us, ls, o9, o10, o11, o12, o13, o14, o15, rfl, hR, hA⟩
      clear s2 efr
      refine ⟨fun σ' H' => ∃ f d v, ∃ s : Nat, ∃ (rd du : Int) (stk : Stk) (us : List V) (ls : List Addr) (o10 o11 o12 : Option V), σ' = [some (.str x), some (.ref la), none, some (.ref wl), some (.ref fr), some (.int rd), some (.int du), some (.int (s : Nat)), some v, some (.int (0 + (i : Int))), o10, o11, o12, o13, o14, o15] ∧ dutyGo ws f (some d) s rd du stk = dutyR ws ∧ LapAt K H1 fr ws i f (some d) v s rd du stk us ls H', ?_, ?_⟩
      · cases told with
        | some d => exact ⟨_, rfl, rfl, _, rfl, ite2 (fun h => absurd (of_decide_eq_true h) hA.td.2.2) (fun _ => ⟨f, d, v, s, rd, du, stk, us, ls, o10, o11, o12, rfl, hR, hA⟩)⟩
        | none =>
          obtain rfl : v = .non := hA.td
          obtain ⟨g, hgm, g1, g2, g3⟩ := rdy_begin hR hA.mm
          refine ⟨_, rfl, rfl, _, rfl, ite2 (fun _ => ?_) (fun h => absurd (decide_eq_true rfl) h)⟩
          have wv : ∀ {H5 : Hp} (o10 o11 : Option V), Same H3 H5 → ED K (tVar 3) [some (.str x), some (.ref la), none, some (.ref wl), some (.ref fr), some (.int rd), some (.int du), some (.int (s : Nat)), some .non, some (.int (0 + (i : Int))), o10, o11, o12, o13, o14, o15] tru H5 (.list (ws.map .str)) := fun {H5} o10 o11 s5 => ed_var rfl (.lst ((hA.kp.trans s5).slA hwl |>.imp (fun z => ⟨z, trivial⟩) id) (dfs_strs ws))
          refine s_set (K := K) (F := tru) (d := seenD ws[s]?) (ed_if (et_test (ed_lt (ed_var (i := 7) rfl (.int _)) (ed_len (wv _ _ (Same.refl _)) rfl))) (fun hb => ?_) (fun hb => ?_)) fun hv H4 s4 hhv => ?_
          · have hb := of_decide_eq_true hb
            rw [hlw] at hb
            have e : ws[s]? = some (ws[s]'(by omega)) := List.getElem?_eq_getElem _
            rw [e]
            exact ed_ixL (j := s) (wv _ _ (Same.refl _)) (ed_var (i := 7) rfl (.int _)) (by rw [List.getElem?_map, e]; rfl)
          · have hb := of_decide_eq_false hb
            rw [hlw] at hb
            rw [List.getElem?_eq_none (by omega)]
            exact ed_non
          have hA4 := hA.same s4
          have frv : ∀ {H5 : Hp} (o10 o11 : Option V), Same H4 H5 → ED K (tVar 4) [some (.str x), some (.ref la), none, some (.ref wl), some (.ref fr), some (.int rd), some (.int du), some (.int (s : Nat)), some .non, some (.int (0 + (i : Int))), o10, o11, o12, o13, o14, o15] tru H5 (.list (frD stk).reverse) := fun {H5} o10 o11 s5 => ed_var rfl (.lst (.inl ⟨.inl (s5 _ _ hA4.hfr), trivial⟩) (dfs_mono s5 (fun _ _ => trivial) (dfs_rev hA4.ok.data.1)))
          have hlf : ((lenP (PyData.list (frD stk).reverse) : Nat) : Int) = (stk.length : Int) := by show ((((frD stk).reverse).length : Nat) : Int) = _; rw [List.length_reverse]; unfold frD; rw [List.length_map]
          refine s_set (K := K) (F := tru) (d := .bool (decide ((stk.length : Int) < 4) && decide (rd + du < 4))) (ed_andV (ed_is (ed_lt (ed_len (frv _ _ (Same.refl _)) rfl) (ed_int (i := 4))) (by rw [hlf])) fun _ => ed_lt (ed_add (ed_var (i := 5) rfl (.int _)) (ed_var (i := 6) rfl (.int _))) (ed_int (i := 4))) fun rv H5 s5 hrv => ?_
          have hA5 := hA4.same s5
          have hhv5 := df_mono (G := tru) s5 (fun _ _ => trivial) hhv
          have s35 := s4.trans s5
          obtain ⟨rb, rfl, hrb⟩ : ∃ rb, rv = .bl rb ∧ (decide ((stk.length : Int) < 4) && decide (rd + du < 4)) = rb := by cases hrv; exact ⟨_, rfl, rfl⟩
          clear hhv hrv s4 hA hA4 s5
          have kel : EL (tOp rCat (tLst (tCons (tC (.str "call")) (tCons (tC (.str "row")) (tCons (tC (.str "steps")) (tCons (tC (.str "answer")) (tCons (tC (.str "never")) tNil)))))) (tIf (tB (tVar 11)) (tLst (tCons (tC (.str "all")) (tCons (tC (.str "any")) tNil))) (tLst tNil))) [some (.str x), some (.ref la), none, some (.ref wl), some (.ref fr), some (.int rd), some (.int du), some (.int (s : Nat)), some .non, some (.int (0 + (i : Int))), some hv, some (.bl rb), o12, o13, o14, o15] H5 (kindsOf stk.length rd du) := by
            unfold kindsOf
            rw [hrb]
            exact el_cat (el_lst (K := K) (F := tru) (xs := plainKinds) (ea_cons ed_str (ea_cons ed_str (ea_cons ed_str (ea_cons ed_str (ea_cons ed_str ea_nil))))) (by decide)) (el_if (et_B (K := K) (F := tru) (ed_var rfl (.bl rb))) (fun _ => el_lst (K := K) (F := tru) (xs := joints) (ea_cons ed_str (ea_cons ed_str ea_nil)) (by decide)) fun _ => el_lst (K := K) (F := tru) (xs := []) ea_nil (by decide)) (by cases rb <;> decide)
          refine s_if (et_seenNotIn (ed_var (K := K) (F := tru) (i := 10) rfl hhv5) kel) (fun hb H6 s6 => ?_) (fun hb H6 s6 => ?_)
          · have eB : beginR ws stk.length rd du s = .bad s := by
              unfold beginR
              cases hx : ws[s]? with
              | none => rfl
              | some y =>
                rw [hx] at hb
                dsimp only
                rw [if_neg (by simpa [inO] using hb)]
            exact ret _ _ H6 _ _ rfl (hA5.kp.trans s6) (ed_add (ed_var (i := 7) rfl (.int _)) (ed_int (i := 1))) (eD s (g3 s eB))
          · have hx' : ∃ y, ws[s]? = some y ∧ y ∈ kindsOf stk.length rd du := by
              cases hx : ws[s]? with
              | none => rw [hx] at hb; cases hb
              | some y =>
                rw [hx] at hb
                have hb : (!decide (y ∈ kindsOf stk.length rd du)) = false := hb
                exact ⟨y, rfl, by simpa using hb⟩
            obtain ⟨y, hy, hyk⟩ := hx'
            obtain rfl : hv = .str y := by rw [hy] at hhv5; cases hhv5; rfl
            have gy := hg y (List.mem_of_getElem? hy)
            have hA6 := hA5.same s6
            have s36 := s35.trans s6
            have hsL : s < ws.length := (List.getElem?_eq_some_iff.mp hy).1
            clear hb kel hhv5 hA5 s35 s6 frv
            have jl : ∀ {σ : L2.St} {H7 : Hp}, ED K (tLst (tCons (tC (.str "all")) (tCons (tC (.str "any")) tNil))) σ tru H7 (.list ((["all", "any"] : List Str).map .str)) := fun {σ H7} => ed_lst (ea_cons ed_str (ea_cons ed_str ea_nil)) (by show 2 ≤ 100000; decide)
            refine s_if (et_test (ed_inSeq (K := K) (F := tru) (xs := ["all", "any"]) (ed_var (i := 10) rfl (.str y)) jl (.inr rfl))) (fun hj H7 s7 => ?_) (fun hj H7 s7 => ?_)
            · have hj : y ∈ joints := of_decide_eq_true hj
              have hA7 := hA6.same s7
              have s37 := s36.trans s7
              have ep2 : ∀ (σ : L2.St) (H' : Hp), σ[7]? = some (some (.int (s : Nat))) → ED K (tOp (rI0 fun i j => .int (i + j)) (tVar 7) (tC (.int 2))) σ tru H' (.int (((s + 1 : Nat) : Int) + 1)) := fun σ H' h7 => ed_is (ed_add (ed_var h7 (.int _)) (ed_int (i := 2))) (by congr 1)
              have ep1 : ∀ (σ : L2.St) (H' : Hp), σ[7]? = some (some (.int (s : Nat))) → ED K (tOp (rI0 fun i j => .int (i + j)) (tVar 7) (tC (.int 1))) σ tru H' (.int ((s + 1 : Nat) : Int)) := fun σ H' h7 => ed_is (ed_add (ed_var h7 (.int _)) (ed_int (i := 1))) (by congr 1)
              cases hz : ws[s + 1]? with
              | none =>
                have hlen : ws.length ≤ s + 1 := List.getElem?_eq_none_iff.mp hz
                refine s_if (b := true) (et_or (a := true) (b := true) (et_is (et_test (ed_ge (ep1 _ _ rfl) (ed_len (wv _ _ s37) rfl))) (by rw [hlw]; exact decide_eq_true (by omega))) (fun z => nomatch z)) (fun _ H8 s8 => ?_) (fun h => nomatch h)
                refine ret _ _ H8 _ _ rfl (hA7.kp.trans s8) (ep2 _ _ rfl) (eD (s + 1) (g3 (s + 1) ?_))
                unfold beginR
                rw [hy]; dsimp only
                rw [if_pos hyk, if_pos hj, hz]
              | some z =>
                have gz := hg z (List.mem_of_getElem? hz)
                have hlen : s + 1 < ws.length := (List.getElem?_eq_some_iff.mp hz).1
                have zx : ∀ {H8 : Hp} (σ6 : Option V), Same H7 H8 → ED K (tOp (rIx K) (tVar 3) (tOp (rI0 fun i j => .int (i + j)) (tVar 7) (tC (.int 1)))) [some (.str x), some (.ref la), none, some (.ref wl), some (.ref fr), some (.int rd), σ6, some (.int (s : Nat)), some .non, some (.int (0 + (i : Int))), some (.str y), some (.bl rb), o12, o13, o14, o15] tru H8 (.str z) := fun {H8} σ6 s8 => ed_ixL (j := s + 1) (ed_var rfl (.lst ((hA7.kp.trans s8).slA hwl |>.imp (fun z => ⟨z, trivial⟩) id) (dfs_strs ws))) (ep1 _ _ rfl) (by rw [List.getElem?_map, hz]; rfl)
                have nI : ∀ {H8 : Hp} (σ6 : Option V), numB z = true → Same H7 H8 → ED K _ _ tru H8 (.int (numV z)) := fun {H8} σ6 hb s8 => ed_intS (zx σ6 s8) (num_int hb).1 (by have := (num_int hb).2; omega)
                refine s_if (b := !numOk 2 (4 + 1 - rd - du) z) (et_is (et_or (et_test (ed_ge (ep1 _ _ rfl) (ed_len (wv _ _ s37) rfl))) fun _ => et_or (et_not (et_B (ed_call (ea_cons (zx _ (Same.refl _)) ea_nil) (rdc_fig gz)))) fun hb => et_not (et_test (ed_chain (r := rI0 fun i j => .bl (decide (i ≤ j))) (r' := rI0 fun i j => .bl (decide (i ≤ j))) (ed_int (i := 2)) (nI _ (by simpa using hb) (Same.refl _)) (ed_sub (ed_sub (ed_int (i := 5)) (ed_var (i := 5) rfl (.int _))) (ed_var (i := 6) rfl (.int _))) rd_cmp fun _ => rd_cmp))) ?_) (fun hb H8 s8 => ?_) (fun hb H8 s8 => ?_)
                · rw [hlw, decide_eq_false (by omega : ¬ (ws.length : Int) ≤ ((s + 1 : Nat) : Int))]
                  unfold numOk
                  rw [Bool.false_or]
                  show (!numB z || !(decide (2 ≤ numV z) && decide (numV z ≤ 5 - rd - du))) = !(numB z && (decide (2 ≤ numV z) && decide (numV z ≤ 4 + 1 - rd - du)))
                  rw [show (4 : Int) + 1 - rd - du = 5 - rd - du by omega]
                  generalize (decide (2 ≤ numV z) && decide (numV z ≤ 5 - rd - du)) = c9
                  cases numB z <;> cases c9 <;> rfl
                · refine ret _ _ H8 _ _ rfl (hA7.kp.trans s8) (ep2 _ _ rfl) (eD (s + 1) (g3 (s + 1) ?_))
                  unfold beginR
                  rw [hy]; dsimp only
                  rw [if_pos hyk, if_pos hj, hz]; dsimp only
                  rw [if_neg (by simpa using hb)]
                · have hok : numOk 2 (4 + 1 - rd - du) z = true := by simpa using hb
                  have hnb : numB z = true := by unfold numOk at hok; exact (Bool.and_eq_true_iff.mp hok).1
                  have eB : beginR ws stk.length rd du s = .opened y (numV z) (s + 2) := by
                    unfold beginR
                    rw [hy]; dsimp only
                    rw [if_pos hyk, if_pos hj, hz]; dsimp only
                    rw [if_pos hok]
                  have hG := g2 y (numV z) (s + 2) eB
                  have room := joints_room hyk hj
                  refine s_set (K := K) (F := tru) (ed_sub (ed_add (ed_var (i := 6) rfl (.int _)) (nI _ hnb s8)) (ed_int (i := 1))) fun v9 H9 s9 hv9 => ?_
                  cases hv9
                  have s79 := s8.trans s9
                  have hA9 := hA7.same s79
                  refine ⟨_, rfl, .inl ⟨rfl, _, .of hA9.hfr⟩, ?_⟩
                  refine ⟨_, rfl, ?_⟩
                  refine run_edc (nI _ hnb s79) fun v10 H10 s10 hv10 => ?_
                  cases hv10
                  have hA10 := hA9.same s10
                  refine ⟨(by decide : 0 ≤ sizeLine), fun l hl => ⟨(by show 3 ≤ sizeLine; decide), fun a ha => ?_⟩⟩
                  have nlf : l ≠ fr := fun q => by rw [q, hA10.hfr] at hl; cases hl
                  have nal : a ≠ l := fun q => by rw [q, upd_same] at ha; cases ha
                  have sA := Same.newA (o := .lst []) hl
                  have sB := Same.newA (o := .tup [.str y, .int (numV z), .ref l]) ha
                  have hA11 := hA10.same (sA.trans sB)
                  have naf : a ≠ fr := fun q => by rw [q, sA _ _ hA10.hfr] at ha; cases ha
                  have nlb : H1 l = none := hA10.kp.freshA hl
                  refine ⟨fr, us.reverse, .ref a, rfl, rfl, hA11.hfr, by rw [List.length_reverse, hA11.ok.len, sizeLine_eq]; omega, ?_⟩
                  have kS : KpS (fun b => b = fr) (upd (upd H10 l (.lst [])) a (.tup [.str y, .int (numV z), .ref l])) (upd (upd (upd H10 l (.lst [])) a (.tup [.str y, .int (numV z), .ref l])) fr (.lst (us.reverse ++ [.ref a]))) := KpS.upd (.inl rfl)
                  refine s_set (K := K) (F := tru) (d := .int ((s + 2 : Nat) : Int)) (ed_is (ed_add (ed_var (i := 7) rfl (.int _)) (ed_int (i := 2))) (by congr 1)) fun v12 H12 s12 hv12 => ?_
                  cases hv12
                  have hls := hA11.ok.lists
                  have hFr := hA11.ok.gen kS (fun b u q e => by rw [q, hA11.hfr] at e; cases e; rfl) fun b hb q => (hls b hb).1 q
                  have hmu := hA11.mm
                  have hmi := hA11.mi
                  refine ⟨g, none, .non, s + 2, rd, du + numV z - 1, (y, numV z, []) :: stk, .ref a :: us, l :: ls, _, _, _, _, _, _, _, rfl, .inr ⟨List.cons_ne_nil _ _, by rw [show du + numV z - 1 = du + (numV z - 1) by omega]; exact hG⟩, LapAt.same ?_ s12⟩
                  refine ⟨hA11.hb, ?_, ?_, .cons ?_ ?_ .nil rfl (joint_lay hj) ?_ nlf (NT.none nlb) hFr, rfl, ?_, ?_, ?_, ?_, ?_⟩
                  · exact same_upd hA11.kp hA11.hb
                  · rw [upd_same, List.reverse_cons]
                  · rw [upd_ne naf, upd_same]
                  · rw [upd_ne nlf, upd_ne (Ne.symm nal), upd_same]
                  · intro z2
                    obtain ⟨_, vs, e⟩ := hA10.ok.lists l z2
                    rw [hl] at e; cases e
                  · unfold mu at hgm ⊢
                    rw [List.length_cons]
                    have : tn none = 0 := rfl
                    omega
                  · unfold mu at hmi ⊢
                    rw [List.length_cons]
                    have : tn none = 0 := rfl
                    omega
                  · intro p hp
                    rcases List.mem_cons.mp hp with rfl | hp
                    · have h2 : 2 ≤ numV z := by
                        unfold numOk at hok
                        rw [Bool.and_eq_true, Bool.and_eq_true, decide_eq_true_eq] at hok
                        exact hok.2.1
                      show ((0 : Nat) : Int) < numV z; omega
                    · exact hA11.few p hp
                  · intro p hp
                    rcases List.mem_cons.mp hp with rfl | hp
                    · exact Nat.zero_le _
                    · exact Nat.le_succ_of_le (hA11.laps p hp)
                  · rw [List.length_cons]; omega
            · have hj : y ∉ joints := of_decide_eq_false hj
              have hA7 := hA6.same s7
              have hpk := kinds_split hyk hj
              have eB : beginR ws stk.length rd du s = match namesR ws y (s + 1) with
                | .ok (nm, t) => .plain (plainD y nm) t
                | .error e => .bad e := by
                unfold beginR; rw [hy]; dsimp only; rw [if_pos hyk]; exact if_neg hj
              refine ⟨_, rfl, _, rfl, wl, ws, s, y, rfl, hA7.kp.slA hwl, by omega, hg, hy, hpk, fun nm t en r v8 H8 s8 hr8 hv8 => ?_, fun e en r xx H8 s8 hr8 => ?_⟩
              · rw [en] at eB
                have eB : beginR ws stk.length rd du s = .plain (plainD y nm) t := eB
                obtain ⟨b1, b2, b3, ds, b4⟩ := begin_plain hg eB
                refine ⟨r, _, rfl, .of hr8, rfl, _, _, rfl, _, _, rfl, _, _, rfl, rfl, ?_⟩
                refine s_if (b := false) (et_is (et_test (ed_gt (K := K) (F := tru) (ed_var (i := 12) rfl (.int 0)) (ed_int (i := 0)))) (by decide)) (fun h => nomatch h) fun _ H9 s9 => ?_
                have hA8 := hA7.same (s8.trans s9)
                refine ⟨_, rfl, _, _, rfl, rfl, _, rfl, _, _, rfl, rfl, _, _, rfl, ?_⟩
                refine ⟨g, plainD y nm, v8, t, rd + 1, du - 1, stk, us, ls, _, _, _, rfl, g1 _ t eB, ⟨hA8.hb, hA8.kp, hA8.hfr, hA8.ok, ⟨df_keepT (KeepT.of s9) hv8, b3, by rw [b4] at hv8; exact tup_ref hv8⟩, ?_, ?_, hA8.few, hA8.laps, hA8.s4⟩⟩
                · unfold mu at hgm ⊢
                  have h0 : tn none = 0 := rfl
                  have h1 : tn (some (plainD y nm)) = 1 := rfl
                  omega
                · have hmi := hA8.mi
                  unfold mu at hmi ⊢
                  have h0 : tn none = 0 := rfl
                  have h1 : tn (some (plainD y nm)) = 1 := rfl
                  omega
              · rw [en] at eB
                have eB : beginR ws stk.length rd du s = .bad e := eB
                refine ⟨r, _, rfl, .of hr8, rfl, _, _, rfl, _, _, rfl, _, _, rfl, rfl, ?_⟩
                refine s_if (b := true) (et_is (et_test (ed_gt (K := K) (F := tru) (ed_var (i := 12) rfl (.int ((e : Int) + 1))) (ed_int (i := 0)))) (decide_eq_true (by omega))) (fun _ H9 s9 => ?_) fun h => nomatch h
                exact ret _ _ H9 _ _ rfl ((hA7.kp.trans s8).trans s9) (ed_var (i := 12) rfl (.int ((e : Int) + 1))) (eD e (g3 e eB))
      · rintro σ' H4 ⟨f, d, v, s, rd, du, stk, us, ls, o10, o11, o12, rfl, hG, hA⟩
        clear hR
        have frv : ED K (tVar 4) [some (.str x), some (.ref la), none, some (.ref wl), some (.ref fr), some (.int rd), some (.int du), some (.int (s : Nat)), some v, some (.int (0 + (i : Int))), o10, o11, o12, o13, o14, o15] tru H4 (.list (frD stk).reverse) := ed_var rfl (.lst (.inl ⟨.inl hA.hfr, trivial⟩) (dfs_mono (Same.refl _) (fun _ _ => trivial) (dfs_rev hA.ok.data.1)))
        refine s_if (b := (frD stk).reverse.isEmpty) (et_test (ed_eqE frv ed_emp (canLays_rev hA.ok.data.2))) (fun hb H5 s5 => ?_) (fun hb H5 s5 => ?_)
        · have e0 : stk = [] := by
            cases stk with
            | nil => rfl
            | cons p r => simp [frD] at hb
          subst e0
          rw [dutyGo_nil] at hG
          have hA5 := hA.same s5
          have wv : ED K (tVar 3) [some (.str x), some (.ref la), none, some (.ref wl), some (.ref fr), some (.int rd), some (.int du), some (.int (s : Nat)), some v, some (.int (0 + (i : Int))), o10, o11, o12, o13, o14, o15] tru H5 (.list (ws.map .str)) := ed_var rfl (.lst (hA5.kp.slA hwl |>.imp (fun z => ⟨z, trivial⟩) id) (dfs_strs ws))
          have lv : ED K (tVar 1) [some (.str x), some (.ref la), none, some (.ref wl), some (.ref fr), some (.int rd), some (.int du), some (.int (s : Nat)), some v, some (.int (0 + (i : Int))), o10, o11, o12, o13, o14, o15] tru H5 (.list LD) := ed_var rfl (df_mono (Same.refl _) (fun _ _ => trivial) (dp_df (dp_mono hA5.kp dl)))
          have hn1 : 1 ≤ n := by rw [← hul]; exact Nat.pos_of_ne_zero fun z => by have := List.length_eq_zero_iff.mp z; rw [this] at hv0; cases hv0
          refine s_if (b := decide (s < ws.length) || decide (1 < n)) (et_is (et_or (et_test (ed_lt (ed_var (i := 7) rfl (.int _)) (ed_len wv rfl))) fun _ => et_test (ed_gt (ed_len lv rfl) (ed_int (i := 1)))) (by
            rw [hlw]
            have e1 : ((lenP (PyData.list LD) : Nat) : Int) = (n : Int) := by show ((LD.length : Nat) : Int) = _; rw [hll]
            rw [e1]
            congr 1
            · exact decide_eq_decide.mpr Int.ofNat_lt
            · exact decide_eq_decide.mpr (by omega))) (fun hc H6 s6 => ?_) (fun hc H6 s6 => ?_)
          · refine ret _ _ H6 _ _ rfl (hA5.kp.trans s6) (ed_add (ed_var (i := 7) rfl (.int _)) (ed_int (i := 1))) ?_
            rw [Bool.or_eq_true, decide_eq_true_eq, decide_eq_true_eq] at hc
            unfold readT
            rw [← hG]; dsimp only
            rw [if_pos (hc.elim .inl fun z => .inr (by omega))]
          · rw [Bool.or_eq_false_iff, decide_eq_false_iff_not, decide_eq_false_iff_not] at hc
            refine ⟨_, rfl, (by show 2 ≤ sizeLine; decide), fun r hr => ?_⟩
            refine k2 d ?_ r v _ (((s1.trans hA5.kp).trans s6).trans (Same.newA hr)) upd_same (df_keepT (KeepT.of (s6.trans (Same.newA hr))) hA5.td.1)
            unfold readT
            rw [← hG]; dsimp only
            rw [if_neg (fun z => z.elim hc.1 fun z => z (by omega))]
        · obtain ⟨k, m, found, rest, rfl⟩ : ∃ k m found rest, stk = (k, m, found) :: rest := by
            cases stk with
            | nil => simp [frD] at hb
            | cons p rest => exact ⟨p.1, p.2.1, p.2.2, rest, rfl⟩
          have hA5 := hA.same s5
          clear hA hb frv
          have hmm := hA5.mm
          have hmi := hA5.mi
          unfold mu at hmm hmi
          rw [List.length_cons] at hmm hmi
          have h1 : tn (some d) = 1 := rfl
          rw [h1] at hmm hmi
          obtain ⟨g, rfl⟩ : ∃ g, f = g + 1 := ⟨f - 1, by omega⟩
          rw [go_some] at hG
          have hfew := hA5.few _ (.head _)
          have hfew : (found.length : Int) < m := hfew
          have hlap := hA5.laps _ (.head _)
          have hlap : found.length ≤ i := hlap
          have hs4 := hA5.s4
          rw [List.length_cons] at hs4
          have hfr5 := hA5.hfr
          have htd := hA5.td
          cases hok : hA5.ok with
          | @cons l a ls us xs _ _ _ _ ha hl hdf hy hk n1 n2 n3 hRest =>
            rw [List.reverse_cons] at hfr5
            have exl : xs.length = found.length := dfs_len hdf
            refine ⟨_, rfl, _, rfl, .inl ⟨_, _, _, _, rfl, rfl, .of hfr5, atI_last us.reverse _, a, _, rfl, .of ha, rfl, _, _, rfl, _, _, rfl, _, _, rfl, rfl, ?_⟩⟩
            refine ⟨_, rfl, .inl ⟨rfl, _, .of hl⟩, _, rfl, l, xs, v, rfl, rfl, hl, by rw [sizeLine_eq]; omega, ?_⟩
            have ksl : KpS (fun b => b = l) H5 (upd H5 l (.lst (xs ++ [v]))) := KpS.upd (.inl rfl)
            have ktl : ∀ b u, b = l → H5 b = some u → isTup u = false := fun b u q e => by rw [q, hl] at e; cases e; rfl
            have hkt := keepT_of ksl ktl
            have hl6 : (upd H5 l (.lst (xs ++ [v]))) l = some (.lst (xs ++ [v])) := upd_same
            have ha6 : (upd H5 l (.lst (xs ++ [v]))) a = some (.tup [.str k, .int m, .ref l]) := by rw [upd_ne (fun q => by rw [q, hl] at ha; cases ha)]; exact ha
            have hfr6 : (upd H5 l (.lst (xs ++ [v]))) fr = some (.lst (us.reverse ++ [.ref a])) := by rw [upd_ne (Ne.symm n2)]; exact hfr5
            have hR6 := hRest.gen ksl ktl fun b hb q => n1 (q ▸ hb)
            have hd6 := dfs_app (dfs_keepT hkt hdf) (.cons (df_keepT hkt htd.1) .nil)
            have lnb : H1 l = none := by
              cases e : H1 l with
              | none => rfl
              | some o =>
                obtain ⟨ps, z⟩ := n3 o e
                have := hA5.kp _ _ e
                rw [hl, z] at this; cases this
            have kp6 : Same H1 (upd H5 l (.lst (xs ++ [v]))) := same_upd hA5.kp lnb
            have hy6 := canLays_app hy (canLays_one htd.2.1)
            generalize upd H5 l (.lst (xs ++ [v])) = H6 at hl6 ha6 hfr6 hR6 hd6 kp6 ⊢
            dsimp only
            refine s_set (K := K) (F := tru) ed_non fun v7 H7 s7 hv7 => ?_
            cases hv7
            refine s_if (b := decide ((found.length : Int) + 1 = m)) (et_is (et_test (ed_eqI (ed_len (ed_var (K := K) (F := tru) (i := 15) rfl (.lst (.inl ⟨.inl (s7 _ _ hl6), trivial⟩) (dfs_mono s7 (fun _ _ => trivial) hd6))) rfl) (ed_var (i := 14) rfl (.int m)))) (by
              have e1 : ((lenP (PyData.list (found ++ [d])) : Nat) : Int) = (found.length : Int) + 1 := by show (((found ++ [d]).length : Nat) : Int) = _; rw [List.length_append]; rfl
              rw [e1])) (fun hc H8 s8 => ?_) (fun hc H8 s8 => ?_)
            · have hc := of_decide_eq_true hc
              rw [if_neg (by omega)] at hG
              have s78 := s7.trans s8
              refine ⟨_, rfl, .inl ⟨rfl, _, .of (s78 _ _ hfr6)⟩, fr, _, .ref a, rfl, rfl, s78 _ _ hfr6, by simp, ?_⟩
              rw [List.dropLast_concat]
              refine ⟨_, rfl, _, rfl, l, xs ++ [v], rfl, .inl ⟨.inl (.inl (by rw [upd_ne n2]; exact s78 _ _ hl6)), fun t2 h2 => ?_⟩⟩
              have m2 : t2 ≠ fr := fun q => by rw [q, upd_same] at h2; cases h2
              refine ⟨(by show 2 ≤ sizeLine; decide), fun t1 h1' => ?_⟩
              have m1 : t1 ≠ fr := fun q => by rw [q, upd_ne (Ne.symm m2), upd_same] at h1'; cases h1'
              have m12 : t1 ≠ t2 := fun q => by rw [q, upd_same] at h1'; cases h1'
              have kS : KpS (fun b => b = fr) H6 (upd (upd (upd H8 fr (.lst us.reverse)) t2 (.tup (xs ++ [v]))) t1 (.tup [.str k, .ref t2])) := (((KpS.of (S := fun b => b = fr) s78).trans (KpS.upd (S := fun b => b = fr) (.inl rfl))).trans (KpS.upd (S := fun b => b = fr) (.inr h2))).trans (KpS.upd (S := fun b => b = fr) (.inr h1'))
              have kT : ∀ b u, b = fr → H6 b = some u → isTup u = false := fun b u q e => by rw [q, hfr6] at e; cases e; rfl
              have hkt2 := keepT_of kS kT
              refine ⟨g, some (.tuple [.str k, .tuple (found ++ [d])]), .ref t1, s, rd, du, rest, us, ls, _, _, _, _, _, _, _, rfl, hG, ⟨hA5.hb, ?_, ?_, hR6.gen kS kT fun b hb q => (hR6.lists b hb).1 q, ⟨.tup (.of upd_same) (.cons (.str _) (.cons (.tup (.of (by rw [upd_ne (Ne.symm m12), upd_same])) (dfs_keepT hkt2 hd6)) .nil)), ?_, fun z => nomatch z⟩, ?_, ?_, fun p hp => hA5.few p (.tail _ hp), fun p hp => Nat.le_succ_of_le (hA5.laps p (.tail _ hp)), by omega⟩⟩
              · have sx : Same H1 (upd H8 fr (.lst us.reverse)) := same_upd (kp6.trans s78) hA5.hb
                exact (sx.trans (Same.newA h2)).trans (Same.newA h1')
              · rw [upd_ne (Ne.symm m1), upd_ne (Ne.symm m2), upd_same]
              · simp only [PyData.canLay0, PyData.canLayAll0, Bool.and_eq_true] at hk hy6 ⊢
                exact ⟨hk, hy6, trivial⟩
              · unfold mu
                have : tn (some (PyData.tuple [.str k, .tuple (found ++ [d])])) = 1 := rfl
                omega
              · unfold mu
                have : tn (some (PyData.tuple [.str k, .tuple (found ++ [d])])) = 1 := rfl
                omega
            · have hc := of_decide_eq_false hc
              rw [if_pos (by omega)] at hG
              have s78 := s7.trans s8
              have hkt2 := KeepT.of s78
              refine ⟨g, none, .non, s, rd, du, (k, m, found ++ [d]) :: rest, .ref a :: us, l :: ls, _, _, _, _, _, _, _, rfl, .inr ⟨List.cons_ne_nil _ _, hG⟩, ⟨hA5.hb, kp6.trans s78, by rw [List.reverse_cons]; exact s78 _ _ hfr6, .cons (s78 _ _ ha6) (s78 _ _ hl6) (dfs_keepT hkt2 hd6) hy6 hk n1 n2 n3 (hR6.gen (S := fun _ => False) (KpS.of s78) (fun _ _ z => z.elim) fun _ _ z => z), rfl, ?_, ?_, ?_, ?_, by rw [List.length_cons]; omega⟩⟩
              · unfold mu
                rw [List.length_cons]
                have : tn none = 0 := rfl
                omega
              · unfold mu
                rw [List.length_cons]
                have : tn none = 0 := rfl
                omega
              · intro p hp
                rcases List.mem_cons.mp hp with rfl | hp
                · show (((found ++ [d]).length : Nat) : Int) < m
                  rw [List.length_append]; show ((found.length + 1 : Nat) : Int) < m; omega
                · exact hA5.few p (.tail _ hp)
              · intro p hp
                rcases List.mem_cons.mp hp with rfl | hp
                · show (found ++ [d]).length ≤ i + 1
                  rw [List.length_append]; show found.length + 1 ≤ i + 1; omega
                · exact Nat.le_succ_of_le (hA5.laps p (.tail _ hp))
    · rintro σ' H' ⟨f, told, v, s, rd, du, stk, us, ls, o9, o10, o11, o12, o13, o14, o15, rfl, hR, hA⟩
      have := hA.mi
      omega
end
end Ag

set_option Elab.async false
set_option linter.all false
set_option maxRecDepth 100000
set_option maxHeartbeats 1000000
set_option pp.maxSteps 400
/-! What is read can be shown. -/
namespace Ag
open PySem PySem.Spec PyProof.Rows L2
theorem names_le {ws : List Str} {kd : Str} {s t : Nat} {nm : List Str} (h : namesR ws kd s = .ok (nm, t)) : t ≤ ws.length := by
  unfold namesR at h
  split at h
  · split at h
    · split at h
      · split at h
        · rename_i hq
          cases h
          have := (List.getElem?_eq_some_iff.mp hq).1
          omega
        · cases h
      · cases h
    · cases h
  · cases h
theorem nmGo_names {ws : List Str} {kd : Str} : ∀ {f : Nat} {found : List Str} {s : Nat} {nm : List Str} {t : Nat}, (∀ x ∈ found, nameB x = true) → nmGo ws kd f found s = .ok (nm, t) → ∀ x ∈ nm, nameB x = true
  | 0, found, s, nm, t, hf, h => by cases h; exact hf
  | f + 1, found, s, nm, t, hf, h => by
    unfold nmGo at h
    split at h
    · split at h
      · split at h
        · rename_i x hx hok
          refine nmGo_names (fun y hy => ?_) h
          rcases List.mem_append.mp hy with hy | hy
          · exact hf y hy
          · rw [List.mem_singleton.mp hy]
            unfold okNm at hok
            exact (Bool.and_eq_true_iff.mp hok).1
        · cases h
      · cases h
    · cases h; exact hf
theorem names_names {ws : List Str} {kd : Str} {s t : Nat} {nm : List Str} (h : namesR ws kd s = .ok (nm, t)) : ∀ x ∈ nm, nameB x = true := by
  unfold namesR at h
  split at h
  · split at h
    · rename_i hn
      split at h
      · split at h
        · cases h
          exact nmGo_names (fun y hy => by rw [List.mem_singleton.mp hy]; exact hn) (by assumption)
        · cases h
      · cases h
    · cases h
  · cases h
theorem nameB_as {x : Str} (h : nameB x = true) : As 12 x := by
  unfold nameB at h
  simp only [Bool.and_eq_true, decide_eq_true_eq] at h
  refine ⟨fun c hc => ?_, by omega⟩
  have := List.all_eq_true.mp h.2 c hc
  rcases Bool.or_eq_true_iff.mp this with k | k
  · have := of_decide_eq_true k; omega
  · have := of_decide_eq_true k; omega
theorem kind_as {kd : Str} (h : kd ∈ plainKinds) : As 12 kd := by
  unfold plainKinds at h
  simp only [List.mem_cons, List.not_mem_nil, or_false] at h
  rcases h with rfl | rfl | rfl | rfl | rfl <;> exact as_of (by decide +kernel)
theorem joint_as {k : Str} (h : k ∈ joints) : As 12 k := by
  unfold joints at h
  simp only [List.mem_cons, List.not_mem_nil, or_false] at h
  rcases h with rfl | rfl <;> exact as_of (by decide +kernel)
theorem plainD_shown {kd : Str} {nm : List Str} (hk : As 12 kd) (hn : ∀ x ∈ nm, As 12 x) (h0 : nm ≠ []) (h5 : nm.length ≤ 5) : (plainD kd nm).showable = true ∧ (plainD kd nm).depth ≤ 4 ∧ (plainD kd nm).shown.length ≤ 1000 := by
  have lk := shown_word hk
  obtain ⟨i1, i2, i3⟩ := shownAll_strs hn
  have sd := strs_depth nm
  unfold plainD
  by_cases e : kd = "answer"
  · rw [if_pos e]
    refine ⟨?_, ?_, ?_⟩
    · simp only [PyData.showable, PyData.showableAll, i1]; rfl
    · simp only [PyData.depth, PyData.depthAll]; omega
    · refine tup_shown ?_
      have e1 : PyData.shownAll (.str kd :: nm.map .str) = reprText kd :: PyData.shownAll (nm.map .str) := by simp only [PyData.shownAll, PyData.shown]
      rw [e1, List.map_cons, List.sum_cons, List.length_cons, i2]; omega
  · rw [if_neg e]
    by_cases e : kd = "call"
    · rw [if_pos e]
      obtain ⟨x, xs, rfl⟩ : ∃ x xs, nm = x :: xs := by cases nm with | nil => exact absurd rfl h0 | cons x xs => exact ⟨x, xs, rfl⟩
      have lx := shown_word (hn x (.head _))
      refine ⟨by simp [PyData.showable, PyData.showableAll], by simp [PyData.depth, PyData.depthAll], ?_⟩
      refine tup_shown ?_
      simp only [List.headD_cons, PyData.shownAll, PyData.shown, List.map_cons, List.map_nil, List.sum_cons, List.sum_nil, List.length_cons, List.length_nil]
      omega
    · rw [if_neg e]
      have inner : (PyData.tuple (nm.map .str)).shown.length ≤ 700 := tup_shown (by rw [i2]; omega)
      refine ⟨?_, ?_, ?_⟩
      · simp only [PyData.showable, PyData.showableAll, i1]; rfl
      · simp only [PyData.depth, PyData.depthAll]; omega
      · refine tup_shown ?_
        have e1 : PyData.shownAll [.str kd, .tuple (nm.map .str)] = [reprText kd, (PyData.tuple (nm.map .str)).shown] := by simp only [PyData.shownAll, PyData.shown]
        rw [e1]
        simp only [List.map_cons, List.map_nil, List.sum_cons, List.sum_nil, List.length_cons, List.length_nil]
        omega
/-- what is shown of a datum, and how deep it is at a height of what is open -/
def okDat (h : Nat) (d : PyData) : Prop := d.showable = true ∧ d.depth ≤ 4 + 2 * (4 - h)
def phiL : List PyData → Nat | [] => 0 | d :: r => d.shown.length + 10 + phiL r
def phiS : Stk → Nat | [] => 0 | p :: r => 100 + phiL p.2.2 + phiS r
def phiT : Option PyData → Nat | none => 0 | some d => d.shown.length + 10
def okStk : Stk → Prop | [] => True | p :: r => (∀ d ∈ p.2.2, okDat (r.length + 1) d) ∧ p.1 ∈ joints ∧ okStk r
theorem phiL_app : ∀ (a b : List PyData), phiL (a ++ b) = phiL a + phiL b
  | [], b => by show phiL b = 0 + phiL b; omega
  | d :: a, b => by show d.shown.length + 10 + phiL (a ++ b) = d.shown.length + 10 + phiL a + phiL b; rw [phiL_app a b]; omega
theorem phiL_sum : ∀ (l : List PyData), ((PyData.shownAll l).map (·.length)).sum + 2 * (PyData.shownAll l).length ≤ phiL l ∧ (l ≠ [] → ((PyData.shownAll l).map (·.length)).sum + 2 * (PyData.shownAll l).length + 8 ≤ phiL l)
  | [] => by simp [PyData.shownAll, phiL]
  | d :: l => by
    have h := (phiL_sum l).1
    have e : PyData.shownAll (d :: l) = d.shown :: PyData.shownAll l := by simp only [PyData.shownAll]
    have e2 : phiL (d :: l) = d.shown.length + 10 + phiL l := rfl
    rw [e, List.map_cons, List.sum_cons, List.length_cons, e2]
    exact ⟨by omega, fun _ => by omega⟩
theorem wrap_dat {k : Str} {l : List PyData} {h : Nat} (hk : k ∈ joints) (hl : ∀ d ∈ l, okDat (h + 1) d) (h4 : h + 1 ≤ 4) (hn : l ≠ []) : okDat h (.tuple [.str k, .tuple l]) ∧ (PyData.tuple [.str k, .tuple l]).shown.length + 10 ≤ 100 + phiL l := by
  have hr : (reprText k).length ≤ 40 := by
    unfold joints at hk
    simp only [List.mem_cons, List.not_mem_nil, or_false] at hk
    rcases hk with rfl | rfl <;> decide +kernel
  have sa : PyData.showableAll l = true ∧ PyData.depthAll l ≤ 4 + 2 * (4 - (h + 1)) := by
    clear hn
    induction l with
    | nil => exact ⟨by simp [PyData.showableAll], by simp [PyData.depthAll]⟩
    | cons d r ih =>
      obtain ⟨a, b⟩ := ih fun y hy => hl y (.tail _ hy)
      obtain ⟨c, e⟩ := hl d (.head _)
      exact ⟨by simp only [PyData.showableAll, c, a]; rfl, by simp only [PyData.depthAll]; omega⟩
  have ph := (phiL_sum l).2 hn
  refine ⟨⟨by simp only [PyData.showable, PyData.showableAll, sa.1]; rfl, by simp only [PyData.depth, PyData.depthAll]; omega⟩, ?_⟩
  have inner : (PyData.tuple l).shown.length ≤ phiL l := tup_shown (by omega)
  have outer : (PyData.tuple [.str k, .tuple l]).shown.length ≤ 40 + phiL l + 7 := tup_shown (by
    have e : PyData.shownAll [.str k, .tuple l] = [reprText k, (PyData.tuple l).shown] := by simp only [PyData.shownAll, PyData.shown]
    rw [e]
    simp only [List.map_cons, List.map_nil, List.sum_cons, List.sum_nil, List.length_cons, List.length_nil]; omega)
  omega
theorem begin_shown {ws : List Str} {len : Nat} {rd du : Int} {s s' : Nat} {d : PyData} (h : beginR ws len rd du s = .plain d s') : d.showable = true ∧ d.depth ≤ 4 ∧ d.shown.length ≤ 1000 ∧ s < s' ∧ s' ≤ ws.length := by
  unfold beginR at h
  split at h
  · cases h
  · rename_i x hx
    split at h
    · rename_i hk
      split at h
      · split at h
        · split at h <;> cases h
        · cases h
      · rename_i hj
        split at h
        · rename_i nm t hn
          cases h
          have hp := names_pos hn
          obtain ⟨a, b, c⟩ := plainD_shown (kind_as (kinds_split hk hj)) (fun y hy => nameB_as (names_names hn y hy)) hp.1 hp.2.2
          exact ⟨a, b, c, by omega, names_le hn⟩
        · cases h
    · cases h
theorem go_shown {ws : List Str} : ∀ {f : Nat} {told : Option PyData} {s : Nat} {rd du : Int} {stk : Stk} {d : PyData} {s' : Nat}, (∀ d, told = some d → okDat stk.length d) → okStk stk → stk.length ≤ 4 → phiT told + phiS stk ≤ 1100 * s → s ≤ ws.length → dutyGo ws f told s rd du stk = .ok (d, s') → okDat 0 d ∧ d.shown.length ≤ 1100 * ws.length
  | 0, told, s, rd, du, stk, d, s', h1, h2, h3, h4, h5, h => by
    cases told with
    | none => cases h
    | some e =>
      cases h
      obtain ⟨a, b⟩ := h1 _ rfl
      have : phiT (some d) = d.shown.length + 10 := rfl
      exact ⟨⟨a, by omega⟩, by omega⟩
  | f + 1, told, s, rd, du, [], d, s', h1, h2, h3, h4, h5, h => by
    cases told with
    | none => cases h
    | some e =>
      cases h
      obtain ⟨a, b⟩ := h1 _ rfl
      have : phiT (some d) = d.shown.length + 10 := rfl
      exact ⟨⟨a, b⟩, by omega⟩
  | f + 1, none, s, rd, du, p :: r, d, s', h1, h2, h3, h4, h5, h => by
    rw [go_none (List.cons_ne_nil _ _)] at h
    have hT : phiT none = 0 := rfl
    cases hB : beginR ws (p :: r).length rd du s with
    | plain e t =>
      rw [hB] at h
      obtain ⟨b1, b2, b3, b4, b5⟩ := begin_shown hB
      refine go_shown (told := some e) (stk := p :: r) (fun d hd => ?_) h2 h3 ?_ b5 h
      · cases hd; exact ⟨b1, by omega⟩
      · have : phiT (some e) = e.shown.length + 10 := rfl
        omega
    | opened k m t =>
      rw [hB] at h
      obtain ⟨b1, b2, b3, b4, _⟩ := begin_opened hB
      refine go_shown (told := none) (stk := (k, m, []) :: p :: r) (fun d hd => by cases hd) ⟨fun d hd => absurd hd List.not_mem_nil, b3, h2⟩ (by rw [List.length_cons]; omega) ?_ (by omega) h
      have : phiS ((k, m, []) :: p :: r) = 100 + 0 + phiS (p :: r) := rfl
      omega
    | bad e => rw [hB] at h; cases h
  | f + 1, some e, s, rd, du, (k, m, found) :: r, d, s', h1, h2, h3, h4, h5, h => by
    rw [go_some] at h
    obtain ⟨g1, g2, g3⟩ := h2
    have g2 : k ∈ joints := g2
    have he := h1 e rfl
    have hT : phiT (some e) = e.shown.length + 10 := rfl
    have hS : phiS ((k, m, found) :: r) = 100 + phiL found + phiS r := rfl
    have hA : phiL (found ++ [e]) = phiL found + (e.shown.length + 10) := by rw [phiL_app]; rfl
    have all : ∀ d ∈ found ++ [e], okDat (r.length + 1) d := fun y hy => by
      rcases List.mem_append.mp hy with hy | hy
      · exact g1 y hy
      · rw [List.mem_singleton.mp hy]; exact he
    rw [List.length_cons] at h3
    split at h
    · refine go_shown (told := none) (stk := (k, m, found ++ [e]) :: r) (fun d hd => by cases hd) ⟨all, g2, g3⟩ (by rw [List.length_cons]; exact h3) ?_ h5 h
      have : phiS ((k, m, found ++ [e]) :: r) = 100 + phiL (found ++ [e]) + phiS r := rfl
      have hT0 : phiT none = 0 := rfl
      omega
    · obtain ⟨w1, w2⟩ := wrap_dat g2 all h3 (by simp)
      refine go_shown (told := some (.tuple [.str k, .tuple (found ++ [e])])) (stk := r) (fun d hd => by cases hd; exact w1) g3 (by omega) ?_ h5 h
      have : phiT (some (.tuple [.str k, .tuple (found ++ [e])])) = (PyData.tuple [.str k, .tuple (found ++ [e])]).shown.length + 10 := rfl
      omega
theorem read_shown {ws : List Str} {n : Nat} {d : PyData} (h : readT ws n = .ok d) : d.showable = true ∧ d.depth ≤ 12 ∧ d.shown.length ≤ 1100 * ws.length := by
  unfold readT at h
  split at h
  · cases h
  · rename_i d' s' hd
    split at h
    · cases h
    · cases h
      have key : okDat 0 d ∧ d.shown.length ≤ 1100 * ws.length := by
        unfold dutyR at hd
        cases hB : beginR ws 0 0 1 0 with
        | plain e t =>
          rw [hB] at hd
          obtain ⟨b1, b2, b3, b4, b5⟩ := begin_shown hB
          refine go_shown (told := some e) (stk := []) (fun d hd => ?_) trivial (by decide) ?_ b5 hd
          · cases hd; exact ⟨b1, by omega⟩
          · have : phiT (some e) = e.shown.length + 10 := rfl
            have h0 : phiS [] = 0 := rfl
            omega
        | opened k m t =>
          rw [hB] at hd
          obtain ⟨b1, b2, b3, b4, _⟩ := begin_opened hB
          refine go_shown (told := none) (stk := [(k, m, [])]) (fun d hd => by cases hd) ⟨fun d hd => absurd hd List.not_mem_nil, b3, trivial⟩ (by show 1 ≤ 4; decide) ?_ (by omega) hd
          have : phiS [(k, m, [])] = 100 + 0 + 0 := rfl
          have h0 : phiT none = 0 := rfl
          omega
        | bad e => rw [hB] at hd; cases hd
      exact ⟨key.1.1, key.1.2, key.2⟩
end Ag

set_option Elab.async false
set_option linter.all false
set_option maxRecDepth 100000
set_option maxHeartbeats 1000000
set_option pp.maxSteps 300
namespace Ag
open PySem PySem.Spec PyProof.Rows L2 LamX
theorem ed_notN {K : PySem.W.Frag} {σ : L2.St} {F : Addr → Prop} {H : Hp} {ta : TE} {d : PyData} (ha : ED K ta σ F H d) : ED K (tOp (fun x y H Q => y = .non ∧ Q (.bl (!decide (x = .non))) H) ta (tC .non)) σ F H (.bool (!isNone d)) := fun H1 s Q q =>
  ha H1 s _ fun v H2 s2 hv => by
    refine ⟨rfl, ?_⟩
    have e : decide (v = .non) = isNone d := by
      cases hv <;> first | rfl | exact decide_eq_false (fun z => nomatch z)
    rw [e]; exact q _ H2 s2 (.bl _)
theorem KeepT.extN {H H' : Hp} (e : ExtN H H') : KeepT H H' := fun a u h t => e a u h fun ps z => by subst z; cases t
theorem extN_upd {H H' : Hp} {a : Addr} {o : HO} (s : ExtN H H') (h : H a = none) : ExtN H (upd H' a o) := fun b u e n => by
  rw [upd_ne (ne_of_none e h)]; exact s _ _ e n
section
variable {P : Program} {w : World} {K : PySem.W.Frag} {mg : Str → Option Value} {base : Heap} {T : Txt w K mg} (LL : Lam4 T base)
/-- the law's look at what is read -/
def spIR : Sp := fun vs H Q _ => ∃ x : Str, vs = [.str x] ∧ x.length < 50000 ∧ (Txt.split ((Txt.split x "\n").headD "") " ").length ≤ 70 ∧ (∀ y ∈ Txt.split ((Txt.split x "\n").headD "") " ", gd (.str y) = true) ∧ Tabs LL.tbs H ∧ ∀ H', ExtN H H' → Tabs LL.tbs H' → Q (.bl true) H'
theorem ok_law_is_read : FnG P w K mg base CX0 18 T.a_law_is_read T.d_law_is_read ["text"] (spIR LL) := by
  have G_duty_read := ok_duty_read (P := P) LL
  have G_law_due := ok_law_due (P := P) (base := base) T
  obtain ⟨oc', od', kV', doc', pm', an', cdv', ct', osl', efw, lkw, hcw⟩ := T.D_law_why.fn.ex
  have LK := lkw
  rw [efw] at LK
  have BW := T.D_law_why.bd
  rw [efw] at BW
  refine okG T.D_law_is_read.fn sc_law_is_read (fun vs H Q E h => ?_) (fun A outer s H vs Q E hgd hr h => ?_)
  · obtain ⟨x, rfl, _⟩ := h; rfl
  · obtain ⟨x, rfl, hx, h70, hg, hT, k⟩ := h
    refine ⟨_, (pss_cons (ps_asg (pe_tup (pa_cons (pe_lst pa_nil) (pa_cons (pe_call (G_law_due) (hr.mono (by omega)) (by rfl) T.D_law_due.mg T.D_law_due.fn.kp T.D_law_due.bd .nil pass0 (pa_cons (pv 0) pa_nil)) pa_nil))) (pg_tup rfl (pgs_cons (pg_name (i := 1) sc_law_is_read.nd rfl (by first | exact Or.inl rfl | exact Or.inr rfl)) (pgs_cons (pg_name (i := 2) sc_law_is_read.nd rfl (by first | exact Or.inl rfl | exact Or.inr rfl)) pgs_nil))))
      (pss_cons (ps_if (pt_cmpR (op_neD hr.units) (pe_lamcall (t := fun E => tBM K "list" rAppend (tVar 1) (tCons (tCall (spOr (spDRead LL) (spDReadOdd (T := T))) [] E (tCons (tVar 0) tNil)) tNil)) (T := LL.tbs) (P := LL.t_law) (c := LL.c_law) (k := 13) (by rfl) T.D_law_why.mg T.D_law_why.fn.kp LK hcw BW sc_law_why rfl (.inl rfl) (why_gives T) LL.b_law LL.k_law LL.m_law LL.u_law (hr.mono (by omega)) (lamS_by (sc := defScope s_law_is_read) (by decide +kernel)) rfl (fun _ _ _ _ _ => rfl) (fun A outer s H E f c' hr => pe_bm PySem.F.plainAttrs_list PySem.F.slot_list_append PySem.F.type_list_append mt_append (pv 1) (pa_cons (pe_call G_duty_read (hr.mono (by omega)) (by rfl) T.D_duty_read.mg T.D_duty_read.fn.kp T.D_duty_read.bd .nil (passes_call (takes_of rfl rfl rfl rfl) fun _ _ _ _ z => z) (pa_cons (pv 0) pa_nil)) pa_nil))) (pe_ix ix_seq (pv 2) pe_int (fun _ _ => rfl)) (nomark _)) (pss_one (ps_ret pe_bl)) pss_nil)
      (pss_one (ps_ret (pe_or (pe_cmpR op_notN (pe_ix ix_seq (pv 2) pe_int (fun _ _ => rfl)) pe_non (nomark _)) (pe_one (pe_cmpR op_eq (pe_callB (cr_repr hgd hr.units) (by rfl) T.b_repr bt_repr (pa_cons (pe_ix ix_seq (pv 1) pe_int (fun _ _ => rfl)) pa_nil)) (pe_callB (cr_repr hgd hr.units) (by rfl) T.b_repr bt_repr (pa_cons (pe_ix ix_seq (pv 2) pe_int (fun _ _ => rfl)) pa_nil)) (nomark _)))))))), ?_⟩
    refine ⟨(by decide : 0 ≤ sizeLine), fun l hl => ⟨_, rfl, x, rfl, hx, h70, hg, fun kk hk r q H2 s2 hr2 hq nq => ⟨(by show 2 ≤ sizeLine; decide), fun t ht => ?_⟩, fun d hd r v H2 s2 hr2 hv => ⟨(by show 2 ≤ sizeLine; decide), fun t ht => ?_⟩⟩⟩
    · refine ⟨t, _, rfl, .of upd_same, rfl, _, _, rfl, _, _, rfl, rfl, ?_⟩
      have sA := Same.newA (o := .tup [.ref l, .ref r]) ht
      have el := sA _ _ (s2 _ _ upd_same)
      have er := sA _ _ hr2
      have eq := sA _ _ hq
      have s3 := ((Same.newA (o := .lst []) hl).trans s2).trans sA
      generalize upd H2 t (.tup [.ref l, .ref r]) = H3 at el er eq s3 ⊢
      have nql : q ≠ l := fun z => by rw [z, upd_same] at nq; cases nq
      refine ⟨hT.ext s3, fun H4 ext T4 Q' hQ' => ?_⟩
      refine ⟨_, rfl, .inl ⟨rfl, _, .of (ext _ _ el (fun _ z => nomatch z))⟩, _, rfl, Or.inl ⟨_, x, rfl, .str _, hx, T4, hg, fun k' hk' => ?_, fun d' hd' => by rw [hk] at hd'; cases hd'⟩⟩
      rw [hk] at hk'
      cases hk'
      intro dx H5 e5 t5 hdx
      refine ⟨1, kk, dx, rfl, rfl, hdx, fun p2 H6 s6 hp2 => ?_⟩
      have e36 := (ext.trans e5).trans (.of s6)
      have er6 := e36 _ _ er (fun _ z => nomatch z)
      have eq6 := e36 _ _ eq (fun _ z => nomatch z)
      obtain ⟨sh1, sh2⟩ := whyR_sh 1 kk
      have dw : ∀ {p : Addr}, H6 p = some (.lst [.str "text", .int 1, .int kk]) → Dp K H6 (.ref p) (whyR (some (1, kk))) := fun h => .lst (.inl (.inl h)) (.cons (.str _) (.cons (.int _) (.cons (.int _) .nil)))
      refine ⟨_, rfl, .inr (.inl ⟨_, _, _, _, rfl, rfl, .of er6, (atI_nat rfl : atI [V.ref q, V.non] ((0 : Nat) : Int) = some (V.ref q)), _, _, dw hp2, dw eq6, sh1, sh1, _, rfl, ite2 (fun h => absurd h (by rw [sh2]; decide)) fun _ => ?_⟩)⟩
      refine s_retB (K := K) (F := tru) (b := true) (ed_orV (a := true) (b := true) (ed_notN (ed_ixT (j := 0) (d := whyR (some (1, kk))) (ds := [whyR (some (1, kk)), .none]) (ed_var (i := 2) rfl (.tup (.of er6) (.cons (.lst (.inl ⟨.inl eq6, trivial⟩) (.cons (.str _) (.cons (.int _) (.cons (.int _) .nil)))) (.cons .non .nil)))) ed_int rfl)) fun z => nomatch z) rfl fun H7 s7 => ?_
      exact k H7 (((ExtN.of s3).trans e36).trans (.of s7)) ((t5.ext s6).ext s7)
    · refine ⟨t, _, rfl, .of upd_same, rfl, _, _, rfl, _, _, rfl, rfl, ?_⟩
      have sA := Same.newA (o := .tup [.ref l, .ref r]) ht
      have el := sA _ _ (s2 _ _ upd_same)
      have er := sA _ _ hr2
      have s3 := ((Same.newA (o := .lst []) hl).trans s2).trans sA
      have hv3 := df_keepT (KeepT.of sA) hv
      generalize upd H2 t (.tup [.ref l, .ref r]) = H3 at el er s3 hv3 ⊢
      refine ⟨hT.ext s3, fun H4 ext T4 Q' hQ' => ?_⟩
      refine ⟨_, rfl, .inl ⟨rfl, _, .of (ext _ _ el (fun _ z => nomatch z))⟩, _, rfl, Or.inl ⟨_, x, rfl, .str _, hx, T4, hg, fun k' hk' => (by rw [hd] at hk'; cases hk'), fun d' hd' u H5 e5 T5 hu => ?_⟩⟩
      rw [hd] at hd'
      cases hd'
      have e35 := ext.trans e5
      have el5 := e35 _ _ el (fun _ z => nomatch z)
      refine ⟨l, [], u, rfl, rfl, el5, by rw [sizeLine_eq]; decide, hQ' _ _ ?_⟩
      have nrl : r ≠ l := fun q => by rw [q, el] at er; cases er
      have er6 : (upd H5 l (.lst ([] ++ [u]))) r = some (.tup [.non, v]) := by rw [upd_ne nrl]; exact e35 _ _ er (fun _ z => nomatch z)
      have el6 : (upd H5 l (.lst ([] ++ [u]))) l = some (.lst [u]) := upd_same
      have kt : KeepT H5 (upd H5 l (.lst ([] ++ [u]))) := keepT_lst el5
      have hu6 := df_keepT kt hu
      have hv6 := df_keepT ((KeepT.extN e35).trans kt) hv3
      have eH : ExtN H (upd H5 l (.lst ([] ++ [u]))) := extN_upd ((ExtN.of s3).trans e35) hl
      have T6 : Tabs LL.tbs (upd H5 l (.lst ([] ++ [u]))) := tabs_lst el5 T5
      generalize upd H5 l (.lst ([] ++ [u])) = H6 at er6 el6 hu6 hv6 eH T6 ⊢
      obtain ⟨w1, w2, w3⟩ := read_shown hd
      have w2 : d.depth ≤ 50 := by omega
      have w3 : d.shown.length ≤ sizeLine := by
        have : 1100 * (Txt.split ((Txt.split x "\n").headD "") " ").length ≤ 1100 * 70 := Nat.mul_le_mul_left _ h70
        rw [sizeLine_eq]; omega
      refine ⟨_, rfl, .inr (.inl ⟨_, _, _, _, rfl, rfl, .of er6, (atI_nat rfl : atI [V.non, v] ((0 : Nat) : Int) = some V.non), .none, .none, .non, .non, by decide, by decide, _, rfl, ite2 (fun h => absurd h (by simp [PyData.eqv])) fun _ => ?_⟩)⟩
      have fv : ∀ H7, Same H6 H7 → ED K (tVar 2) [some (.str x), some (.ref l), some (.ref r)] tru H7 (.tuple [.none, d]) := fun H7 s7 => ed_var rfl (.tup (s7.stA (.of er6)) (.cons .non (.cons (df_mono s7 (fun _ z => z.elim) hv6) .nil)))
      have tv : ∀ H7, Same H6 H7 → ED K (tVar 1) [some (.str x), some (.ref l), some (.ref r)] tru H7 (.list [d]) := fun H7 s7 => ed_var rfl (.lst (.inl ⟨.inl (s7 _ _ el6), trivial⟩) (.cons (df_mono s7 (fun _ z => z.elim) hu6) .nil))
      refine s_retB (K := K) (F := tru) (b := true) (ed_orV (a := false) (b := true) (ed_notN (ed_ixT (j := 0) (d := .none) (fv H6 (Same.refl _)) ed_int rfl)) fun _ => ed_is (ed_eqS (ed_repr (ed_ixL (j := 0) (d := d) (tv H6 (Same.refl _)) ed_int rfl) w1 w2 w3) (ed_repr (ed_ixT (j := 1) (d := d) (fv H6 (Same.refl _)) ed_int rfl) w1 w2 w3)) (by rw [decide_eq_true rfl])) rfl fun H7 s7 => ?_
      exact k H7 (eH.trans (.of s7)) (T6.ext s7)
end
end Ag

set_option Elab.async false
set_option linter.all false
set_option maxRecDepth 100000
set_option maxHeartbeats 1000000
set_option pp.maxSteps 300
namespace Ag
open PySem PySem.Spec PyProof.Rows L2
section
variable {σ : L2.St} {H : Hp} {te : TE} {xs : List Str}
theorem run_el1 {Q : List V → Hp → Prop} (h : EL te σ H xs) (k : ∀ p H1, Same H H1 → H1 p = some (.lst (xs.map V.str)) → Q [.ref p] H1) : tCons te tNil σ H Q := h H (Same.refl _) _ k
end
/-- a word of up to forty plain signs, no blank and no line's end in it -/
def Wb (x : Str) : Prop := As 40 x ∧ ∀ c ∈ x.cps.toList, c ≠ 32 ∧ c ≠ 10
def wbB (x : Str) : Bool := asB 40 x && x.cps.toList.all fun c => decide (c ≠ 32) && decide (c ≠ 10)
theorem wb_of {x : Str} (h : wbB x = true) : Wb x := by
  unfold wbB at h
  rw [Bool.and_eq_true, List.all_eq_true] at h
  refine ⟨as_of h.1, fun c hc => ?_⟩
  have := h.2 c hc
  rw [Bool.and_eq_true, decide_eq_true_eq, decide_eq_true_eq] at this
  exact this
theorem all_cut {xs : List Str} {lo hi : Option Int} {p : Str → Prop} (h : ∀ x ∈ xs, p x) : ∀ x ∈ cutW xs lo hi, p x := fun x hx => h x (cutW_mem hx)
theorem all_app {xs ys : List Str} {p : Str → Prop} (h : ∀ x ∈ xs, p x) (k : ∀ x ∈ ys, p x) : ∀ x ∈ xs ++ ys, p x := fun x hx => (List.mem_append.mp hx).elim (h x) (k x)
theorem all_one {y : Str} {p : Str → Prop} (h : p y) : ∀ x ∈ [y], p x := fun x hx => by rw [List.mem_singleton.mp hx]; exact h
/-- how long the parts before and behind a place are -/
theorem cutW_to {xs : List Str} {d : Int} (h0 : 0 ≤ d) (h1 : d ≤ xs.length) : (cutW xs none (some d)).length = d.toNat := by
  obtain ⟨j, rfl⟩ : ∃ j : Nat, d = j := ⟨d.toNat, by omega⟩
  unfold cutW
  rw [HT.sIx_none, HT.sIx_nat, List.length_take, List.length_drop]
  simp only [Int.toNat_natCast]; omega
theorem cutW_from {xs : List Str} {d : Int} (h0 : 0 ≤ d) : (cutW xs (some d) none).length = xs.length - d.toNat := by
  obtain ⟨j, rfl⟩ : ∃ j : Nat, d = j := ⟨d.toNat, by omega⟩
  unfold cutW
  rw [HT.sIx_none, HT.sIx_nat, List.length_take, List.length_drop]
  simp only [Int.toNat_natCast]; omega
theorem cutW_one {xs : List Str} {d : Int} (h0 : 0 ≤ d) : (cutW xs (some d) (some (d + 1))).length ≤ 1 := by
  obtain ⟨j, rfl⟩ : ∃ j : Nat, d = j := ⟨d.toNat, by omega⟩
  unfold cutW
  rw [show ((j : Int) + 1) = ((j + 1 : Nat) : Int) from rfl, HT.sIx_nat, HT.sIx_nat, List.length_take, List.length_drop]
  omega
def spBent (K : PySem.W.Frag) : Sp := fun vs H Q _ => ∃ (p c wa ma : Addr) (ws ms : List Str) (n : Nat), vs = [.ref p, .ref wa, .ref ma] ∧ Pen p c n H ∧ H wa = some (.lst (ws.map V.str)) ∧ H ma = some (.lst (ms.map V.str)) ∧ (∀ x ∈ ws, Wb x) ∧ (∀ x ∈ ms, Wb x) ∧ ws.length ≤ 100 ∧ ms.length ≤ 100 ∧ n + 1000000 < 1000000000000 ∧
  ∀ (l : Addr) (ys : List Str) H', (∀ x ∈ ys, Wb x) → ys.length ≤ ws.length + 1 → H' l = some (.lst (ys.map V.str)) → But p H H' → Pen p c (n + 5) H' → Q (.ref l) H'
section
variable {P : Program} {w : World} {K : PySem.W.Frag} {mg : Str → Option Value} {base : Heap} (T : Txt w K mg)
theorem ok_bent : FnOk P w K mg base CX0 3 T.a_law_bent_words T.d_law_bent_words ["pen", "words", "more"] (spBent K) := by
  have G_law_draw := ok_draw (P := P) (base := base) T
  have G_law_pick := ok_pick (P := P) (base := base) T
  refine T.D_law_bent_words.fn.ok sc_law_bent_words (fun vs H Q E h => ?_) (fun cdv A outer s H vs Q E hr h => ?_)
  · obtain ⟨p, c, wa, ma, ws, ms, n, rfl, _⟩ := h; rfl
  · obtain ⟨p, c, wa, ma, ws, ms, n, rfl, hP, hw, hm, aw, am, lw, lm, nb, k⟩ := h
    refine ⟨_, (pss_cons (ps_par (i := 3) (j := 4) (by rfl) sc_law_bent_words.nd rfl rfl (by decide) rfl rfl (pa_cons (pe_call (G_law_draw) (hr.mono (by omega)) (by rfl) T.D_law_draw.mg T.D_law_draw.fn.kp T.D_law_draw.bd .nil pass0 (pa_cons (pv 0) (pa_cons (pe_op op_add (pe_callB call_len (by rfl) T.b_len bt_len (pa_cons (pv 1) pa_nil)) pe_int) pa_nil))) (pa_cons (pe_call (G_law_draw) (hr.mono (by omega)) (by rfl) T.D_law_draw.mg T.D_law_draw.fn.kp T.D_law_draw.bd .nil pass0 (pa_cons (pv 0) (pa_cons pe_int pa_nil))) pa_nil)) (by rfl))
      (pss_cons (ps_set (i := 5) sc_law_bent_words.nd rfl (by first | exact Or.inl rfl | exact Or.inr rfl) (pe_call (G_law_pick) (hr.mono (by omega)) (by rfl) T.D_law_pick.mg T.D_law_pick.fn.kp T.D_law_pick.bd .nil pass0 (pa_cons (pv 0) (pa_cons (pe_op op_cat (pv 2) (pe_lst (pa_cons pe_str (pa_cons pe_str (pa_cons pe_str (pa_cons pe_str (pa_cons pe_str (pa_cons pe_str pa_nil)))))))) pa_nil))))
      (pss_cons (ps_if (PW.pt (pw_or (pt_cmpR op_eq (pv 4) pe_int (nomark _)) (pw_or1 (pt_cmpR op_eq (pv 3) (pe_callB call_len (by rfl) T.b_len bt_len (pa_cons (pv 1) pa_nil)) (nomark _))))) (pss_one (ps_ret (pe_op op_cat (pe_op op_cat (pe_slice sl_list (pv 1) po_none (po_some (pv 3))) (pe_lst (pa_cons (pv 5) pa_nil))) (pe_slice sl_list (pv 1) (po_some (pv 3)) po_none)))) pss_nil)
      (pss_cons (ps_if (pt_cmpR op_eq (pv 4) pe_int (nomark _)) (pss_one (ps_ret (pe_op op_cat (pe_slice sl_list (pv 1) po_none (po_some (pv 3))) (pe_slice sl_list (pv 1) (po_some (pe_op op_add (pv 3) pe_int)) po_none)))) pss_nil)
      (pss_one (ps_ret (pe_op op_cat (pe_op op_cat (pe_slice sl_list (pv 1) po_none (po_some (pv 3))) (pe_ifExp (pt_cmpR op_eq (pv 4) pe_int (nomark _)) (pe_lst (pa_cons (pv 5) pa_nil)) (pe_op op_rep (pe_slice sl_list (pv 1) (po_some (pv 3)) (po_some (pe_op op_add (pv 3) pe_int))) pe_int))) (pe_slice sl_list (pv 1) (po_some (pe_op op_add (pv 3) pe_int)) po_none)))))))), ?_⟩
    have npw : wa ≠ p := hP.ne hw (fun _ z => nomatch z)
    have npm : ma ≠ p := hP.ne hm (fun _ z => nomatch z)
    have hlen : LenV K (.ref wa) H (ws.map V.str).length := .inl ⟨_, SqL.of hw, rfl⟩
    refine ⟨_, rfl, _, rfl, _, _, rfl, hlen, _, _, rfl, rfl, p, c, _, n, rfl, hP, by omega, by rw [List.length_map]; omega, by omega, fun d H1 d0 d1 b1 P1 => ?_⟩
    rw [List.length_map] at d1
    refine ⟨_, rfl, p, c, 4, n + 1, rfl, P1, by decide, by decide, by omega, fun e H2 e0 e1 b2 P2 => ⟨_, _, rfl, ?_⟩⟩
    have b12 := b1.trans b2
    have hm2 := b12 _ _ npm hm
    let σ0 : L2.St := [some (.ref p), some (.ref wa), some (.ref ma), some (.int d), some (.int e), none]
    have hmore : EL (tOp rCat (tVar 2) (tLst (tCons (tC (.str "")) (tCons (tC (.str "A")) (tCons (tC (.str "1a")) (tCons (tC (.str "5")) (tCons (tC (.str "0")) (tCons (tC (.str "01")) tNil)))))))) σ0 H2 (ms ++ (["", "A", "1a", "5", "0", "01"] : List Str)) :=
      el_cat (el_var rfl hm2) (el_lst (K := K) (F := nn H2) (ea_cons ed_str (ea_cons ed_str (ea_cons ed_str (ea_cons ed_str (ea_cons ed_str (ea_cons ed_str ea_nil)))))) (by decide)) (by show ms.length + 6 ≤ 100000; omega)
    have aO : ∀ x ∈ ms ++ (["", "A", "1a", "5", "0", "01"] : List Str), Wb x := all_app am fun x hx => wb_of (by
      have : ∀ x ∈ (["", "A", "1a", "5", "0", "01"] : List Str), wbB x = true := by decide +kernel
      exact this x hx)
    refine ⟨_, rfl, run_el1 hmore fun q H3 s3 hq => ⟨p, c, q, _, n + 2, rfl, P2.same s3, .inl (SqL.of hq), ?_, ?_, by omega, fun i v H4 hv b4 P4 => ?_⟩⟩
    · rw [List.length_map, List.length_append]; show 0 < ms.length + 6; omega
    · rw [List.length_map, List.length_append]; show ms.length + 6 < 100000; omega
    obtain ⟨o, ho, rfl⟩ := pick_str hv
    have ao := aO o ho
    have b14 : But p H H4 := b12.trans ((But.of s3).trans b4)
    have hw4 := b14 _ _ npw hw
    obtain ⟨j, rfl⟩ : ∃ j : Nat, d = j := ⟨d.toNat, by omega⟩
    have hj : j ≤ ws.length := by omega
    let σ1 : L2.St := [some (.ref p), some (.ref wa), some (.ref ma), some (.int j), some (.int e), some (.str o)]
    have vw : ∀ {H5}, Same H4 H5 → EL (tVar 1) σ1 H5 ws := fun s5 => el_var rfl (s5 _ _ hw4)
    have vd : ∀ H5, ED K (tVar 3) σ1 (nn H5) H5 (.int (j : Int)) := fun H5 => ed_var rfl (.int _)
    have ve : ∀ H5, ED K (tVar 4) σ1 (nn H5) H5 (.int e) := fun H5 => ed_var rfl (.int _)
    have vo : ∀ H5, ED K (tVar 5) σ1 (nn H5) H5 (.str o) := fun H5 => ed_var rfl (.str _)
    have dw : ∀ {H5}, Same H4 H5 → ED K (tVar 1) σ1 (nn H5) H5 (.list (ws.map .str)) := fun s5 => ed_var rfl (dp_df (.lst (.inl (.inl (s5 _ _ hw4))) (dps_strs ws)))
    have pre : ∀ {H5}, Same H4 H5 → EL (tSl (rSlL K) (tVar 1) tNoPart (tPart (tVar 3))) σ1 H5 (cutW ws none (some (j : Int))) := fun s5 => el_slice (vw s5) eo_none (eo_some (vd _))
    have post1 : ∀ {H5}, Same H4 H5 → EL (tSl (rSlL K) (tVar 1) (tPart (tOp (rI0 fun i j => .int (i + j)) (tVar 3) (tC (.int 1)))) tNoPart) σ1 H5 (cutW ws (some ((j : Int) + 1)) none) := fun s5 => el_slice (vw s5) (eo_some (ed_add (vd _) ed_int)) eo_none
    have one : ∀ {H5}, EL (tLst (tCons (tVar 5) tNil)) σ1 H5 [o] := fun {H5} => el_lst (K := K) (F := nn H5) (ea_cons (vo H5) ea_nil) (by show 1 ≤ 100000; decide)
    have lpre := cutW_to (xs := ws) (d := (j : Int)) (by omega) (by omega)
    have lpost := cutW_from (xs := ws) (d := (j : Int)) (by omega)
    have lpost1 := cutW_from (xs := ws) (d := (j : Int) + 1) (by omega)
    have lone := cutW_one (xs := ws) (d := (j : Int)) (by omega)
    have fin : ∀ {l : Addr} {ys : List Str} {H5 : Hp}, Same H4 H5 → H5 l = some (.lst (ys.map V.str)) → (∀ x ∈ ys, Wb x) → ys.length ≤ ws.length + 1 → Q (.ref l) H5 := fun s5 hl ha hn => k _ _ _ ha hn hl (b14.trans (.of s5)) ((P4.same s5).more (by omega))
    refine s_if (et_or (et_test (ed_eqI (ve H4) (ed_int (i := 0)))) fun _ => et_test (ed_eqI (vd H4) (ed_len (dw (Same.refl _)) rfl))) (fun hb H5 s5 => ?_) (fun hb H5 s5 => ?_)
    · refine run_el_ret (el_cat (el_cat (pre s5) one ?_) (el_slice (vw s5) (eo_some (vd _)) eo_none) ?_) fun l H6 s6 hl => fin (s5.trans s6) hl (all_app (all_app (all_cut aw) (all_one ao)) (all_cut aw)) ?_
      · show _ + 1 ≤ _; omega
      · rw [List.length_append]; show _ + 1 + _ ≤ _; omega
      · rw [List.length_append, List.length_append]; show _ + 1 + _ ≤ _; omega
    · refine s_if (et_test (ed_eqI (ve H5) (ed_int (i := 1)))) (fun hb2 H6 s6 => ?_) (fun hb2 H6 s6 => ?_)
      · have s56 := s5.trans s6
        refine run_el_ret (el_cat (pre s56) (post1 s56) (by omega)) fun l H7 s7 hl => fin (s56.trans s7) hl (all_app (all_cut aw) (all_cut aw)) ?_
        rw [List.length_append]; omega
      · have s56 := s5.trans s6
        have lz : j < ws.length := by
          have e2 : lenP (.list (ws.map PyData.str)) = ws.length := List.length_map _
          rw [e2] at hb
          simp at hb
          omega
        have mid := el_if (et_test (ed_eqI (ve H6) (ed_int (i := 2)))) (fun _ => one) (fun _ => el_rep2 (K := K) (F := nn H6) (xs := cutW ws (some (j : Int)) (some ((j : Int) + 1))) (el_slice (K := K) (vw s56) (eo_some (vd _)) (eo_some (ed_add (vd _) ed_int))) (ed_int (i := 2)) (by omega))
        have lmid : (if decide (e = 2) = true then [o] else cutW ws (some (j : Int)) (some ((j : Int) + 1)) ++ cutW ws (some (j : Int)) (some ((j : Int) + 1))).length ≤ 2 := by
          split
          · show 1 ≤ 2; decide
          · rw [List.length_append]; omega
        refine run_el_ret (el_cat (el_cat (pre s56) mid (by omega)) (post1 s56) (by rw [List.length_append]; omega)) fun l H7 s7 hl => fin (s56.trans s7) hl (all_app (all_app (all_cut aw) ?_) (all_cut aw)) ?_
        · split
          · exact all_one ao
          · exact all_app (all_cut aw) (all_cut aw)
        · rw [List.length_append, List.length_append]; omega
/-- a sign of a text, picked -/
def spPickT : Sp := fun vs H Q _ => ∃ (p c : Addr) (x : Str) (n : Nat), vs = [.ref p, .str x] ∧ Pen p c n H ∧ 0 < x.length ∧ x.length < 100000 ∧ n < 1000000000000 ∧
  ∀ (i ch : Nat) H', x.cps.toList[i]? = some ch → But p H H' → Pen p c (n + 1) H' → Q (.str ⟨#[ch]⟩) H'
theorem ok_pick_t : FnOk P w K mg base CX0 2 T.a_law_pick T.d_law_pick ["pen", "some"] spPickT := by
  have G_law_draw := ok_draw (P := P) (base := base) T
  refine T.D_law_pick.fn.ok sc_law_pick (fun vs H Q E h => ?_) (fun cdv A outer s H vs Q E hr h => ?_)
  · obtain ⟨p, c, x, n, rfl, _⟩ := h; rfl
  · obtain ⟨p, c, x, n, rfl, hP, x0, x1, n1, k⟩ := h
    refine ⟨_, (pss_one (ps_ret (pe_ix ix_seq (pv 1) (pe_call (G_law_draw) (hr.mono (by omega)) (by rfl) T.D_law_draw.mg T.D_law_draw.fn.kp T.D_law_draw.bd .nil pass0 (pa_cons (pv 0) (pa_cons (pe_callB call_len (by rfl) T.b_len bt_len (pa_cons (pv 1) pa_nil)) pa_nil))) (fun _ _ => rfl)))), ?_⟩
    have hl : LenV K (.str x) H x.length := ⟨small5 (by omega), rfl⟩
    refine ⟨_, rfl, _, rfl, _, rfl, _, _, rfl, hl, p, c, _, n, rfl, hP, by omega, by omega, n1, fun d H1 d0 d1 b1 P1 => ?_⟩
    have lx : x.length = x.cps.toList.length := TL.len_tl x
    have hd : d.toNat < x.cps.toList.length := by omega
    have hx : x.cps.toList[d.toNat]? = some x.cps.toList[d.toNat] := List.getElem?_eq_getElem hd
    exact .inr (.inr ⟨x, d, _, rfl, rfl, small5 (by omega), atI_int d0 hx, k _ _ _ hx b1 P1⟩)
theorem ok_pick_x : FnOk P w K mg base CX0 2 T.a_law_pick T.d_law_pick ["pen", "some"] (spOr (spPick K) spPickT) := fn_or (ok_pick T) (ok_pick_t T)
end
/-! ### texts that can be handed to the law's look -/
abbrev firstL (x : Str) : List Str := Txt.split ((Txt.split x "\n").headD "") " "
structure IRok (x : Str) : Prop where
  len : x.length < 50000
  few : (firstL x).length ≤ 70
  good : ∀ y ∈ firstL x, gd (.str y) = true
theorem split_wb {ws : List Str} (hn : ws ≠ []) (h : ∀ x ∈ ws, Wb x) : firstL (txW ws) = ws := by
  have hl : (10 : Nat) ∉ (txW ws).cps.toList := fun hc => by
    rcases join_sign hc with q | ⟨x, hx, q⟩
    · exact absurd q (by decide +kernel)
    · exact ((h x hx).2 10 q).2 rfl
  unfold firstL
  rw [split_one hl]
  show Txt.split (txW ws) " " = ws
  have e := TL.split_join (y := " ") (s := 32) (S := []) (by decide +kernel) (by decide +kernel) (parts := ws) hn (fun p hp hc => ((h p hp).2 32 hc).1 rfl)
  rw [TL.join_eq] at e
  exact e
theorem ir_words {ws : List Str} (hn : ws ≠ []) (h : ∀ x ∈ ws, Wb x) (hl : ws.length ≤ 70) : IRok (txW ws) := by
  have e := split_wb hn h
  refine ⟨?_, by rw [e]; exact hl, fun y hy => by rw [e] at hy; exact as_gd (h y hy).1 (by decide)⟩
  have := txW_len (n := 40) fun x hx => (h x hx).1.2
  omega
/-- how many blanks -/
def bl (x : Str) : Nat := x.cps.toList.count 32
theorem joinL_bl {S : List Nat} : ∀ {W : List (List Nat)} {w : List Nat}, w ∈ W → w.count 32 ≤ (TL.joinL S W).count 32
  | [], _, h => absurd h List.not_mem_nil
  | [p], w, h => by rw [List.mem_singleton.mp h]; exact Nat.le_refl _
  | p :: q :: W, w, h => by
    rw [joinL_cons (by simp), List.count_append, List.count_append]
    rcases List.mem_cons.mp h with rfl | h
    · omega
    · have := joinL_bl (S := S) h; omega
theorem joinL_parts : ∀ {W : List (List Nat)}, W.length ≤ (TL.joinL [32] W).count 32 + 1
  | [] => by simp
  | [p] => by simp
  | p :: q :: W => by
    have h := joinL_parts (W := q :: W)
    rw [joinL_cons (by simp), List.count_append, List.count_append, List.length_cons]
    have : List.count 32 [32] = 1 := by decide
    omega
theorem joinL_free : ∀ {W : List (List Nat)}, (∀ w ∈ W, w.count 32 = 0) → (TL.joinL [32] W).count 32 ≤ W.length
  | [], _ => by simp [TL.joinL]
  | [p], h => by have := h p (.head _); show p.count 32 ≤ 1; omega
  | p :: q :: W, h => by
    have h1 := h p (.head _)
    have h2 := joinL_free (W := q :: W) fun y hy => h y (.tail _ hy)
    rw [joinL_cons (by simp), List.count_append, List.count_append, List.length_cons]
    have : List.count 32 [32] = 1 := by decide
    omega
theorem tl_blank : TL.tl " " = [32] := by decide +kernel
theorem split_bl (x : Str) : (Txt.split x " ").length ≤ bl x + 1 := by
  have e := StrLaws.join_split x " "
  have h := joinL_parts (W := (Txt.split x " ").map TL.tl)
  rw [List.length_map, ← tl_blank, ← TL.tl_join, e] at h
  exact h
theorem line_bl (x : Str) : bl ((Txt.split x "\n").headD "") ≤ bl x := by
  have e := StrLaws.join_split x "\n"
  cases hL : Txt.split x "\n" with
  | nil => exact Nat.zero_le _
  | cons a r =>
    rw [hL] at e
    have h := joinL_bl (S := TL.tl "\n") (W := (a :: r).map TL.tl) (w := TL.tl a) (by simp)
    rw [← TL.tl_join, e] at h
    exact h
theorem join_mem {s : Str} : ∀ {xs : List Str} {x : Str} {c : Nat}, x ∈ xs → c ∈ x.cps.toList → c ∈ (Str.join s xs).cps.toList
  | [], x, c, h, _ => absurd h List.not_mem_nil
  | [z], x, c, h, hc => by rw [List.mem_singleton.mp h] at hc; exact hc
  | z :: y :: r, x, c, h, hc => by
    have e : (Str.join s (z :: y :: r)).cps.toList = (z.cps.toList ++ s.cps.toList) ++ (Str.join s (y :: r)).cps.toList := by
      show (z ++ s ++ Str.join s (y :: r)).cps.toList = _
      rw [show (z ++ s ++ Str.join s (y :: r)).cps.toList = (z ++ s).cps.toList ++ (Str.join s (y :: r)).cps.toList from TL.tl_append _ _, show (z ++ s).cps.toList = z.cps.toList ++ s.cps.toList from TL.tl_append _ _]
    rw [e]
    rcases List.mem_cons.mp h with rfl | h
    · exact List.mem_append_left _ (List.mem_append_left _ hc)
    · exact List.mem_append_right _ (join_mem h hc)
theorem as_split {n : Nat} {x s : Str} (h : As n x) : ∀ y ∈ Txt.split x s, As n y := fun y hy => by
  refine ⟨fun c hc => h.1 c ?_, Nat.le_trans (PyProof.Rows.part_short hy) h.2⟩
  have := join_mem (s := s) hy hc
  rw [StrLaws.join_split] at this; exact this
theorem as_first {n : Nat} {x : Str} (h : As n x) : ∀ y ∈ firstL x, As n y := by
  have : As n ((Txt.split x "\n").headD "") := by
    cases e : Txt.split x "\n" with
    | nil => exact ⟨fun c hc => absurd hc List.not_mem_nil, Nat.zero_le _⟩
    | cons a r => exact as_split h a (by rw [e]; exact List.mem_cons_self)
  exact as_split this
theorem ir_text {x : Str} (h : As 1000 x) (hb : bl x ≤ 69) : IRok x := by
  refine ⟨by have := h.2; omega, ?_, fun y hy => as_gd (as_first h y hy) (by decide)⟩
  have h1 := split_bl ((Txt.split x "\n").headD "")
  have h2 := line_bl x
  show (Txt.split ((Txt.split x "\n").headD "") " ").length ≤ 70
  omega
def irB (x : Str) : Bool := asB 1000 x && decide (bl x ≤ 69)
theorem ir_of {x : Str} (h : irB x = true) : IRok x := by
  unfold irB at h
  rw [Bool.and_eq_true, decide_eq_true_eq] at h
  exact ir_text (as_of h.1) h.2
theorem bl_app (x y : Str) : bl (x ++ y) = bl x + bl y := by
  unfold bl
  rw [show (x ++ y).cps.toList = x.cps.toList ++ y.cps.toList from TL.tl_append _ _, List.count_append]
theorem bl_cut (x : Str) (lo hi : Option Int) : bl (cutS x lo hi) ≤ bl x := by
  unfold bl cutS
  exact ((List.take_sublist _ _).trans (List.drop_sublist _ _)).count_le _
theorem bl_duty {D : Dt} (h : OkD D) (hn : npl D ≤ 4) : bl (txW (wdD D)) ≤ 30 ∧ As 420 (txW (wdD D)) := by
  have hw := wd_wdD h
  have hl := wdD_len h
  refine ⟨?_, ?_⟩
  · unfold bl txW
    have e : (Str.join " " (wdD D)).cps.toList = TL.joinL [32] ((wdD D).map TL.tl) := by rw [← tl_blank]; exact TL.tl_join _ _
    rw [e]
    have := joinL_free (W := (wdD D).map TL.tl) fun w hw' => by
      obtain ⟨x, hx, rfl⟩ := List.mem_map.mp hw'
      exact List.count_eq_zero.mpr fun hc => ((hw x hx).2 32 hc).1 rfl
    rw [List.length_map] at this
    omega
  · refine ⟨fun c hc => ?_, ?_⟩
    · rcases join_sign hc with q | ⟨x, hx, q⟩
      · have : ∀ c ∈ (" " : Str).cps.toList, c < 128 := by decide +kernel
        exact this c q
      · exact (hw x hx).1.1 c q
    · have := txW_len (n := 12) fun x hx => (hw x hx).1.2
      omega
end Ag

set_option Elab.async false
set_option linter.all false
set_option maxRecDepth 100000
set_option maxHeartbeats 2000000
set_option pp.maxSteps 300
namespace Ag
open PySem PySem.Spec PyProof.Rows L2 LamX
abbrev six : List Str := ["a", "b", "a", "c", "d", "e"]
def rowA (e : Nat) (kd : Str) : Str := ((kd ++ " ") ++ txW (cutW six none (some (1 + (e : Int))))) ++ " ;"
def rowsA (e : Nat) : List Str := (["row", "steps", "never", "answer", "call"] : List Str).map (rowA e)
def rowsB (n : Nat) : List Str := [(Txt.mul "any 2 " n ++ Txt.mul "call a ; " n) ++ "call a ;", "all 5 call a ;", "all 1 call a ;", "all 02 call a ; call b ;", "all 4 any 2 call a ;", "all 3 any 2 call a ; call a ; call b ; call c ;", "all 3 any 3 call a ;"]
def rowsC : List Str := ["answer a a ;", "call ;", "row a ;", "never ;", "", "all", "all 2 call a ;", "call a ; call b ;", "call a", "call a\n", "any 4 call a ; call a ; call a ; call a ;", "any 4 call a ; all"]
theorem rows_ok {e f : Nat} (he : e < 6) (hf : f < 3) : ∀ x ∈ rowsA e ++ rowsB (3 + f) ++ rowsC, irB x = true := by
  have hA : ∀ e < 6, (rowsA e).all irB = true := by decide +kernel
  have hB : ∀ f < 3, (rowsB (3 + f)).all irB = true := by decide +kernel
  have hC : rowsC.all irB = true := by decide +kernel
  intro x hx
  rcases List.mem_append.mp hx with hx | hx
  · rcases List.mem_append.mp hx with hx | hx
    · exact List.all_eq_true.mp (hA e he) x hx
    · exact List.all_eq_true.mp (hB f hf) x hx
  · exact List.all_eq_true.mp hC x hx
theorem mul_len {f : Nat} (hf : f < 3) : (Txt.mul "any 2 " (3 + f : Nat)).length ≤ 100 ∧ (Txt.mul "call a ; " (3 + f : Nat)).length ≤ 100 := by
  have h : ∀ f < 3, (Txt.mul "any 2 " (3 + f : Nat)).length ≤ 100 ∧ (Txt.mul "call a ; " (3 + f : Nat)).length ≤ 100 := by decide +kernel
  exact h f hf
theorem ed_repS {K : PySem.W.Frag} {σ : L2.St} {F : Addr → Prop} {H : Hp} {z : Str} {n i : Nat} (hz : z.length ≤ 1000) (hn : n ≤ 1000) (h : σ[i]? = some (some (.int (n : Int))) := by rfl) : ED K (tOp rRepS (tC (.str z)) (tVar i)) σ F H (.str (Txt.mul z n)) :=
  ed_op ed_str (ed_var h (.int _)) fun F a b H1 hx hy Q q => by
    cases hx; cases hy
    exact ⟨z, n, rfl, rfl, hz, hn, q _ _ (Same.refl _) (.str _)⟩
theorem cutD_map (xs : List Str) (lo hi : Option Int) : cutD (xs.map PyData.str) lo hi = (cutW xs lo hi).map .str := by
  unfold cutD cutW; rw [List.length_map, List.map_take, List.map_drop]
theorem run_lcS {K : PySem.W.Frag} {σ : L2.St} {F : Addr → Prop} {H : Hp} {wi : TI} {g : TG} {tt : TT} {te : TE} {vs : List Nat} {i : Nat} {Dn : Ends} {ds : List PyData} {f : PyData → Bool} {m : PyData → PyData} {stx : List Str} (hi : EI K wi σ F H ds) (hl : ds.length ≤ 50000)
    (ht : ∀ F2 H1, Ext F H F2 H1 → ∀ v d, d ∈ ds → Df K F2 H1 v d → ∃ σ2, (∀ Q : L2.St → Hp → Prop, Q σ2 H1 → g v (wipe σ vs) H1 Q) ∧ wipe σ2 vs = wipe σ vs ∧ ET tt σ2 H1 (f d) ∧ (f d = true → ED K te σ2 F2 H1 (m d)))
    (hm : (ds.filter f).map m = stx.map .str) (k : ∀ D H', Same H H' → H' D = some (.lst (stx.map V.str)) → Dn.nx (σ.set i (some (.ref D))) H') : tAsg (tLc wi g tt te vs) (gName i) Dn σ H :=
  lc_run hi hl ht H (Same.refl _) _ fun D ys H' s' n e r => k D H' s' (by
    rw [hm] at r
    have := strs_dps (dfs_dps r)
    rw [e, this])
def rJ (K : PySem.W.Frag) : V → List V → Hp → VK → Prop := fun x xs H Q => ∃ a p, ∃ ys : List Str, x = .str a ∧ xs = [.ref p] ∧ (SqL K H p (ys.map V.str) ∨ SqT K H p (ys.map V.str)) ∧ (ys.map (·.length)).sum + ys.length * a.length ≤ 16777216 ∧ Q (.str (Txt.join a ys)) H
theorem pe_joinK {X : Cx} {K : PySem.W.Frag} {o e : Expr} {to te : TE} {apos pos : Pos} (hK : X.K = K) (ho : PE X o to) (he : PE X e te) (hs : starEach [e] X.env = [(false, eval e X.env)] := by rfl) (hbase : attributeBase o "join" X.env (eval o X.env) = eval o X.env := by rfl) (hline : (apos.endLine == pos.line) = true := by rfl) :
    PE X (.Call (.Attribute o "join" apos) [e] [] pos) (tM1 (rJ K) to te) := by
  subst hK
  exact pe_join ho he hs hbase hline
theorem ed_lstS {K : PySem.W.Frag} {σ : L2.St} {H : Hp} {i : Nat} {a : Addr} {xs : List Str} (h : σ[i]? = some (some (.ref a))) (ha : H a = some (.lst (xs.map V.str))) : ED K (tVar i) σ tru H (.list (xs.map .str)) := ed_var h (.lst (.inl ⟨.inl ha, trivial⟩) (dfs_strs xs))
section
variable {P : Program} {w : World} {K : PySem.W.Frag} {mg : Str → Option Value} {base : Heap} {T : Txt w K mg} (LL : Lam4 T base)
theorem run_ir {σ : L2.St} {H : Hp} {te : TE} {tu tw : TS} {D : Ends} {x : Str} (h : ED K te σ tru H (.str x)) (ir : IRok x) (hT : Tabs LL.tbs H) (k : ∀ H1, ExtN H H1 → Tabs LL.tbs H1 → tw D σ H1) : tIfS (tNot (tB (tCall (spIR LL) [] E0 (tCons te tNil)))) tu tw D σ H :=
  h H (Same.refl _) _ fun v H1 s1 hv => by
    cases hv
    exact ⟨x, rfl, ir.len, ir.few, ir.good, hT.ext s1, fun H2 e2 T2 => ⟨true, rfl, k H2 ((ExtN.of s1).trans e2) T2⟩⟩
theorem run_ir2 {σ : L2.St} {H : Hp} {t : TT} {te : TE} {tu tw : TS} {D : Ends} {b : Bool} {x : Str} (h0 : ET t σ H b) (h : b = true → ∀ H1, Same H H1 → ED K te σ tru H1 (.str x)) (ir : b = true → IRok x) (hT : Tabs LL.tbs H) (k : ∀ H1, ExtN H H1 → Tabs LL.tbs H1 → tw D σ H1) : tIfS (tAnd t (tNot (tB (tCall (spIR LL) [] E0 (tCons te tNil))))) tu tw D σ H :=
  h0 H (Same.refl _) _ fun H1 s1 => by
    cases b with
    | false => exact k H1 (.of s1) (hT.ext s1)
    | true => exact run_ir LL (h rfl H1 s1) (ir rfl) (hT.ext s1) fun H2 e2 T2 => k H2 ((ExtN.of s1).trans e2) T2
theorem ed_joinW {F : Addr → Prop} {σ : L2.St} {H : Hp} {te : TE} {ws : List Str} {n : Nat} (h : ED K te σ F H (.list (ws.map .str))) (hl : ∀ x ∈ ws, x.length ≤ n) (hb : ws.length * (n + 1) ≤ 100000) : ED K (tM1 (fun x xs H Q => ∃ a p, ∃ ys : List Str, x = .str a ∧ xs = [.ref p] ∧ (SqL K H p (ys.map V.str) ∨ SqT K H p (ys.map V.str)) ∧ (ys.map (·.length)).sum + ys.length * a.length ≤ 16777216 ∧ Q (.str (Txt.join a ys)) H) (tC (.str " ")) te) σ F H (.str (txW ws)) := by
  refine ed_is (ed_join (ys := ws) (ed_str (x := " ")) h (.inl rfl) ?_) ?_
  · have q := sum_len hl
    have e : (" " : Str).length = 1 := by decide +kernel
    rw [e]
    rw [Nat.mul_add] at hb
    omega
  · rw [TL.join_eq]; rfl
theorem law_runs {a : Addr} {zs : List Int} {s : Shared} {H : Hp} (hT : ∀ p ∈ LL.tbs, H p.1 = some (.tbl #[])) (hs : SqL K H a (zs.map V.int)) (hl : zs.length ≤ 63) (e0 : Env0 P w K mg base callerA [] s H) :
    codeAny (model P w) callerA (.call (.ref T.a_law) ⟨[.ref a], []⟩) (CR CX0 [] P w H s (fun v _ => v = .bl true) fun _ _ _ => False) s := by
  have G_law_pen := ok_law_pen (P := P) (base := base) T
  have G_law_calls := ok_calls (P := P) (base := base) T
  have G_law_draw := ok_draw (P := P) (base := base) T
  have G_law_pick := ok_pick_x (P := P) (base := base) T
  have G_law_some_duty := ok_law_some_duty (P := P) (base := base) T 3
  have G_law_duty_words := ok_duty_words (P := P) (base := base) T 3
  have G_law_bent_words := ok_bent (P := P) (base := base) T
  have G_law_is_read := ok_law_is_read (P := P) LL
  obtain ⟨oc, od, kV, doc, pm, an, cdv, ct, osl, efd, lk, hcd⟩ := T.D_law.fn.ex
  have BL := T.D_law.bd
  rw [efd] at BL lk
  have kIn : K.In s.heap := e0.mod.kin.keeps fun b o e => (e0.bs b o e).1
  have rm : Room 20 callerA := ⟨rfl, by decide +kernel, by decide +kernel⟩
  refine run_ofS (N := ["script", "pen", "lap", "calls", "duty", "words", "more", "turn", "bent", "change", "text", "spot", "rows", "kind", "deep"]) (vs := [.ref a]) (us := [.ref a]) lk hcd sc_law rm e0 (BL s [.ref a] kIn rfl) (.cons rfl .nil) rfl fun hr => ?_
  refine ⟨_, (pss_cons (ps_set (i := 1) sc_law.nd rfl (by first | exact Or.inl rfl | exact Or.inr rfl) (pe_call (G_law_pen) (hr.mono (by omega)) (by rfl) T.D_law_pen.mg T.D_law_pen.fn.kp T.D_law_pen.bd .nil pass0 (pa_cons (pv 0) pa_nil)))
      (pss_cons (ps_for (passes_of rfl) rfl (pi_range1 (by rfl) T.b_range (pa_cons pe_int pa_nil)) (pg_name (i := 2) sc_law.nd rfl (by first | exact Or.inl rfl | exact Or.inr rfl)) (pss_cons (ps_set (i := 3) sc_law.nd rfl (by first | exact Or.inl rfl | exact Or.inr rfl) (pe_call (G_law_calls) (hr.mono (by omega)) (by rfl) T.D_law_calls.mg T.D_law_calls.fn.kp T.D_law_calls.bd .nil pass0 (pa_cons (pv 1) (pa_cons (pe_op op_add pe_int (pe_call (G_law_draw) (hr.mono (by omega)) (by rfl) T.D_law_draw.mg T.D_law_draw.fn.kp T.D_law_draw.bd .nil pass0 (pa_cons (pv 1) (pa_cons pe_int pa_nil)))) pa_nil))))
      (pss_cons (ps_set (i := 4) sc_law.nd rfl (by first | exact Or.inl rfl | exact Or.inr rfl) (pe_call (G_law_some_duty) (hr.mono (by omega)) (by rfl) T.D_law_some_duty.mg T.D_law_some_duty.fn.kp T.D_law_some_duty.bd .nil pass0 (pa_cons (pv 1) (pa_cons (pv 3) (pa_cons (pe_op op_add pe_int (pe_call (G_law_draw) (hr.mono (by omega)) (by rfl) T.D_law_draw.mg T.D_law_draw.fn.kp T.D_law_draw.bd .nil pass0 (pa_cons (pv 1) (pa_cons pe_int pa_nil)))) (pa_cons pe_int pa_nil))))))
      (pss_cons (ps_set (i := 5) sc_law.nd rfl (by first | exact Or.inl rfl | exact Or.inr rfl) (pe_call (G_law_duty_words) (hr.mono (by omega)) (by rfl) T.D_law_duty_words.mg T.D_law_duty_words.fn.kp T.D_law_duty_words.bd .nil pass0 (pa_cons (pv 4) pa_nil)))
      (pss_cons (ps_if (pt_not (pt_val (pe_callG (G_law_is_read) rfl (hr.mono (by omega)) (by rfl) T.D_law_is_read.mg T.D_law_is_read.fn.kp T.D_law_is_read.bd pass0 (pa_cons (pe_join pe_str (pv 5)) pa_nil)))) (pss_one (ps_ret pe_bl)) pss_nil)
      (pss_cons (ps_set (i := 6) sc_law.nd rfl (by first | exact Or.inl rfl | exact Or.inr rfl) (pe_op op_cat (pe_callTy call_list_of (by rfl) T.b_list bt_list (pa_cons (pv 3) pa_nil)) (pe_lst (pa_cons pe_str (pa_cons pe_str (pa_cons pe_str (pa_cons pe_str (pa_cons pe_str (pa_cons pe_str (pa_cons pe_str (pa_cons pe_str (pa_cons pe_str (pa_cons pe_str (pa_cons pe_str (pa_cons pe_str pa_nil)))))))))))))))
      (pss_one (ps_for (passes_of rfl) rfl (pi_range1 (by rfl) T.b_range (pa_cons pe_int pa_nil)) (pg_name (i := 7) sc_law.nd rfl (by first | exact Or.inl rfl | exact Or.inr rfl)) (pss_cons (ps_set (i := 8) sc_law.nd rfl (by first | exact Or.inl rfl | exact Or.inr rfl) (pv 5))
      (pss_cons (ps_for (passes_of rfl) rfl (pi_range1 (by rfl) T.b_range (pa_cons (pe_op op_add pe_int (pe_call (G_law_draw) (hr.mono (by omega)) (by rfl) T.D_law_draw.mg T.D_law_draw.fn.kp T.D_law_draw.bd .nil pass0 (pa_cons (pv 1) (pa_cons pe_int pa_nil)))) pa_nil)) (pg_name (i := 9) sc_law.nd rfl (by first | exact Or.inl rfl | exact Or.inr rfl)) (pss_cons (ps_set (i := 8) sc_law.nd rfl (by first | exact Or.inl rfl | exact Or.inr rfl) (pe_call (G_law_bent_words) (hr.mono (by omega)) (by rfl) T.D_law_bent_words.mg T.D_law_bent_words.fn.kp T.D_law_bent_words.bd .nil pass0 (pa_cons (pv 1) (pa_cons (pv 8) (pa_cons (pv 6) pa_nil)))))
      (pss_one (ps_if (PW.pt (pw_and (pt_cmpR (op_neE hr.units) (pv 8) (pe_lst pa_nil) (nomark _)) (pw_and1 (pt_not (pt_val (pe_callG (G_law_is_read) rfl (hr.mono (by omega)) (by rfl) T.D_law_is_read.mg T.D_law_is_read.fn.kp T.D_law_is_read.bd pass0 (pa_cons (pe_join pe_str (pv 8)) pa_nil))))))) (pss_one (ps_ret pe_bl)) pss_nil))))
      (pss_cons (ps_set (i := 10) sc_law.nd rfl (by first | exact Or.inl rfl | exact Or.inr rfl) (pe_join pe_str (pv 5)))
      (pss_cons (ps_set (i := 11) sc_law.nd rfl (by first | exact Or.inl rfl | exact Or.inr rfl) (pe_call (G_law_draw) (hr.mono (by omega)) (by rfl) T.D_law_draw.mg T.D_law_draw.fn.kp T.D_law_draw.bd .nil pass0 (pa_cons (pv 1) (pa_cons (pe_op op_add (pe_callB call_len (by rfl) T.b_len bt_len (pa_cons (pv 10) pa_nil)) pe_int) pa_nil))))
      (pss_one (ps_if (pt_not (pt_val (pe_callG (G_law_is_read) rfl (hr.mono (by omega)) (by rfl) T.D_law_is_read.mg T.D_law_is_read.fn.kp T.D_law_is_read.bd pass0 (pa_cons (pe_op op_add_str (pe_op op_add_str (pe_slice sl_str (pv 10) po_none (po_some (pv 11))) (pe_call (G_law_pick) (hr.mono (by omega)) (by rfl) T.D_law_pick.mg T.D_law_pick.fn.kp T.D_law_pick.bd .nil pass0 (pa_cons (pv 1) (pa_cons pe_str pa_nil)))) (pe_slice sl_str (pv 10) (po_some (pe_op op_add (pv 11) (pe_call (G_law_draw) (hr.mono (by omega)) (by rfl) T.D_law_draw.mg T.D_law_draw.fn.kp T.D_law_draw.bd .nil pass0 (pa_cons (pv 1) (pa_cons pe_int pa_nil))))) po_none)) pa_nil)))) (pss_one (ps_ret pe_bl)) pss_nil))))))))))))))
      (pss_cons (ps_set (i := 3) sc_law.nd rfl (by first | exact Or.inl rfl | exact Or.inr rfl) (pe_op op_add pe_int (pe_call (G_law_draw) (hr.mono (by omega)) (by rfl) T.D_law_draw.mg T.D_law_draw.fn.kp T.D_law_draw.bd .nil pass0 (pa_cons (pv 1) (pa_cons pe_int pa_nil)))))
      (pss_cons (ps_setLc (i := 12) (own := [("kind", 13)]) rfl sc_law.nd rfl rfl (sw_true rfl rfl rfl (by decide +kernel)) (pi_list (pe_lst (pa_cons pe_str (pa_cons pe_str (pa_cons pe_str (pa_cons pe_str (pa_cons pe_str pa_nil))))))) (blkOk_by (own := [("kind", 13)]) (N := ["script", "pen", "lap", "calls", "duty", "words", "more", "turn", "bent", "change", "text", "spot", "rows", "kind", "deep"]) (sc := defScope s_law) (by decide +kernel)) (fun _ _ _ _ _ => (pg_name (i := 13) sc_law.nd rfl (by first | exact Or.inl rfl | exact Or.inr rfl))) (fun _ _ _ _ _ => pts_nil) (fun _ _ _ _ _ => (pe_op op_add_str (pe_op op_add_str (pe_op op_add_str (pv 13) pe_str) (pe_joinK (K := K) rfl pe_str (pe_slice (r := rSlL K) sl_list (pe_lst (pa_cons pe_str (pa_cons pe_str (pa_cons pe_str (pa_cons pe_str (pa_cons pe_str (pa_cons pe_str pa_nil))))))) po_none (po_some (pv 3))))) pe_str)))
      (pss_cons (ps_set (i := 14) sc_law.nd rfl (by first | exact Or.inl rfl | exact Or.inr rfl) (pe_op op_add pe_int (pe_call (G_law_draw) (hr.mono (by omega)) (by rfl) T.D_law_draw.mg T.D_law_draw.fn.kp T.D_law_draw.bd .nil pass0 (pa_cons (pv 1) (pa_cons pe_int pa_nil)))))
      (pss_cons (ps_set (i := 12) sc_law.nd rfl (by first | exact Or.inl rfl | exact Or.inr rfl) (pe_op op_cat (pv 12) (pe_lst (pa_cons (pe_op op_add_str (pe_op op_add_str (pe_op op_repS pe_str (pv 14)) (pe_op op_repS pe_str (pv 14))) pe_str) (pa_cons pe_str (pa_cons pe_str (pa_cons pe_str (pa_cons pe_str (pa_cons pe_str (pa_cons pe_str pa_nil))))))))))
      (pss_cons (ps_set (i := 12) sc_law.nd rfl (by first | exact Or.inl rfl | exact Or.inr rfl) (pe_op op_cat (pv 12) (pe_lst (pa_cons pe_str (pa_cons pe_str (pa_cons pe_str (pa_cons pe_str (pa_cons pe_str (pa_cons pe_str (pa_cons pe_str (pa_cons pe_str (pa_cons pe_str (pa_cons pe_str (pa_cons pe_str (pa_cons pe_str pa_nil)))))))))))))))
      (pss_one (ps_ret (pe_cmpR (op_eqE hr.units) (pe_lc (own := [("text", 10)]) rfl sc_law.nd (pi_list (pv 12)) (blkOk_by (own := [("text", 10)]) (N := ["script", "pen", "lap", "calls", "duty", "words", "more", "turn", "bent", "change", "text", "spot", "rows", "kind", "deep"]) (sc := defScope s_law) (by decide +kernel)) (fun _ _ _ _ _ => (pg_name (i := 10) sc_law.nd rfl (by first | exact Or.inl rfl | exact Or.inr rfl))) (fun _ _ _ _ _ => (pts_one (pt_not (pt_val (pe_callG (G_law_is_read) rfl (hr.mono (by omega)) (by rfl) T.D_law_is_read.mg T.D_law_is_read.fn.kp T.D_law_is_read.bd pass0 (pa_cons (pv 10) pa_nil)))))) (fun _ _ _ _ _ => (pv 10))) (pe_lst pa_nil) (nomark _))))))))))), ?_⟩
  refine ⟨_, rfl, a, zs, rfl, hs, hl, fun p c H1 s1 P1 => ?_⟩
  have T1 : Tabs LL.tbs H1 := fun q hq => (TabS.nil (hT q hq)).ext s1
  refine ⟨5, rfl, by decide, by decide, for_range (n := 5) (fun i σ' H' => ∃ (o2 o3 o4 o5 o6 o7 o8 o9 o10 o11 : Option V), σ' = [some (.ref a), some (.ref p), o2, o3, o4, o5, o6, o7, o8, o9, o10, o11, none, none, none] ∧ Pen p c (1000000 * i) H' ∧ Tabs LL.tbs H')
    ⟨none, none, none, none, none, none, none, none, none, none, rfl, P1, T1⟩ ?_ ?_⟩
  · rintro i σ' H' hi ⟨o2, o3, o4, o5, o6, o7, o8, o9, o10, o11, rfl, P2, T2⟩
    clear P1 T1 s1 hs hT e0 lk hcd BL kIn
    refine ⟨_, rfl, _, rfl, p, c, 4, _, rfl, P2, by decide, by decide, by omega, fun d H3 d0 d1 b3 P3 => ⟨_, _, rfl, rfl, ?_⟩⟩
    obtain ⟨e, rfl⟩ : ∃ e : Nat, d = e := ⟨d.toNat, by omega⟩
    refine ⟨p, c, e + 1, 1000000 * i + 1, ?_, P3, by omega, by omega, fun cs ns H4 hn _ ecs b4 P4 => ?_⟩
    · show [V.ref p, V.int (1 + (e : Int))] ++ [] = _
      rw [show (1 : Int) + (e : Int) = ((e + 1 : Nat) : Int) by omega]; rfl
    have good := good_names hn (by omega) (by omega)
    have T4 := tabs_but P3 b4 (tabs_but P2 b3 T2)
    have st4 : SqT K H4 cs (ns.map V.str) := .of ecs
    clear hn P2 P3 T2 b3 b4 d0 d1 ecs
    refine ⟨_, rfl, _, rfl, _, rfl, p, c, 4, _, rfl, P4, by decide, by decide, by omega, fun d H5 d0 d1 b5 P5 => ⟨_, _, rfl, rfl, ?_⟩⟩
    obtain ⟨e2, rfl⟩ : ∃ e : Nat, d = e := ⟨d.toNat, by omega⟩
    have st5 := P4.st b5 st4
    refine ⟨p, c, cs, ns, _, e2 + 1, ?_, P5, st5, good, by omega, by omega, ?_, fun dv D H6 hdv okD dpD npD _ b6 P6 => ?_⟩
    · show [V.ref p, V.ref cs, V.int (1 + (e2 : Int)), V.int 3] ++ [] = _
      rw [show (1 : Int) + (e2 : Int) = ((e2 + 1 : Nat) : Int) by omega]; rfl
    · have : Cst 3 = 2700 := by decide
      omega
    have np4 : npl D ≤ 4 := by omega
    have T6 := tabs_but P5 b6 (tabs_but P4 b5 T4)
    have P6 := P6.more (m := 1000000 * i + 10000) (by have : Cst 3 = 2700 := by decide
                                                      omega)
    have st6 := P5.st b6 st5
    clear P4 T4 st4 P5 b5 b6 d0 d1 st5
    have wl := wdD_len okD
    have hw := wd_wdD okD
    have wb : ∀ x ∈ wdD D, Wb x := fun x hx => ⟨(hw x hx).1.more (by decide), (hw x hx).2⟩
    have w40 : ∀ x ∈ wdD D, x.length ≤ 40 := fun x hx => (wb x hx).1.2
    have irW := ir_words (wdD_ne D) wb (by omega)
    obtain ⟨blD, asD⟩ := bl_duty okD np4
    refine run_el_set (el_call (K := K) (F := nn H6) (ds := [dtD D]) (xs := wdD D) (ea_cons (ed_var (i := 4) rfl (dp_df hdv)) ea_nil) fun F vs H2 hvs Q q => ?_) fun wa H7 s7 hwa => ?_
    · obtain _ | ⟨h1, hvs⟩ := hvs
      cases hvs
      exact ⟨_, D, rfl, df_dp h1, dpD, okD, by omega, q⟩
    have P7 := P6.same s7
    have T7 := T6.ext s7
    have st7 := s7.stA st6
    clear P6 T6 st6 s7 hdv
    refine run_ir LL (ed_joinW (ed_lstS rfl hwa) w40 (by omega)) irW T7 fun H8 e8 T8 => ?_
    have P8 := P7.ext e8
    have st8 := P7.stK (Kp.ext e8) st7
    have hwa8 := e8 _ _ hwa (fun _ z => nomatch z)
    clear P7 T7 st7 e8 hwa
    refine run_el_set (el_cat (xs := ns) (ys := ["call", "row", "steps", "answer", "never", "all", "any", ";", "2", "3", "4", "nil"]) (el_listOf (K := K) (F := tru) (ed_var rfl (.tup st8 (dfs_strs ns)))) (el_lst (K := K) (F := tru) (ea_cons ed_str (ea_cons ed_str (ea_cons ed_str (ea_cons ed_str (ea_cons ed_str (ea_cons ed_str (ea_cons ed_str (ea_cons ed_str (ea_cons ed_str (ea_cons ed_str (ea_cons ed_str (ea_cons ed_str ea_nil)))))))))))) (by show 12 ≤ 100000; decide)) (by have := good.2.1; show ns.length + 12 ≤ 100000; omega)) fun ma H9 s9 hma => ?_
    have P9 := P8.same s9
    have T9 := T8.ext s9
    have hwa9 := s9 _ _ hwa8
    have wbM : ∀ x ∈ ns ++ (["call", "row", "steps", "answer", "never", "all", "any", ";", "2", "3", "4", "nil"] : List Str), Wb x := all_app (fun x hx => ⟨(good.2.2.2 x hx).2.more (by decide), nameB_sign (good.2.2.2 x hx).1⟩) fun x hx => wb_of (by
      have : ∀ x ∈ (["call", "row", "steps", "answer", "never", "all", "any", ";", "2", "3", "4", "nil"] : List Str), wbB x = true := by decide +kernel
      exact this x hx)
    have lM : (ns ++ (["call", "row", "steps", "answer", "never", "all", "any", ";", "2", "3", "4", "nil"] : List Str)).length ≤ 100 := by rw [List.length_append]; have := good.2.1; show ns.length + 12 ≤ 100; omega
    generalize ns ++ (["call", "row", "steps", "answer", "never", "all", "any", ";", "2", "3", "4", "nil"] : List Str) = ms at hma wbM lM
    clear P8 T8 st8 hwa8 s9
    refine ⟨5, rfl, by decide, by decide, for_range (n := 5) (fun t σ' H' => ∃ (o7 o8 o9 o10 o11 : Option V), σ' = [some (.ref a), some (.ref p), some (.int (0 + (i : Int))), some (.ref cs), some dv, some (.ref wa), some (.ref ma), o7, o8, o9, o10, o11, none, none, none] ∧ Pen p c (1000000 * i + 20000 + 10000 * t) H' ∧ Tabs LL.tbs H' ∧ H' wa = some (.lst ((wdD D).map V.str)) ∧ H' ma = some (.lst (ms.map V.str)))
      ⟨o7, o8, o9, o10, o11, rfl, P9.more (by omega), T9, hwa9, hma⟩ ?_ ?_⟩
    · clear P9 T9 hwa9 hma
      rintro t σ' H' ht ⟨o7, o8, o9, o10, o11, rfl, P2, T2, hwa, hma⟩
      refine ⟨_, rfl, ?_⟩
      refine ⟨_, rfl, p, c, 3, _, rfl, P2, by decide, by decide, by omega, fun d H3 d0 d1 b3 P3 => ⟨_, _, rfl, rfl, ?_⟩⟩
      obtain ⟨e3, rfl⟩ : ∃ e : Nat, d = e := ⟨d.toNat, by omega⟩
      have T3 := tabs_but P2 b3 T2
      have npw : wa ≠ p := P2.ne hwa (fun _ z => nomatch z)
      have npm : ma ≠ p := P2.ne hma (fun _ z => nomatch z)
      have hwa3 := b3 _ _ npw hwa
      have hma3 := b3 _ _ npm hma
      clear P2 T2 hwa hma b3 d0
      refine ⟨_, rfl, by omega, by omega, for_range (n := 1 + e3) (fun j σ' H' => ∃ (ba : Addr) (ys : List Str) (o9 : Option V), σ' = [some (.ref a), some (.ref p), some (.int (0 + (i : Int))), some (.ref cs), some dv, some (.ref wa), some (.ref ma), some (.int (0 + (t : Int))), some (.ref ba), o9, o10, o11, none, none, none] ∧ Pen p c (1000000 * i + 20000 + 10000 * t + 100 + 100 * j) H' ∧ Tabs LL.tbs H' ∧ H' wa = some (.lst ((wdD D).map V.str)) ∧ H' ma = some (.lst (ms.map V.str)) ∧ H' ba = some (.lst (ys.map V.str)) ∧ (∀ x ∈ ys, Wb x) ∧ ys.length ≤ 32 + j)
        ⟨wa, wdD D, o9, rfl, P3.more (by omega), T3, hwa3, hma3, hwa3, wb, by omega⟩ ?_ ?_⟩
      · clear P3 T3 hwa3 hma3
        rintro j σ' H' hj ⟨ba, ys, o9, rfl, P2, T2, hwa, hma, hba, wy, ly⟩
        refine ⟨_, rfl, _, rfl, _, rfl, p, c, ba, ma, ys, ms, _, rfl, P2, hba, hma, wy, wbM, by omega, lM, by omega, fun b2 ys2 H3 wy2 ly2 hb2 b3 P3 => ?_⟩
        have T3 := tabs_but P2 b3 T2
        have hwa3 := b3 _ _ npw hwa
        have hma3 := b3 _ _ npm hma
        clear P2 T2 hwa hma hba b3
        have y40 : ∀ x ∈ ys2, x.length ≤ 40 := fun x hx => (wy2 x hx).1.2
        have lay : PyData.canLayAll0 (ys2.map .str) = true := canLays_strs fun x hx => gd_lay (as_gd (wy2 x hx).1 (by decide))
        refine run_ir2 LL (x := txW ys2) (et_test (ed_neE (ed_lstS rfl hb2) ed_emp lay)) (fun _ H4 s4 => ed_joinW (ed_lstS rfl (s4 _ _ hb2)) y40 (by omega)) (fun hb => ir_words (fun z => by subst z; exact absurd hb (by decide)) wy2 (by omega)) T3 fun H4 e4 T4 => ?_
        exact ⟨b2, ys2, _, rfl, (P3.ext e4).more (by omega), T4, e4 _ _ hwa3 (fun _ z => nomatch z), e4 _ _ hma3 (fun _ z => nomatch z), e4 _ _ hb2 (fun _ z => nomatch z), wy2, by omega⟩
      · clear P3 T3 hwa3 hma3
        rintro σ' H3 ⟨ba, ys, o9, rfl, P3, T3, hwa, hma, _⟩
        refine s_set (K := K) (F := tru) (ed_joinW (ed_lstS rfl hwa) w40 (by omega)) fun v4 H4 s4 hv4 => ?_
        cases hv4
        have P4 := P3.same s4
        have T4 := T3.ext s4
        have hwa4 := s4 _ _ hwa
        have hma4 := s4 _ _ hma
        have lD : (txW (wdD D)).length ≤ 420 := asD.2
        refine ⟨_, rfl, _, rfl, _, _, rfl, ⟨small5 (by omega), rfl⟩, _, _, rfl, rfl, p, c, _, _, rfl, P4, by omega, by omega, by omega, fun d H5 d0 d1 b5 P5 => ?_⟩
        have T5 := tabs_but P4 b5 T4
        have hwa5 := b5 _ _ npw hwa4
        have hma5 := b5 _ _ npm hma4
        clear P3 T3 hwa hma P4 T4 hwa4 hma4 s4 b5
        refine (ed_slS (K := K) (F := tru) (x := txW (wdD D)) (lo := none) (hi := some d) (ed_var (i := 10) rfl (.str _)) (by omega) eo_none (eo_some (K := K) (F := tru) (ed_var (i := 11) rfl (.int d)))) H5 (Same.refl _) _ fun v6 H6 s6 hv6 => ?_
        cases hv6
        have P6 := P5.same s6
        refine ⟨_, rfl, Or.inr ⟨p, c, " \na0;2", _, rfl, P6, by decide +kernel, by decide +kernel, by omega, fun i9 ch H7 hi9 b7 P7 => ?_⟩⟩
        have aC : As 420 (cutS (txW (wdD D)) none (some d)) := as_cut asD
        have hch : ch < 128 := by
          have : ∀ c ∈ (" \na0;2" : Str).cps.toList, c < 128 := by decide +kernel
          exact this ch (List.mem_of_getElem? hi9)
        have aCh : As 1 (⟨#[ch]⟩ : Str) := ⟨fun c hc => by
          have : c = ch := by simpa using hc
          omega, Nat.le_refl _⟩
        have bCh : bl (⟨#[ch]⟩ : Str) ≤ 1 := by
          unfold bl
          exact Nat.le_trans (List.count_le_length) (Nat.le_refl _)
        refine ⟨_, _, rfl, rfl, by have := aC.2; have := aCh.2; rw [sizeLine_eq]; omega, ?_⟩
        refine ⟨_, rfl, _, rfl, _, rfl, p, c, 2, _, rfl, P7, by decide, by decide, by omega, fun d8 H8 d80 d81 b8 P8 => ⟨_, _, rfl, rfl, ?_⟩⟩
        have b68 := b7.trans b8
        have T8 := tabs_but P6 b68 (T5.ext s6)
        have hwa8 := b68 _ _ npw (s6 _ _ hwa5)
        have hma8 := b68 _ _ npm (s6 _ _ hma5)
        have aB : As 420 (cutS (txW (wdD D)) (some (d + d8)) none) := as_cut asD
        have asX := (as_cat (as_cat aC aCh) aB).more (n := 1000) (by decide)
        have blX : bl ((cutS (txW (wdD D)) none (some d) ++ (⟨#[ch]⟩ : Str)) ++ cutS (txW (wdD D)) (some (d + d8)) none) ≤ 69 := by
          rw [bl_app, bl_app]
          have h1 := bl_cut (txW (wdD D)) none (some d)
          have h2 := bl_cut (txW (wdD D)) (some (d + d8)) none
          omega
        have ir := ir_text asX blX
        refine ⟨_, rfl, _, rfl, small5 (by omega), _, _, rfl, rfl, by have := aC.2; have := aCh.2; have := aB.2; rw [Str.length_append, sizeLine_eq]; omega, _, rfl, ir.len, ir.few, ir.good, T8, fun H9 e9 T9 => ⟨true, rfl, ?_⟩⟩
        exact ⟨_, _, _, _, _, rfl, (P8.ext e9).more (by omega), T9, e9 _ _ hwa8 (fun _ z => nomatch z), e9 _ _ hma8 (fun _ z => nomatch z)⟩
    · rintro σ' H' ⟨o7, o8, o9, o10, o11, rfl, P2, T2, _⟩
      exact ⟨_, _, _, _, _, _, _, _, _, _, rfl, P2.more (by omega), T2⟩
  · rintro σ' H' ⟨o2, o3, o4, o5, o6, o7, o8, o9, o10, o11, rfl, P2, T2⟩
    refine ⟨_, rfl, p, c, 6, _, rfl, P2, by decide, by decide, by omega, fun d H3 d0 d1 b3 P3 => ⟨_, _, rfl, rfl, ?_⟩⟩
    obtain ⟨e, rfl⟩ : ∃ e : Nat, d = e := ⟨d.toNat, by omega⟩
    have he : e < 6 := by omega
    have T3 := tabs_but P2 b3 T2
    clear P2 T2 b3 d0 d1
    refine run_lcS (K := K) (F := tru) (f := fun _ => true) (m := fun d => match d with | .str kd => .str (rowA e kd) | d => d) (stx := rowsA e) (ei_list (ed_lst (K := K) (F := tru) (ds := (["row", "steps", "never", "answer", "call"] : List Str).map .str) (ea_cons ed_str (ea_cons ed_str (ea_cons ed_str (ea_cons ed_str (ea_cons ed_str ea_nil))))) (by decide))) (by decide) (fun F2 H4 e4 v2 d2 hm hd2 => ?_) (by rw [filt_tt, List.map_map]; rfl) fun ra H4 s4 hra => ?_
    · obtain ⟨kd, hkd, rfl⟩ := List.mem_map.mp hm
      have lk : kd.length ≤ 10 := by
        have : ∀ x ∈ (["row", "steps", "never", "answer", "call"] : List Str), x.length ≤ 10 := by decide +kernel
        exact this kd hkd
      have l6 : ∀ x ∈ cutW six none (some (1 + (e : Int))), x.length ≤ 1 := fun x hx => by
        have : ∀ x ∈ six, x.length ≤ 1 := by decide +kernel
        exact this x (cutW_mem hx)
      have n6 : (cutW six none (some (1 + (e : Int)))).length ≤ 6 := cutW_len
      have lj := txW_len l6
      refine ⟨_, fun Q q => q, rfl, et_yes, fun _ => ed_catS (ed_catS (ed_catS (ed_var rfl hd2) (ed_str (x := " ")) ?_) (ed_joinW (ws := cutW six none (some (1 + (e : Int)))) (n := 1) (ed_is (ed_slL (ed_lst (ds := six.map .str) (ea_cons ed_str (ea_cons ed_str (ea_cons ed_str (ea_cons ed_str (ea_cons ed_str (ea_cons ed_str ea_nil)))))) (by decide)) eo_none (eo_some (K := K) (F := tru) (ed_var rfl (.int _)))) (by rw [cutD_map])) l6 (by omega)) ?_) (ed_str (x := " ;")) ?_⟩
      · have : (" " : Str).length = 1 := by decide +kernel
        omega
      · have : (" " : Str).length = 1 := by decide +kernel
        rw [Str.length_append]; omega
      · have : (" " : Str).length = 1 := by decide +kernel
        have : (" ;" : Str).length = 2 := by decide +kernel
        rw [Str.length_append, Str.length_append]; omega
    have P4 := P3.same s4
    have T4 := T3.ext s4
    clear P3 T3 s4
    refine ⟨_, rfl, p, c, 3, _, rfl, P4, by decide, by decide, by omega, fun d H5 d0 d1 b5 P5 => ⟨_, _, rfl, rfl, ?_⟩⟩
    obtain ⟨e2, rfl⟩ : ∃ e : Nat, d = e := ⟨d.toNat, by omega⟩
    have he2 : e2 < 3 := by omega
    have T5 := tabs_but P4 b5 T4
    have npr : ra ≠ p := P4.ne hra (fun _ z => nomatch z)
    have hra5 := b5 _ _ npr hra
    clear P4 T4 hra b5 d0 d1
    have all := rows_ok he he2
    refine run_el_set (el_cat (xs := rowsA e) (ys := rowsB (3 + e2)) (el_var rfl hra5) (el_lst (K := K) (F := tru) (ea_cons (ed_catS (ed_catS (ed_repS (n := 3 + e2) (by decide +kernel) (by omega)) (ed_repS (n := 3 + e2) (by decide +kernel) (by omega)) ?_) (ed_str (x := "call a ;")) ?_) (ea_cons ed_str (ea_cons ed_str (ea_cons ed_str (ea_cons ed_str (ea_cons ed_str (ea_cons ed_str ea_nil))))))) (by show 7 ≤ 100000; decide)) (by show 5 + 7 ≤ 100000; decide)) fun rb H6 s6 hrb => ?_
    · have h := mul_len he2
      omega
    · have h := mul_len he2
      have : ("call a ;" : Str).length = 8 := by decide +kernel
      rw [Str.length_append]; omega
    refine run_el_set (el_cat (xs := rowsA e ++ rowsB (3 + e2)) (ys := rowsC) (el_var rfl hrb) (el_lst (K := K) (F := tru) (ea_cons ed_str (ea_cons ed_str (ea_cons ed_str (ea_cons ed_str (ea_cons ed_str (ea_cons ed_str (ea_cons ed_str (ea_cons ed_str (ea_cons ed_str (ea_cons ed_str (ea_cons ed_str (ea_cons ed_str ea_nil)))))))))))) (by show 12 ≤ 100000; decide)) (by show 12 + 12 ≤ 100000; decide)) fun rc H7 s7 hrc => ?_
    have T7 := T5.ext (s6.trans s7)
    generalize rowsA e ++ rowsB (3 + e2) ++ rowsC = rows at hrc all
    clear T5 P5 hra5 hrb s6 s7
    refine ⟨_, rfl, rc, rfl, ⟨_, .of hrc⟩, fun D hD => lc_list (K := K) (a := rc) (xs := rows.map V.str) (fun i H' => Tabs LL.tbs H' ∧ ExtN H7 H' ∧ H' D = some (.lst [])) ⟨T7.ext (Same.newA hD), .of (Same.newA hD), upd_same⟩ (fun i H' _ p => .of (p.2.1 _ _ hrc (fun _ z => nomatch z))) ?_ ?_⟩
    · rintro i x H' hx ⟨Th, eh, dh⟩
      obtain ⟨r, hr2, rfl⟩ := pick_str hx
      have ir := ir_of (all r hr2)
      refine ⟨rfl, _, rfl, r, rfl, ir.len, ir.few, ir.good, Th, fun H8 e8 T8 => ⟨true, rfl, T8, eh.trans e8, e8 _ _ dh (fun _ z => nomatch z)⟩⟩
    · rintro H' ⟨Th, eh, dh⟩
      exact ⟨(by show 0 ≤ sizeLine; decide), fun l hl => ⟨[], .lst (.of (Same.newA hl _ _ dh)) .nil, .lst (.of upd_same) .nil, rfl, rfl⟩⟩
end
end Ag

set_option Elab.async false
set_option linter.all false
set_option maxRecDepth 100000
set_option maxHeartbeats 0
namespace Ag
open PySem PySem.Spec PyProof.Rows L2
/-! ### a table with text keys, as written -/
def TabOf : List DictEntry → List (Str × Int) → Prop
  | [], [] => True
  | e :: r, q :: s => (∃ t u, e.key = .str q.1 t ∧ e.val = .int q.2 u) ∧ TabOf r s
  | _, _ => False
theorem tab_find : ∀ {es : List DictEntry} {kvs : List (Str × Int)} (z : Str), TabOf es kvs → es.any (·.refKey) = false ∧ ((∃ i e u, (z, i) ∈ kvs ∧ (∀ j, kvs.lookup z = some j → j = i) ∧ es.find? (·.key.isStr z) = some e ∧ e.val = .int i u) ∨ (z ∉ kvs.map (·.1) ∧ es.find? (·.key.isStr z) = none))
  | [], [], z, _ => ⟨rfl, .inr ⟨by simp, rfl⟩⟩
  | e :: r, q :: s, z, ⟨⟨t, u, h1, h2⟩, h⟩ => by
    obtain ⟨a, b⟩ := tab_find z h
    have hr : e.refKey = false := by unfold DictEntry.refKey; rw [h1]
    refine ⟨by rw [List.any_cons, hr, a]; rfl, ?_⟩
    have hs : e.key.isStr z = (q.1 == z) := by rw [h1]; rfl
    by_cases hz : q.1 = z
    · refine .inl ⟨q.2, e, u, ?_, fun j hj => ?_, ?_, h2⟩
      · rw [← hz]; exact List.mem_cons_self
      · obtain ⟨q1, q2⟩ := q
        simp only at hz; subst hz
        simp at hj; exact hj.symm
      · rw [List.find?_cons, hs, beq_iff_eq.mpr hz]
    · have hf : (q.1 == z) = false := beq_eq_false_iff_ne.mpr hz
      have hf2 : (z == q.1) = false := beq_eq_false_iff_ne.mpr fun w => hz w.symm
      rcases b with ⟨i, e2, u2, m, l, f, v⟩ | ⟨m, f⟩
      · refine .inl ⟨i, e2, u2, List.mem_cons_of_mem _ m, fun j hj => l j ?_, ?_, v⟩
        · obtain ⟨q1, q2⟩ := q
          simp only at hf2
          rw [List.lookup_cons, hf2] at hj; exact hj
        · rw [List.find?_cons, hs, hf]; exact f
      · refine .inr ⟨?_, ?_⟩
        · rw [List.map_cons, List.mem_cons]; rintro (w | w)
          · exact hz w.symm
          · exact m w
        · rw [List.find?_cons, hs, hf]; exact f
section
variable {w : World} {K : PySem.W.Frag} {a : Addr} {es : Array DictEntry} {n : Nat} {kvs : List (Str × Int)}
theorem tab_in (l : K.lookup a = some ⟨.type "dict", none, .dict es n, #[]⟩) (t : TabOf es.toList kvs) (z : Str) : ∃ r, PySem.W.nsIn K a z = some r ∧ r.isSome = decide (z ∈ kvs.map (·.1)) := by
  obtain ⟨h1, h2⟩ := tab_find z t
  unfold PySem.W.nsIn
  rw [l]
  rcases h2 with ⟨i, e, u, m, _, f, v⟩ | ⟨m, f⟩
  · refine ⟨some e.val, ?_, ?_⟩
    · simp only [f]
    · exact (decide_eq_true (List.mem_map.mpr ⟨_, m, rfl⟩)).symm
  · refine ⟨none, ?_, (decide_eq_false m).symm⟩
    simp only [f, h1]; rfl
theorem tab_at (l : K.lookup a = some ⟨.type "dict", none, .dict es n, #[]⟩) (k : PySem.W.KeysLit w.params es.toList) (t : TabOf es.toList kvs) (nd : kvs.all (fun q => kvs.lookup q.1 == some q.2) = true) (z : Str) (i : Int) (hm : (z, i) ∈ kvs) : KDct K w a z (.int i) := by
  obtain ⟨h1, h2⟩ := tab_find z t
  have hl : kvs.lookup z = some i := by simpa using List.all_eq_true.mp nd _ hm
  rcases h2 with ⟨j, e, u, m, lk, f, v⟩ | ⟨m, f⟩
  · have := lk i hl; subst this
    refine ⟨es, n, e.val, l, k, ?_, u, v⟩
    unfold PySem.W.nsIn
    rw [l]
    simp only [f]
  · exact absurd (List.mem_map.mpr ⟨_, hm, rfl⟩) m
end
theorem binds_all {K : PySem.W.Frag} {fd : FuncData} {ps : List Str} (h : ∃ ds, Vals [] ds ∧ Binds K fd ps ds) : Binds K fd ps [] := by
  obtain ⟨ds, v, b⟩ := h
  cases v
  exact b
theorem walk_G2 {l : PySem.W.OpenLaw} {n : Nat} {q : Program} {loose : List Str} {XP : (Str → Option Value) → Heap → Prop} {YP : World → Heap → Prop} {d : DefRec} {K : Params → PySem.W.Frag} {ts : List Addr}
    (hn : l.most = some n) (hn2 : n ≤ sizeLine) (hdf : d.params.defaults = []) (hY : ∀ (w : World) (h : Heap), YP w h → (K w.params).In h ∧ ∀ P ∈ ts, h.get? P = some emptyT)
    (F : ∀ (w : World) (mg mb : Str → Option Value) (fa : Addr) (s : Shared) (mean : ExcName → Option Value), PyProof.Rows.Top q (PySem.W.looseW q loose) mean mg mb s.heap → (K w.params).In s.heap → (∀ P ∈ ts, s.heap.get? P = some emptyT) → mg d.name = some (.ref fa) → LawG l w (K w.params) n mg fa s) :
    PySem.W.WalkO q loose XP YP l.row.toRowW d [] (fun f vs => PySem.call f vs) := by
  refine Att.attach_callB hn hdf fun w s₀ s₁ mg mb fa o pm cd doc a vs ns G Y ho hd hcd hmg hobj hints hlen hbits hg => ?_
  obtain ⟨KX, KT⟩ := hY w _ Y
  obtain ⟨cs, hT, nT, C, hF⟩ := F w mg mb fa s₁ _ G.T KX KT hmg
  exact law_callG KX G.T.g G.T.b G.T.builtins G.T.nolimit hg hT nT C G.T.bmain hobj hints (Nat.le_trans hlen hn2) fun base H h1 h2 h3 h4 h5 h6 => hF a ns base H hlen hbits h1 h2 h3 h4 h5 h6
theorem all_mk {l : PySem.W.OpenLaw} {w : World} {K : PySem.W.Frag} {q : Program} {loose : List Str} {mean : ExcName → Option Value} {mg mb : Str → Option Value} {s : Shared} {fa : Addr} {cclaw tblaw : Addr} {xclaw : Value} {xolaw : Option Addr} {xslaw : Array (Option Value)} {vsxlaw : Array Value} {ccneed tbneed : Addr} {xcneed : Value} {xoneed : Option Addr} {xsneed : Array (Option Value)} {vsxneed : Array Value} {ccnum tbnum : Addr} {xcnum : Value} {xonum : Option Addr} {xsnum : Array (Option Value)} {vsxnum : Array Value} {ccnames tbnames : Addr} {xcnames : Value} {xonames : Option Addr} {xsnames : Array (Option Value)} {vsxnames : Array Value} (TP : PyProof.Rows.Top q (PySem.W.looseW q loose) mean mg mb s.heap) (X : K.In s.heap)
    (hfa : mg "law" = some (.ref fa))
    {f0 : Addr} {od0 an0 : Option Addr} {sl0 : Array (Option Value)} {oc0 kV0 dc0 pm0 cd0 ct0 : Value}
    {f1 : Addr} {od1 an1 : Option Addr} {sl1 : Array (Option Value)} {oc1 kV1 dc1 pm1 cd1 ct1 : Value}
    {f2 : Addr} {od2 an2 : Option Addr} {sl2 : Array (Option Value)} {oc2 kV2 dc2 pm2 cd2 ct2 : Value}
    {f3 : Addr} {od3 an3 : Option Addr} {sl3 : Array (Option Value)} {oc3 kV3 dc3 pm3 cd3 ct3 : Value}
    {f4 : Addr} {od4 an4 : Option Addr} {sl4 : Array (Option Value)} {oc4 kV4 dc4 pm4 cd4 ct4 : Value}
    {f5 : Addr} {od5 an5 : Option Addr} {sl5 : Array (Option Value)} {oc5 kV5 dc5 pm5 cd5 ct5 : Value}
    {f6 : Addr} {od6 an6 : Option Addr} {sl6 : Array (Option Value)} {oc6 kV6 dc6 pm6 cd6 ct6 : Value}
    {f7 : Addr} {od7 an7 : Option Addr} {sl7 : Array (Option Value)} {oc7 kV7 dc7 pm7 cd7 ct7 : Value}
    {f8 : Addr} {od8 an8 : Option Addr} {sl8 : Array (Option Value)} {oc8 kV8 dc8 pm8 cd8 ct8 : Value}
    {f9 : Addr} {od9 an9 : Option Addr} {sl9 : Array (Option Value)} {oc9 kV9 dc9 pm9 cd9 ct9 : Value}
    {f10 : Addr} {od10 an10 : Option Addr} {sl10 : Array (Option Value)} {oc10 kV10 dc10 pm10 cd10 ct10 : Value}
    {f11 : Addr} {od11 an11 : Option Addr} {sl11 : Array (Option Value)} {oc11 kV11 dc11 pm11 cd11 ct11 : Value}
    {f12 : Addr} {od12 an12 : Option Addr} {sl12 : Array (Option Value)} {oc12 kV12 dc12 pm12 cd12 ct12 : Value}
    {f13 : Addr} {od13 an13 : Option Addr} {sl13 : Array (Option Value)} {oc13 kV13 dc13 pm13 cd13 ct13 : Value}
    {f14 : Addr} {od14 an14 : Option Addr} {sl14 : Array (Option Value)} {oc14 kV14 dc14 pm14 cd14 ct14 : Value}
    {f15 : Addr} {od15 an15 : Option Addr} {sl15 : Array (Option Value)} {oc15 kV15 dc15 pm15 cd15 ct15 : Value}
    {f16 : Addr} {od16 an16 : Option Addr} {sl16 : Array (Option Value)} {oc16 kV16 dc16 pm16 cd16 ct16 : Value}
    {f17 : Addr} {od17 an17 : Option Addr} {sl17 : Array (Option Value)} {oc17 kV17 dc17 pm17 cd17 ct17 : Value}
    {f18 : Addr} {od18 an18 : Option Addr} {sl18 : Array (Option Value)} {oc18 kV18 dc18 pm18 cd18 ct18 : Value}
    {f19 : Addr} {od19 an19 : Option Addr} {sl19 : Array (Option Value)} {oc19 kV19 dc19 pm19 cd19 ct19 : Value}
    {f20 : Addr} {od20 an20 : Option Addr} {sl20 : Array (Option Value)} {oc20 kV20 dc20 pm20 cd20 ct20 : Value}
    {f21 : Addr} {od21 an21 : Option Addr} {sl21 : Array (Option Value)} {oc21 kV21 dc21 pm21 cd21 ct21 : Value}
    {f22 : Addr} {od22 an22 : Option Addr} {sl22 : Array (Option Value)} {oc22 kV22 dc22 pm22 cd22 ct22 : Value}
    {CAgainError : Addr}
    {CBadText : Addr}
    {fBadText0 : Addr} {odBadText0 anBadText0 : Option Addr} {slBadText0 : Array (Option Value)} {ocBadText0 kVBadText0 dcBadText0 pmBadText0 cdBadText0 ctBadText0 : Value}
    {CBadNumber : Addr}
    {fBadNumber0 : Addr} {odBadNumber0 anBadNumber0 : Option Addr} {slBadNumber0 : Array (Option Value)} {ocBadNumber0 kVBadNumber0 dcBadNumber0 pmBadNumber0 cdBadNumber0 ctBadNumber0 : Value}
    {CBadRow : Addr}
    {fBadRow0 : Addr} {odBadRow0 anBadRow0 : Option Addr} {slBadRow0 : Array (Option Value)} {ocBadRow0 kVBadRow0 dcBadRow0 pmBadRow0 cdBadRow0 ctBadRow0 : Value}
    {CNoName : Addr}
    {fNoName0 : Addr} {odNoName0 anNoName0 : Option Addr} {slNoName0 : Array (Option Value)} {ocNoName0 kVNoName0 dcNoName0 pmNoName0 cdNoName0 ctNoName0 : Value}
    {CUnlike : Addr}
    {fUnlike0 : Addr} {odUnlike0 anUnlike0 : Option Addr} {slUnlike0 : Array (Option Value)} {ocUnlike0 kVUnlike0 dcUnlike0 pmUnlike0 cdUnlike0 ctUnlike0 : Value}
    {CTooMany : Addr}
    {fTooMany0 : Addr} {odTooMany0 anTooMany0 : Option Addr} {slTooMany0 : Array (Option Value)} {ocTooMany0 kVTooMany0 dcTooMany0 pmTooMany0 cdTooMany0 ctTooMany0 : Value}
    {CCursor : Addr}
    {fCursor0 : Addr} {odCursor0 anCursor0 : Option Addr} {slCursor0 : Array (Option Value)} {ocCursor0 kVCursor0 dcCursor0 pmCursor0 cdCursor0 ctCursor0 : Value}
    {fCursor1 : Addr} {odCursor1 anCursor1 : Option Addr} {slCursor1 : Array (Option Value)} {ocCursor1 kVCursor1 dcCursor1 pmCursor1 cdCursor1 ctCursor1 : Value}
    {fCursor2 : Addr} {odCursor2 anCursor2 : Option Addr} {slCursor2 : Array (Option Value)} {ocCursor2 kVCursor2 dcCursor2 pmCursor2 cdCursor2 ctCursor2 : Value}
    {fCursor3 : Addr} {odCursor3 anCursor3 : Option Addr} {slCursor3 : Array (Option Value)} {ocCursor3 kVCursor3 dcCursor3 pmCursor3 cdCursor3 ctCursor3 : Value}
    {fCursor4 : Addr} {odCursor4 anCursor4 : Option Addr} {slCursor4 : Array (Option Value)} {ocCursor4 kVCursor4 dcCursor4 pmCursor4 cdCursor4 ctCursor4 : Value}
    {fCursor5 : Addr} {odCursor5 anCursor5 : Option Addr} {slCursor5 : Array (Option Value)} {ocCursor5 kVCursor5 dcCursor5 pmCursor5 cdCursor5 ctCursor5 : Value}
    {fCursor6 : Addr} {odCursor6 anCursor6 : Option Addr} {slCursor6 : Array (Option Value)} {ocCursor6 kVCursor6 dcCursor6 pmCursor6 cdCursor6 ctCursor6 : Value}
    {fCursor7 : Addr} {odCursor7 anCursor7 : Option Addr} {slCursor7 : Array (Option Value)} {ocCursor7 kVCursor7 dcCursor7 pmCursor7 cdCursor7 ctCursor7 : Value}
    {fCursor8 : Addr} {odCursor8 anCursor8 : Option Addr} {slCursor8 : Array (Option Value)} {ocCursor8 kVCursor8 dcCursor8 pmCursor8 cdCursor8 ctCursor8 : Value}
    {CDutyReader : Addr}
    {fDutyReader0 : Addr} {odDutyReader0 anDutyReader0 : Option Addr} {slDutyReader0 : Array (Option Value)} {ocDutyReader0 kVDutyReader0 dcDutyReader0 pmDutyReader0 cdDutyReader0 ctDutyReader0 : Value}
    {fDutyReader1 : Addr} {odDutyReader1 anDutyReader1 : Option Addr} {slDutyReader1 : Array (Option Value)} {ocDutyReader1 kVDutyReader1 dcDutyReader1 pmDutyReader1 cdDutyReader1 ctDutyReader1 : Value}
    {fDutyReader2 : Addr} {odDutyReader2 anDutyReader2 : Option Addr} {slDutyReader2 : Array (Option Value)} {ocDutyReader2 kVDutyReader2 dcDutyReader2 pmDutyReader2 cdDutyReader2 ctDutyReader2 : Value}
    {fDutyReader3 : Addr} {odDutyReader3 anDutyReader3 : Option Addr} {slDutyReader3 : Array (Option Value)} {ocDutyReader3 kVDutyReader3 dcDutyReader3 pmDutyReader3 cdDutyReader3 ctDutyReader3 : Value}
    {fDutyReader4 : Addr} {odDutyReader4 anDutyReader4 : Option Addr} {slDutyReader4 : Array (Option Value)} {ocDutyReader4 kVDutyReader4 dcDutyReader4 pmDutyReader4 cdDutyReader4 ctDutyReader4 : Value}
    {fDutyReader5 : Addr} {odDutyReader5 anDutyReader5 : Option Addr} {slDutyReader5 : Array (Option Value)} {ocDutyReader5 kVDutyReader5 dcDutyReader5 pmDutyReader5 cdDutyReader5 ctDutyReader5 : Value}
    {fDutyReader6 : Addr} {odDutyReader6 anDutyReader6 : Option Addr} {slDutyReader6 : Array (Option Value)} {ocDutyReader6 kVDutyReader6 dcDutyReader6 pmDutyReader6 cdDutyReader6 ctDutyReader6 : Value}
    {tFIGURES : Tok}
    {tEND : Tok}
    {tLETTERS : Tok}
    {tMOST_PLAIN : Tok}
    {tMOST_AROUND : Tok}
    {aLEAST_CALLS : Addr} {nLEAST_CALLS : Nat}
    {tLEAST_CALLS0 uLEAST_CALLS0 : Tok} {tLEAST_CALLS1 uLEAST_CALLS1 : Tok} {tLEAST_CALLS2 uLEAST_CALLS2 : Tok} {tLEAST_CALLS3 uLEAST_CALLS3 : Tok} {tLEAST_CALLS4 uLEAST_CALLS4 : Tok}
    {aMOST_CALLS : Addr} {nMOST_CALLS : Nat}
    {tMOST_CALLS0 uMOST_CALLS0 : Tok} {tMOST_CALLS1 uMOST_CALLS1 : Tok} {tMOST_CALLS2 uMOST_CALLS2 : Tok} {tMOST_CALLS3 uMOST_CALLS3 : Tok} {tMOST_CALLS4 uMOST_CALLS4 : Tok}
    {aJOINTS : Addr} {nJOINTS : Nat}
    {odJOINTS : Option Addr} {slJOINTS : Array (Option Value)} {tJOINTS0 : Tok} {tJOINTS1 : Tok}
    (a0 : PySem.W.nsIn K mainGlobals "is_numeral" = some (some (.ref f0)))
    (l0 : K.lookup f0 = some ⟨oc0, od0, .func (PySem.W.fnOf "is_numeral" "is_numeral" (defArgs s_is_numeral) (defBody s_is_numeral) (defScope s_is_numeral) .none kV0 dc0 pm0 an0 cd0 ct0), sl0⟩)
    (c0 : PySem.W.codeIn K cd0 "is_numeral" = true)
    (k0 : PySem.W.keepIn K (.ref f0) = true)
    (a1 : PySem.W.nsIn K mainGlobals "rows_of" = some (some (.ref f1)))
    (l1 : K.lookup f1 = some ⟨oc1, od1, .func (PySem.W.fnOf "rows_of" "rows_of" (defArgs s_rows_of) (defBody s_rows_of) (defScope s_rows_of) .none kV1 dc1 pm1 an1 cd1 ct1), sl1⟩)
    (c1 : PySem.W.codeIn K cd1 "rows_of" = true)
    (k1 : PySem.W.keepIn K (.ref f1) = true)
    (a2 : PySem.W.nsIn K mainGlobals "is_name" = some (some (.ref f2)))
    (l2 : K.lookup f2 = some ⟨oc2, od2, .func (PySem.W.fnOf "is_name" "is_name" (defArgs s_is_name) (defBody s_is_name) (defScope s_is_name) .none kV2 dc2 pm2 an2 cd2 ct2), sl2⟩)
    (c2 : PySem.W.codeIn K cd2 "is_name" = true)
    (k2 : PySem.W.keepIn K (.ref f2) = true)
    (a3 : PySem.W.nsIn K mainGlobals "duty_read" = some (some (.ref f3)))
    (l3 : K.lookup f3 = some ⟨oc3, od3, .func (PySem.W.fnOf "duty_read" "duty_read" (defArgs s_duty_read) (defBody s_duty_read) (defScope s_duty_read) .none kV3 dc3 pm3 an3 cd3 ct3), sl3⟩)
    (c3 : PySem.W.codeIn K cd3 "duty_read" = true)
    (k3 : PySem.W.keepIn K (.ref f3) = true)
    (a4 : PySem.W.nsIn K mainGlobals "_law_pen" = some (some (.ref f4)))
    (l4 : K.lookup f4 = some ⟨oc4, od4, .func (PySem.W.fnOf "_law_pen" "_law_pen" (defArgs s_law_pen) (defBody s_law_pen) (defScope s_law_pen) .none kV4 dc4 pm4 an4 cd4 ct4), sl4⟩)
    (c4 : PySem.W.codeIn K cd4 "_law_pen" = true)
    (k4 : PySem.W.keepIn K (.ref f4) = true)
    (a5 : PySem.W.nsIn K mainGlobals "_law_draw" = some (some (.ref f5)))
    (l5 : K.lookup f5 = some ⟨oc5, od5, .func (PySem.W.fnOf "_law_draw" "_law_draw" (defArgs s_law_draw) (defBody s_law_draw) (defScope s_law_draw) .none kV5 dc5 pm5 an5 cd5 ct5), sl5⟩)
    (c5 : PySem.W.codeIn K cd5 "_law_draw" = true)
    (k5 : PySem.W.keepIn K (.ref f5) = true)
    (a6 : PySem.W.nsIn K mainGlobals "_law_pick" = some (some (.ref f6)))
    (l6 : K.lookup f6 = some ⟨oc6, od6, .func (PySem.W.fnOf "_law_pick" "_law_pick" (defArgs s_law_pick) (defBody s_law_pick) (defScope s_law_pick) .none kV6 dc6 pm6 an6 cd6 ct6), sl6⟩)
    (c6 : PySem.W.codeIn K cd6 "_law_pick" = true)
    (k6 : PySem.W.keepIn K (.ref f6) = true)
    (a7 : PySem.W.nsIn K mainGlobals "_law_shuffled" = some (some (.ref f7)))
    (l7 : K.lookup f7 = some ⟨oc7, od7, .func (PySem.W.fnOf "_law_shuffled" "_law_shuffled" (defArgs s_law_shuffled) (defBody s_law_shuffled) (defScope s_law_shuffled) .none kV7 dc7 pm7 an7 cd7 ct7), sl7⟩)
    (c7 : PySem.W.codeIn K cd7 "_law_shuffled" = true)
    (k7 : PySem.W.keepIn K (.ref f7) = true)
    (a8 : PySem.W.nsIn K mainGlobals "_law_name" = some (some (.ref f8)))
    (l8 : K.lookup f8 = some ⟨oc8, od8, .func (PySem.W.fnOf "_law_name" "_law_name" (defArgs s_law_name) (defBody s_law_name) (defScope s_law_name) .none kV8 dc8 pm8 an8 cd8 ct8), sl8⟩)
    (c8 : PySem.W.codeIn K cd8 "_law_name" = true)
    (k8 : PySem.W.keepIn K (.ref f8) = true)
    (a9 : PySem.W.nsIn K mainGlobals "_law_names" = some (some (.ref f9)))
    (l9 : K.lookup f9 = some ⟨oc9, od9, .func (PySem.W.fnOf "_law_names" "_law_names" (defArgs s_law_names) (defBody s_law_names) (defScope s_law_names) .none kV9 dc9 pm9 an9 cd9 ct9), sl9⟩)
    (c9 : PySem.W.codeIn K cd9 "_law_names" = true)
    (k9 : PySem.W.keepIn K (.ref f9) = true)
    (a10 : PySem.W.nsIn K mainGlobals "_law_is_name" = some (some (.ref f10)))
    (l10 : K.lookup f10 = some ⟨oc10, od10, .func (PySem.W.fnOf "_law_is_name" "_law_is_name" (defArgs s_law_is_name) (defBody s_law_is_name) (defScope s_law_is_name) .none kV10 dc10 pm10 an10 cd10 ct10), sl10⟩)
    (c10 : PySem.W.codeIn K cd10 "_law_is_name" = true)
    (k10 : PySem.W.keepIn K (.ref f10) = true)
    (a11 : PySem.W.nsIn K mainGlobals "_law_is_figures" = some (some (.ref f11)))
    (l11 : K.lookup f11 = some ⟨oc11, od11, .func (PySem.W.fnOf "_law_is_figures" "_law_is_figures" (defArgs s_law_is_figures) (defBody s_law_is_figures) (defScope s_law_is_figures) .none kV11 dc11 pm11 an11 cd11 ct11), sl11⟩)
    (c11 : PySem.W.codeIn K cd11 "_law_is_figures" = true)
    (k11 : PySem.W.keepIn K (.ref f11) = true)
    (a12 : PySem.W.nsIn K mainGlobals "_law_calls" = some (some (.ref f12)))
    (l12 : K.lookup f12 = some ⟨oc12, od12, .func (PySem.W.fnOf "_law_calls" "_law_calls" (defArgs s_law_calls) (defBody s_law_calls) (defScope s_law_calls) .none kV12 dc12 pm12 an12 cd12 ct12), sl12⟩)
    (c12 : PySem.W.codeIn K cd12 "_law_calls" = true)
    (k12 : PySem.W.keepIn K (.ref f12) = true)
    (a13 : PySem.W.nsIn K mainGlobals "_law_why" = some (some (.ref f13)))
    (l13 : K.lookup f13 = some ⟨oc13, od13, .func (PySem.W.fnOf "_law_why" "_law_why" (defArgs s_law_why) (defBody s_law_why) (defScope s_law_why) .none kV13 dc13 pm13 an13 cd13 ct13), sl13⟩)
    (c13 : PySem.W.codeIn K cd13 "_law_why" = true)
    (k13 : PySem.W.keepIn K (.ref f13) = true)
    (a14 : PySem.W.nsIn K mainGlobals "_law_some_plain" = some (some (.ref f14)))
    (l14 : K.lookup f14 = some ⟨oc14, od14, .func (PySem.W.fnOf "_law_some_plain" "_law_some_plain" (defArgs s_law_some_plain) (defBody s_law_some_plain) (defScope s_law_some_plain) .none kV14 dc14 pm14 an14 cd14 ct14), sl14⟩)
    (c14 : PySem.W.codeIn K cd14 "_law_some_plain" = true)
    (k14 : PySem.W.keepIn K (.ref f14) = true)
    (a15 : PySem.W.nsIn K mainGlobals "_law_some_duty" = some (some (.ref f15)))
    (l15 : K.lookup f15 = some ⟨oc15, od15, .func (PySem.W.fnOf "_law_some_duty" "_law_some_duty" (defArgs s_law_some_duty) (defBody s_law_some_duty) (defScope s_law_some_duty) .none kV15 dc15 pm15 an15 cd15 ct15), sl15⟩)
    (c15 : PySem.W.codeIn K cd15 "_law_some_duty" = true)
    (k15 : PySem.W.keepIn K (.ref f15) = true)
    (a16 : PySem.W.nsIn K mainGlobals "_law_plain_names" = some (some (.ref f16)))
    (l16 : K.lookup f16 = some ⟨oc16, od16, .func (PySem.W.fnOf "_law_plain_names" "_law_plain_names" (defArgs s_law_plain_names) (defBody s_law_plain_names) (defScope s_law_plain_names) .none kV16 dc16 pm16 an16 cd16 ct16), sl16⟩)
    (c16 : PySem.W.codeIn K cd16 "_law_plain_names" = true)
    (k16 : PySem.W.keepIn K (.ref f16) = true)
    (a17 : PySem.W.nsIn K mainGlobals "_law_duty_words" = some (some (.ref f17)))
    (l17 : K.lookup f17 = some ⟨oc17, od17, .func (PySem.W.fnOf "_law_duty_words" "_law_duty_words" (defArgs s_law_duty_words) (defBody s_law_duty_words) (defScope s_law_duty_words) .none kV17 dc17 pm17 an17 cd17 ct17), sl17⟩)
    (c17 : PySem.W.codeIn K cd17 "_law_duty_words" = true)
    (k17 : PySem.W.keepIn K (.ref f17) = true)
    (a18 : PySem.W.nsIn K mainGlobals "_law_bent_words" = some (some (.ref f18)))
    (l18 : K.lookup f18 = some ⟨oc18, od18, .func (PySem.W.fnOf "_law_bent_words" "_law_bent_words" (defArgs s_law_bent_words) (defBody s_law_bent_words) (defScope s_law_bent_words) .none kV18 dc18 pm18 an18 cd18 ct18), sl18⟩)
    (c18 : PySem.W.codeIn K cd18 "_law_bent_words" = true)
    (k18 : PySem.W.keepIn K (.ref f18) = true)
    (a19 : PySem.W.nsIn K mainGlobals "_law_read_plain" = some (some (.ref f19)))
    (l19 : K.lookup f19 = some ⟨oc19, od19, .func (PySem.W.fnOf "_law_read_plain" "_law_read_plain" (defArgs s_law_read_plain) (defBody s_law_read_plain) (defScope s_law_read_plain) .none kV19 dc19 pm19 an19 cd19 ct19), sl19⟩)
    (c19 : PySem.W.codeIn K cd19 "_law_read_plain" = true)
    (k19 : PySem.W.keepIn K (.ref f19) = true)
    (a20 : PySem.W.nsIn K mainGlobals "_law_due" = some (some (.ref f20)))
    (l20 : K.lookup f20 = some ⟨oc20, od20, .func (PySem.W.fnOf "_law_due" "_law_due" (defArgs s_law_due) (defBody s_law_due) (defScope s_law_due) .none kV20 dc20 pm20 an20 cd20 ct20), sl20⟩)
    (c20 : PySem.W.codeIn K cd20 "_law_due" = true)
    (k20 : PySem.W.keepIn K (.ref f20) = true)
    (a21 : PySem.W.nsIn K mainGlobals "_law_is_read" = some (some (.ref f21)))
    (l21 : K.lookup f21 = some ⟨oc21, od21, .func (PySem.W.fnOf "_law_is_read" "_law_is_read" (defArgs s_law_is_read) (defBody s_law_is_read) (defScope s_law_is_read) .none kV21 dc21 pm21 an21 cd21 ct21), sl21⟩)
    (c21 : PySem.W.codeIn K cd21 "_law_is_read" = true)
    (k21 : PySem.W.keepIn K (.ref f21) = true)
    (a22 : PySem.W.nsIn K mainGlobals "law" = some (some (.ref f22)))
    (l22 : K.lookup f22 = some ⟨oc22, od22, .func (PySem.W.fnOf "law" "law" (defArgs s_law) (defBody s_law) (defScope s_law) .none kV22 dc22 pm22 an22 cd22 ct22), sl22⟩)
    (c22 : PySem.W.codeIn K cd22 "law" = true)
    (k22 : PySem.W.keepIn K (.ref f22) = true)
    (gAgainError : PySem.W.nsIn K mainGlobals "AgainError" = some (some (.ref CAgainError)))
    (saAgainError : PySem.W.findIn K (.ref CAgainError) "__setattr__" = some (some (.builtin "object.__setattr__")))
    (kcAgainError : PySem.W.keepIn K (.ref CAgainError) = true)
    (hdAgainError : PySem.W.hasDictIn K CAgainError = true)
    (gaAgainError : PySem.W.findIn K (.ref CAgainError) "__getattribute__" = some (some (.builtin "BaseException.__getattribute__")))
    (ggAgainError : PySem.W.findIn K (.ref CAgainError) "__getattr__" = some none)
    (exAgainError : PySem.W.subIn K (.ref CAgainError) (.type "BaseException") = some true)
    (tyAgainError : PySem.W.typeIn K (.ref CAgainError) = some (.type "type"))
    (sbAgainError : PySem.W.subIn K (.ref CAgainError) (.ref CAgainError) = some true)
    (xlAgainError : ∃ nm q N bs bm sn sub ab col dd k0 k1 k2 k3 k5, K.lookup CAgainError = some (excClassObj nm q CAgainError N bs bm true sn sub ab col dd k0 k1 k2 k3 k5 "ValueError.__new__") ∧ PySem.HandSPX.refsVE bm = true)
    (gBadText : PySem.W.nsIn K mainGlobals "BadText" = some (some (.ref CBadText)))
    (aBadText0 : PySem.W.findIn K (.ref CBadText) "__init__" = some (some (.ref fBadText0)))
    (lBadText0 : K.lookup fBadText0 = some ⟨ocBadText0, odBadText0, .func (PySem.W.fnOf "__init__" "BadText.__init__" (defArgs s_BadText___init__) (defBody s_BadText___init__) (defScope s_BadText___init__) .none kVBadText0 dcBadText0 pmBadText0 anBadText0 cdBadText0 ctBadText0), slBadText0⟩)
    (cBadText0 : PySem.W.codeIn K cdBadText0 "BadText.__init__" = true)
    (kBadText0 : PySem.W.keepIn K (.ref fBadText0) = true)
    (tBadText0 : PySem.W.typeIn K (.ref fBadText0) = some (.type "function"))
    (nBadTextline : PySem.W.findIn K (.ref CBadText) "line" = some none)
    (nBadTextword : PySem.W.findIn K (.ref CBadText) "word" = some none)
    (saBadText : PySem.W.findIn K (.ref CBadText) "__setattr__" = some (some (.builtin "object.__setattr__")))
    (kcBadText : PySem.W.keepIn K (.ref CBadText) = true)
    (hdBadText : PySem.W.hasDictIn K CBadText = true)
    (gaBadText : PySem.W.findIn K (.ref CBadText) "__getattribute__" = some (some (.builtin "BaseException.__getattribute__")))
    (ggBadText : PySem.W.findIn K (.ref CBadText) "__getattr__" = some none)
    (exBadText : PySem.W.subIn K (.ref CBadText) (.type "BaseException") = some true)
    (tyBadText : PySem.W.typeIn K (.ref CBadText) = some (.type "type"))
    (sbBadText : PySem.W.subIn K (.ref CBadText) (.ref CBadText) = some true)
    (xlBadText : ∃ nm q N bs bm sn sub ab col dd k0 k1 k2 k3 k5, K.lookup CBadText = some (excClassObj nm q CBadText N bs bm true sn sub ab col dd k0 k1 k2 k3 k5 "ValueError.__new__") ∧ PySem.HandSPX.refsVE bm = true)
    (gBadNumber : PySem.W.nsIn K mainGlobals "BadNumber" = some (some (.ref CBadNumber)))
    (aBadNumber0 : PySem.W.findIn K (.ref CBadNumber) "__init__" = some (some (.ref fBadNumber0)))
    (lBadNumber0 : K.lookup fBadNumber0 = some ⟨ocBadNumber0, odBadNumber0, .func (PySem.W.fnOf "__init__" "BadNumber.__init__" (defArgs s_BadNumber___init__) (defBody s_BadNumber___init__) (defScope s_BadNumber___init__) .none kVBadNumber0 dcBadNumber0 pmBadNumber0 anBadNumber0 cdBadNumber0 ctBadNumber0), slBadNumber0⟩)
    (cBadNumber0 : PySem.W.codeIn K cdBadNumber0 "BadNumber.__init__" = true)
    (kBadNumber0 : PySem.W.keepIn K (.ref fBadNumber0) = true)
    (tBadNumber0 : PySem.W.typeIn K (.ref fBadNumber0) = some (.type "function"))
    (nBadNumberwhat : PySem.W.findIn K (.ref CBadNumber) "what" = some none)
    (nBadNumbernumber : PySem.W.findIn K (.ref CBadNumber) "number" = some none)
    (saBadNumber : PySem.W.findIn K (.ref CBadNumber) "__setattr__" = some (some (.builtin "object.__setattr__")))
    (kcBadNumber : PySem.W.keepIn K (.ref CBadNumber) = true)
    (hdBadNumber : PySem.W.hasDictIn K CBadNumber = true)
    (gaBadNumber : PySem.W.findIn K (.ref CBadNumber) "__getattribute__" = some (some (.builtin "BaseException.__getattribute__")))
    (ggBadNumber : PySem.W.findIn K (.ref CBadNumber) "__getattr__" = some none)
    (exBadNumber : PySem.W.subIn K (.ref CBadNumber) (.type "BaseException") = some true)
    (tyBadNumber : PySem.W.typeIn K (.ref CBadNumber) = some (.type "type"))
    (sbBadNumber : PySem.W.subIn K (.ref CBadNumber) (.ref CBadNumber) = some true)
    (xlBadNumber : ∃ nm q N bs bm sn sub ab col dd k0 k1 k2 k3 k5, K.lookup CBadNumber = some (excClassObj nm q CBadNumber N bs bm true sn sub ab col dd k0 k1 k2 k3 k5 "ValueError.__new__") ∧ PySem.HandSPX.refsVE bm = true)
    (gBadRow : PySem.W.nsIn K mainGlobals "BadRow" = some (some (.ref CBadRow)))
    (aBadRow0 : PySem.W.findIn K (.ref CBadRow) "__init__" = some (some (.ref fBadRow0)))
    (lBadRow0 : K.lookup fBadRow0 = some ⟨ocBadRow0, odBadRow0, .func (PySem.W.fnOf "__init__" "BadRow.__init__" (defArgs s_BadRow___init__) (defBody s_BadRow___init__) (defScope s_BadRow___init__) .none kVBadRow0 dcBadRow0 pmBadRow0 anBadRow0 cdBadRow0 ctBadRow0), slBadRow0⟩)
    (cBadRow0 : PySem.W.codeIn K cdBadRow0 "BadRow.__init__" = true)
    (kBadRow0 : PySem.W.keepIn K (.ref fBadRow0) = true)
    (tBadRow0 : PySem.W.typeIn K (.ref fBadRow0) = some (.type "function"))
    (nBadRowwhat : PySem.W.findIn K (.ref CBadRow) "what" = some none)
    (nBadRowrow : PySem.W.findIn K (.ref CBadRow) "row" = some none)
    (saBadRow : PySem.W.findIn K (.ref CBadRow) "__setattr__" = some (some (.builtin "object.__setattr__")))
    (kcBadRow : PySem.W.keepIn K (.ref CBadRow) = true)
    (hdBadRow : PySem.W.hasDictIn K CBadRow = true)
    (gaBadRow : PySem.W.findIn K (.ref CBadRow) "__getattribute__" = some (some (.builtin "BaseException.__getattribute__")))
    (ggBadRow : PySem.W.findIn K (.ref CBadRow) "__getattr__" = some none)
    (exBadRow : PySem.W.subIn K (.ref CBadRow) (.type "BaseException") = some true)
    (tyBadRow : PySem.W.typeIn K (.ref CBadRow) = some (.type "type"))
    (sbBadRow : PySem.W.subIn K (.ref CBadRow) (.ref CBadRow) = some true)
    (xlBadRow : ∃ nm q N bs bm sn sub ab col dd k0 k1 k2 k3 k5, K.lookup CBadRow = some (excClassObj nm q CBadRow N bs bm true sn sub ab col dd k0 k1 k2 k3 k5 "ValueError.__new__") ∧ PySem.HandSPX.refsVE bm = true)
    (gNoName : PySem.W.nsIn K mainGlobals "NoName" = some (some (.ref CNoName)))
    (aNoName0 : PySem.W.findIn K (.ref CNoName) "__init__" = some (some (.ref fNoName0)))
    (lNoName0 : K.lookup fNoName0 = some ⟨ocNoName0, odNoName0, .func (PySem.W.fnOf "__init__" "NoName.__init__" (defArgs s_NoName___init__) (defBody s_NoName___init__) (defScope s_NoName___init__) .none kVNoName0 dcNoName0 pmNoName0 anNoName0 cdNoName0 ctNoName0), slNoName0⟩)
    (cNoName0 : PySem.W.codeIn K cdNoName0 "NoName.__init__" = true)
    (kNoName0 : PySem.W.keepIn K (.ref fNoName0) = true)
    (tNoName0 : PySem.W.typeIn K (.ref fNoName0) = some (.type "function"))
    (nNoNamename : PySem.W.findIn K (.ref CNoName) "name" = some none)
    (saNoName : PySem.W.findIn K (.ref CNoName) "__setattr__" = some (some (.builtin "object.__setattr__")))
    (kcNoName : PySem.W.keepIn K (.ref CNoName) = true)
    (hdNoName : PySem.W.hasDictIn K CNoName = true)
    (gaNoName : PySem.W.findIn K (.ref CNoName) "__getattribute__" = some (some (.builtin "BaseException.__getattribute__")))
    (ggNoName : PySem.W.findIn K (.ref CNoName) "__getattr__" = some none)
    (exNoName : PySem.W.subIn K (.ref CNoName) (.type "BaseException") = some true)
    (tyNoName : PySem.W.typeIn K (.ref CNoName) = some (.type "type"))
    (sbNoName : PySem.W.subIn K (.ref CNoName) (.ref CNoName) = some true)
    (xlNoName : ∃ nm q N bs bm sn sub ab col dd k0 k1 k2 k3 k5, K.lookup CNoName = some (excClassObj nm q CNoName N bs bm true sn sub ab col dd k0 k1 k2 k3 k5 "ValueError.__new__") ∧ PySem.HandSPX.refsVE bm = true)
    (gUnlike : PySem.W.nsIn K mainGlobals "Unlike" = some (some (.ref CUnlike)))
    (aUnlike0 : PySem.W.findIn K (.ref CUnlike) "__init__" = some (some (.ref fUnlike0)))
    (lUnlike0 : K.lookup fUnlike0 = some ⟨ocUnlike0, odUnlike0, .func (PySem.W.fnOf "__init__" "Unlike.__init__" (defArgs s_Unlike___init__) (defBody s_Unlike___init__) (defScope s_Unlike___init__) .none kVUnlike0 dcUnlike0 pmUnlike0 anUnlike0 cdUnlike0 ctUnlike0), slUnlike0⟩)
    (cUnlike0 : PySem.W.codeIn K cdUnlike0 "Unlike.__init__" = true)
    (kUnlike0 : PySem.W.keepIn K (.ref fUnlike0) = true)
    (tUnlike0 : PySem.W.typeIn K (.ref fUnlike0) = some (.type "function"))
    (nUnlikewhat : PySem.W.findIn K (.ref CUnlike) "what" = some none)
    (saUnlike : PySem.W.findIn K (.ref CUnlike) "__setattr__" = some (some (.builtin "object.__setattr__")))
    (kcUnlike : PySem.W.keepIn K (.ref CUnlike) = true)
    (hdUnlike : PySem.W.hasDictIn K CUnlike = true)
    (gaUnlike : PySem.W.findIn K (.ref CUnlike) "__getattribute__" = some (some (.builtin "BaseException.__getattribute__")))
    (ggUnlike : PySem.W.findIn K (.ref CUnlike) "__getattr__" = some none)
    (exUnlike : PySem.W.subIn K (.ref CUnlike) (.type "BaseException") = some true)
    (tyUnlike : PySem.W.typeIn K (.ref CUnlike) = some (.type "type"))
    (sbUnlike : PySem.W.subIn K (.ref CUnlike) (.ref CUnlike) = some true)
    (xlUnlike : ∃ nm q N bs bm sn sub ab col dd k0 k1 k2 k3 k5, K.lookup CUnlike = some (excClassObj nm q CUnlike N bs bm true sn sub ab col dd k0 k1 k2 k3 k5 "ValueError.__new__") ∧ PySem.HandSPX.refsVE bm = true)
    (gTooMany : PySem.W.nsIn K mainGlobals "TooMany" = some (some (.ref CTooMany)))
    (aTooMany0 : PySem.W.findIn K (.ref CTooMany) "__init__" = some (some (.ref fTooMany0)))
    (lTooMany0 : K.lookup fTooMany0 = some ⟨ocTooMany0, odTooMany0, .func (PySem.W.fnOf "__init__" "TooMany.__init__" (defArgs s_TooMany___init__) (defBody s_TooMany___init__) (defScope s_TooMany___init__) .none kVTooMany0 dcTooMany0 pmTooMany0 anTooMany0 cdTooMany0 ctTooMany0), slTooMany0⟩)
    (cTooMany0 : PySem.W.codeIn K cdTooMany0 "TooMany.__init__" = true)
    (kTooMany0 : PySem.W.keepIn K (.ref fTooMany0) = true)
    (tTooMany0 : PySem.W.typeIn K (.ref fTooMany0) = some (.type "function"))
    (nTooManywhat : PySem.W.findIn K (.ref CTooMany) "what" = some none)
    (nTooManymany : PySem.W.findIn K (.ref CTooMany) "many" = some none)
    (nTooManylimit : PySem.W.findIn K (.ref CTooMany) "limit" = some none)
    (saTooMany : PySem.W.findIn K (.ref CTooMany) "__setattr__" = some (some (.builtin "object.__setattr__")))
    (kcTooMany : PySem.W.keepIn K (.ref CTooMany) = true)
    (hdTooMany : PySem.W.hasDictIn K CTooMany = true)
    (gaTooMany : PySem.W.findIn K (.ref CTooMany) "__getattribute__" = some (some (.builtin "BaseException.__getattribute__")))
    (ggTooMany : PySem.W.findIn K (.ref CTooMany) "__getattr__" = some none)
    (exTooMany : PySem.W.subIn K (.ref CTooMany) (.type "BaseException") = some true)
    (tyTooMany : PySem.W.typeIn K (.ref CTooMany) = some (.type "type"))
    (sbTooMany : PySem.W.subIn K (.ref CTooMany) (.ref CTooMany) = some true)
    (xlTooMany : ∃ nm q N bs bm sn sub ab col dd k0 k1 k2 k3 k5, K.lookup CTooMany = some (excClassObj nm q CTooMany N bs bm true sn sub ab col dd k0 k1 k2 k3 k5 "ValueError.__new__") ∧ PySem.HandSPX.refsVE bm = true)
    (gCursor : PySem.W.nsIn K mainGlobals "Cursor" = some (some (.ref CCursor)))
    (aCursor0 : PySem.W.findIn K (.ref CCursor) "__init__" = some (some (.ref fCursor0)))
    (lCursor0 : K.lookup fCursor0 = some ⟨ocCursor0, odCursor0, .func (PySem.W.fnOf "__init__" "Cursor.__init__" (defArgs s_Cursor___init__) (defBody s_Cursor___init__) (defScope s_Cursor___init__) .none kVCursor0 dcCursor0 pmCursor0 anCursor0 cdCursor0 ctCursor0), slCursor0⟩)
    (cCursor0 : PySem.W.codeIn K cdCursor0 "Cursor.__init__" = true)
    (kCursor0 : PySem.W.keepIn K (.ref fCursor0) = true)
    (iCursor0 : PySem.W.isFn K (.ref fCursor0) = true)
    (aCursor1 : PySem.W.findIn K (.ref CCursor) "seen" = some (some (.ref fCursor1)))
    (lCursor1 : K.lookup fCursor1 = some ⟨ocCursor1, odCursor1, .func (PySem.W.fnOf "seen" "Cursor.seen" (defArgs s_Cursor_seen) (defBody s_Cursor_seen) (defScope s_Cursor_seen) .none kVCursor1 dcCursor1 pmCursor1 anCursor1 cdCursor1 ctCursor1), slCursor1⟩)
    (cCursor1 : PySem.W.codeIn K cdCursor1 "Cursor.seen" = true)
    (kCursor1 : PySem.W.keepIn K (.ref fCursor1) = true)
    (iCursor1 : PySem.W.isFn K (.ref fCursor1) = true)
    (aCursor2 : PySem.W.findIn K (.ref CCursor) "refuse" = some (some (.ref fCursor2)))
    (lCursor2 : K.lookup fCursor2 = some ⟨ocCursor2, odCursor2, .func (PySem.W.fnOf "refuse" "Cursor.refuse" (defArgs s_Cursor_refuse) (defBody s_Cursor_refuse) (defScope s_Cursor_refuse) .none kVCursor2 dcCursor2 pmCursor2 anCursor2 cdCursor2 ctCursor2), slCursor2⟩)
    (cCursor2 : PySem.W.codeIn K cdCursor2 "Cursor.refuse" = true)
    (kCursor2 : PySem.W.keepIn K (.ref fCursor2) = true)
    (iCursor2 : PySem.W.isFn K (.ref fCursor2) = true)
    (aCursor3 : PySem.W.findIn K (.ref CCursor) "take" = some (some (.ref fCursor3)))
    (lCursor3 : K.lookup fCursor3 = some ⟨ocCursor3, odCursor3, .func (PySem.W.fnOf "take" "Cursor.take" (defArgs s_Cursor_take) (defBody s_Cursor_take) (defScope s_Cursor_take) .none kVCursor3 dcCursor3 pmCursor3 anCursor3 cdCursor3 ctCursor3), slCursor3⟩)
    (cCursor3 : PySem.W.codeIn K cdCursor3 "Cursor.take" = true)
    (kCursor3 : PySem.W.keepIn K (.ref fCursor3) = true)
    (iCursor3 : PySem.W.isFn K (.ref fCursor3) = true)
    (aCursor4 : PySem.W.findIn K (.ref CCursor) "need" = some (some (.ref fCursor4)))
    (lCursor4 : K.lookup fCursor4 = some ⟨ocCursor4, odCursor4, .func (PySem.W.fnOf "need" "Cursor.need" (defArgs s_Cursor_need) (defBody s_Cursor_need) (defScope s_Cursor_need) .none kVCursor4 dcCursor4 pmCursor4 anCursor4 cdCursor4 ctCursor4), slCursor4⟩)
    (cCursor4 : PySem.W.codeIn K cdCursor4 "Cursor.need" = true)
    (kCursor4 : PySem.W.keepIn K (.ref fCursor4) = true)
    (iCursor4 : PySem.W.isFn K (.ref fCursor4) = true)
    (aCursor5 : PySem.W.findIn K (.ref CCursor) "need_number" = some (some (.ref fCursor5)))
    (lCursor5 : K.lookup fCursor5 = some ⟨ocCursor5, odCursor5, .func (PySem.W.fnOf "need_number" "Cursor.need_number" (defArgs s_Cursor_need_number) (defBody s_Cursor_need_number) (defScope s_Cursor_need_number) .none kVCursor5 dcCursor5 pmCursor5 anCursor5 cdCursor5 ctCursor5), slCursor5⟩)
    (cCursor5 : PySem.W.codeIn K cdCursor5 "Cursor.need_number" = true)
    (kCursor5 : PySem.W.keepIn K (.ref fCursor5) = true)
    (iCursor5 : PySem.W.isFn K (.ref fCursor5) = true)
    (aCursor6 : PySem.W.findIn K (.ref CCursor) "need_end" = some (some (.ref fCursor6)))
    (lCursor6 : K.lookup fCursor6 = some ⟨ocCursor6, odCursor6, .func (PySem.W.fnOf "need_end" "Cursor.need_end" (defArgs s_Cursor_need_end) (defBody s_Cursor_need_end) (defScope s_Cursor_need_end) .none kVCursor6 dcCursor6 pmCursor6 anCursor6 cdCursor6 ctCursor6), slCursor6⟩)
    (cCursor6 : PySem.W.codeIn K cdCursor6 "Cursor.need_end" = true)
    (kCursor6 : PySem.W.keepIn K (.ref fCursor6) = true)
    (iCursor6 : PySem.W.isFn K (.ref fCursor6) = true)
    (aCursor7 : PySem.W.findIn K (.ref CCursor) "is_last" = some (some (.ref fCursor7)))
    (lCursor7 : K.lookup fCursor7 = some ⟨ocCursor7, odCursor7, .func (PySem.W.fnOf "is_last" "Cursor.is_last" (defArgs s_Cursor_is_last) (defBody s_Cursor_is_last) (defScope s_Cursor_is_last) .none kVCursor7 dcCursor7 pmCursor7 anCursor7 cdCursor7 ctCursor7), slCursor7⟩)
    (cCursor7 : PySem.W.codeIn K cdCursor7 "Cursor.is_last" = true)
    (kCursor7 : PySem.W.keepIn K (.ref fCursor7) = true)
    (iCursor7 : PySem.W.isFn K (.ref fCursor7) = true)
    (aCursor8 : PySem.W.findIn K (.ref CCursor) "goes_on" = some (some (.ref fCursor8)))
    (lCursor8 : K.lookup fCursor8 = some ⟨ocCursor8, odCursor8, .func (PySem.W.fnOf "goes_on" "Cursor.goes_on" (defArgs s_Cursor_goes_on) (defBody s_Cursor_goes_on) (defScope s_Cursor_goes_on) .none kVCursor8 dcCursor8 pmCursor8 anCursor8 cdCursor8 ctCursor8), slCursor8⟩)
    (cCursor8 : PySem.W.codeIn K cdCursor8 "Cursor.goes_on" = true)
    (kCursor8 : PySem.W.keepIn K (.ref fCursor8) = true)
    (iCursor8 : PySem.W.isFn K (.ref fCursor8) = true)
    (nCursorrows : PySem.W.findIn K (.ref CCursor) "rows" = some none)
    (nCursorline : PySem.W.findIn K (.ref CCursor) "line" = some none)
    (nCursorat : PySem.W.findIn K (.ref CCursor) "at" = some none)
    (saCursor : PySem.W.findIn K (.ref CCursor) "__setattr__" = some (some (.builtin "object.__setattr__")))
    (kcCursor : PySem.W.keepIn K (.ref CCursor) = true)
    (hdCursor : PySem.W.hasDictIn K CCursor = true)
    (pgCursor : PySem.W.plainGet K CCursor Str.empty = true)
    (poCursor : PySem.W.plainOver K CCursor = true)
    (miCursor : PySem.W.makesIn K CCursor = true)
    (gDutyReader : PySem.W.nsIn K mainGlobals "DutyReader" = some (some (.ref CDutyReader)))
    (aDutyReader0 : PySem.W.findIn K (.ref CDutyReader) "__init__" = some (some (.ref fDutyReader0)))
    (lDutyReader0 : K.lookup fDutyReader0 = some ⟨ocDutyReader0, odDutyReader0, .func (PySem.W.fnOf "__init__" "DutyReader.__init__" (defArgs s_DutyReader___init__) (defBody s_DutyReader___init__) (defScope s_DutyReader___init__) .none kVDutyReader0 dcDutyReader0 pmDutyReader0 anDutyReader0 cdDutyReader0 ctDutyReader0), slDutyReader0⟩)
    (cDutyReader0 : PySem.W.codeIn K cdDutyReader0 "DutyReader.__init__" = true)
    (kDutyReader0 : PySem.W.keepIn K (.ref fDutyReader0) = true)
    (iDutyReader0 : PySem.W.isFn K (.ref fDutyReader0) = true)
    (aDutyReader1 : PySem.W.findIn K (.ref CDutyReader) "kinds" = some (some (.ref fDutyReader1)))
    (lDutyReader1 : K.lookup fDutyReader1 = some ⟨ocDutyReader1, odDutyReader1, .func (PySem.W.fnOf "kinds" "DutyReader.kinds" (defArgs s_DutyReader_kinds) (defBody s_DutyReader_kinds) (defScope s_DutyReader_kinds) .none kVDutyReader1 dcDutyReader1 pmDutyReader1 anDutyReader1 cdDutyReader1 ctDutyReader1), slDutyReader1⟩)
    (cDutyReader1 : PySem.W.codeIn K cdDutyReader1 "DutyReader.kinds" = true)
    (kDutyReader1 : PySem.W.keepIn K (.ref fDutyReader1) = true)
    (iDutyReader1 : PySem.W.isFn K (.ref fDutyReader1) = true)
    (aDutyReader2 : PySem.W.findIn K (.ref CDutyReader) "names" = some (some (.ref fDutyReader2)))
    (lDutyReader2 : K.lookup fDutyReader2 = some ⟨ocDutyReader2, odDutyReader2, .func (PySem.W.fnOf "names" "DutyReader.names" (defArgs s_DutyReader_names) (defBody s_DutyReader_names) (defScope s_DutyReader_names) .none kVDutyReader2 dcDutyReader2 pmDutyReader2 anDutyReader2 cdDutyReader2 ctDutyReader2), slDutyReader2⟩)
    (cDutyReader2 : PySem.W.codeIn K cdDutyReader2 "DutyReader.names" = true)
    (kDutyReader2 : PySem.W.keepIn K (.ref fDutyReader2) = true)
    (iDutyReader2 : PySem.W.isFn K (.ref fDutyReader2) = true)
    (aDutyReader3 : PySem.W.findIn K (.ref CDutyReader) "plain" = some (some (.ref fDutyReader3)))
    (lDutyReader3 : K.lookup fDutyReader3 = some ⟨ocDutyReader3, odDutyReader3, .func (PySem.W.fnOf "plain" "DutyReader.plain" (defArgs s_DutyReader_plain) (defBody s_DutyReader_plain) (defScope s_DutyReader_plain) .none kVDutyReader3 dcDutyReader3 pmDutyReader3 anDutyReader3 cdDutyReader3 ctDutyReader3), slDutyReader3⟩)
    (cDutyReader3 : PySem.W.codeIn K cdDutyReader3 "DutyReader.plain" = true)
    (kDutyReader3 : PySem.W.keepIn K (.ref fDutyReader3) = true)
    (iDutyReader3 : PySem.W.isFn K (.ref fDutyReader3) = true)
    (aDutyReader4 : PySem.W.findIn K (.ref CDutyReader) "begin" = some (some (.ref fDutyReader4)))
    (lDutyReader4 : K.lookup fDutyReader4 = some ⟨ocDutyReader4, odDutyReader4, .func (PySem.W.fnOf "begin" "DutyReader.begin" (defArgs s_DutyReader_begin) (defBody s_DutyReader_begin) (defScope s_DutyReader_begin) .none kVDutyReader4 dcDutyReader4 pmDutyReader4 anDutyReader4 cdDutyReader4 ctDutyReader4), slDutyReader4⟩)
    (cDutyReader4 : PySem.W.codeIn K cdDutyReader4 "DutyReader.begin" = true)
    (kDutyReader4 : PySem.W.keepIn K (.ref fDutyReader4) = true)
    (iDutyReader4 : PySem.W.isFn K (.ref fDutyReader4) = true)
    (aDutyReader5 : PySem.W.findIn K (.ref CDutyReader) "end" = some (some (.ref fDutyReader5)))
    (lDutyReader5 : K.lookup fDutyReader5 = some ⟨ocDutyReader5, odDutyReader5, .func (PySem.W.fnOf "end" "DutyReader.end" (defArgs s_DutyReader_end) (defBody s_DutyReader_end) (defScope s_DutyReader_end) .none kVDutyReader5 dcDutyReader5 pmDutyReader5 anDutyReader5 cdDutyReader5 ctDutyReader5), slDutyReader5⟩)
    (cDutyReader5 : PySem.W.codeIn K cdDutyReader5 "DutyReader.end" = true)
    (kDutyReader5 : PySem.W.keepIn K (.ref fDutyReader5) = true)
    (iDutyReader5 : PySem.W.isFn K (.ref fDutyReader5) = true)
    (aDutyReader6 : PySem.W.findIn K (.ref CDutyReader) "duty" = some (some (.ref fDutyReader6)))
    (lDutyReader6 : K.lookup fDutyReader6 = some ⟨ocDutyReader6, odDutyReader6, .func (PySem.W.fnOf "duty" "DutyReader.duty" (defArgs s_DutyReader_duty) (defBody s_DutyReader_duty) (defScope s_DutyReader_duty) .none kVDutyReader6 dcDutyReader6 pmDutyReader6 anDutyReader6 cdDutyReader6 ctDutyReader6), slDutyReader6⟩)
    (cDutyReader6 : PySem.W.codeIn K cdDutyReader6 "DutyReader.duty" = true)
    (kDutyReader6 : PySem.W.keepIn K (.ref fDutyReader6) = true)
    (iDutyReader6 : PySem.W.isFn K (.ref fDutyReader6) = true)
    (nDutyReadercursor : PySem.W.findIn K (.ref CDutyReader) "cursor" = some none)
    (nDutyReaderis_let : PySem.W.findIn K (.ref CDutyReader) "is_let" = some none)
    (nDutyReaderread : PySem.W.findIn K (.ref CDutyReader) "read" = some none)
    (nDutyReaderdue : PySem.W.findIn K (.ref CDutyReader) "due" = some none)
    (nDutyReaderframes : PySem.W.findIn K (.ref CDutyReader) "frames" = some none)
    (saDutyReader : PySem.W.findIn K (.ref CDutyReader) "__setattr__" = some (some (.builtin "object.__setattr__")))
    (kcDutyReader : PySem.W.keepIn K (.ref CDutyReader) = true)
    (hdDutyReader : PySem.W.hasDictIn K CDutyReader = true)
    (pgDutyReader : PySem.W.plainGet K CDutyReader Str.empty = true)
    (poDutyReader : PySem.W.plainOver K CDutyReader = true)
    (miDutyReader : PySem.W.makesIn K CDutyReader = true)
    (gFIGURES : PySem.W.nsIn K mainGlobals "FIGURES" = some (some (.str "0123456789" tFIGURES)))
    (gEND : PySem.W.nsIn K mainGlobals "END" = some (some (.str ";" tEND)))
    (gLETTERS : PySem.W.nsIn K mainGlobals "LETTERS" = some (some (.str "abcdefghijklmnopqrstuvwxyz" tLETTERS)))
    (gMOST_PLAIN : PySem.W.nsIn K mainGlobals "MOST_PLAIN" = some (some (.int 4 tMOST_PLAIN)))
    (gMOST_AROUND : PySem.W.nsIn K mainGlobals "MOST_AROUND" = some (some (.int 4 tMOST_AROUND)))
    (gLEAST_CALLS : PySem.W.nsIn K mainGlobals "LEAST_CALLS" = some (some (.ref aLEAST_CALLS)))
    (lLEAST_CALLS : K.lookup aLEAST_CALLS = some ⟨.type "dict", none, .dict #[⟨PyData.keyHash w.params "call", .str "call" tLEAST_CALLS0, .int 1 uLEAST_CALLS0⟩, ⟨PyData.keyHash w.params "row", .str "row" tLEAST_CALLS1, .int 2 uLEAST_CALLS1⟩, ⟨PyData.keyHash w.params "steps", .str "steps" tLEAST_CALLS2, .int 2 uLEAST_CALLS2⟩, ⟨PyData.keyHash w.params "answer", .str "answer" tLEAST_CALLS3, .int 2 uLEAST_CALLS3⟩, ⟨PyData.keyHash w.params "never", .str "never" tLEAST_CALLS4, .int 1 uLEAST_CALLS4⟩] nLEAST_CALLS, #[]⟩)
    (zLEAST_CALLS : (aLEAST_CALLS == sysModules) = false)
    (gMOST_CALLS : PySem.W.nsIn K mainGlobals "MOST_CALLS" = some (some (.ref aMOST_CALLS)))
    (lMOST_CALLS : K.lookup aMOST_CALLS = some ⟨.type "dict", none, .dict #[⟨PyData.keyHash w.params "call", .str "call" tMOST_CALLS0, .int 1 uMOST_CALLS0⟩, ⟨PyData.keyHash w.params "row", .str "row" tMOST_CALLS1, .int 4 uMOST_CALLS1⟩, ⟨PyData.keyHash w.params "steps", .str "steps" tMOST_CALLS2, .int 4 uMOST_CALLS2⟩, ⟨PyData.keyHash w.params "answer", .str "answer" tMOST_CALLS3, .int 2 uMOST_CALLS3⟩, ⟨PyData.keyHash w.params "never", .str "never" tMOST_CALLS4, .int 4 uMOST_CALLS4⟩] nMOST_CALLS, #[]⟩)
    (zMOST_CALLS : (aMOST_CALLS == sysModules) = false)
    (gJOINTS : PySem.W.nsIn K mainGlobals "JOINTS" = some (some (.ref aJOINTS)))
    (lJOINTS : K.lookup aJOINTS = some ⟨.type "tuple", odJOINTS, .seq #[.str "all" tJOINTS0, .str "any" tJOINTS1] nJOINTS, slJOINTS⟩)
    (ball : PySem.W.nsIn K mainGlobals "all" = some none)
    (brange : PySem.W.nsIn K mainGlobals "range" = some none)
    (btuple : PySem.W.nsIn K mainGlobals "tuple" = some none)
    (bisinstance : PySem.W.nsIn K mainGlobals "isinstance" = some none)
    (bstr : PySem.W.nsIn K mainGlobals "str" = some none)
    (bint : PySem.W.nsIn K mainGlobals "int" = some none)
    (blist : PySem.W.nsIn K mainGlobals "list" = some none)
    (blen : PySem.W.nsIn K mainGlobals "len" = some none)
    (bsorted : PySem.W.nsIn K mainGlobals "sorted" = some none)
    (bdict : PySem.W.nsIn K mainGlobals "dict" = some none)
    (brepr : PySem.W.nsIn K mainGlobals "repr" = some none)
    (hcdlaw : cd21 = .ref cclaw) (lcclaw : K.lookup cclaw = some ⟨xclaw, xolaw, .fields vsxlaw, xslaw⟩) (hvlaw : (vsxlaw[11]? : Option Value) = some (.ref tblaw)) (hhlaw : PySem.W.codeHdIn K cclaw tblaw = true) (ntblaw : K.lookup tblaw = none) (htlaw : s.heap.get? tblaw = some emptyT)
    (hcdneed : cdCursor4 = .ref ccneed) (lccneed : K.lookup ccneed = some ⟨xcneed, xoneed, .fields vsxneed, xsneed⟩) (hvneed : (vsxneed[11]? : Option Value) = some (.ref tbneed)) (hhneed : PySem.W.codeHdIn K ccneed tbneed = true) (ntbneed : K.lookup tbneed = none) (htneed : s.heap.get? tbneed = some emptyT)
    (hcdnum : cdCursor5 = .ref ccnum) (lccnum : K.lookup ccnum = some ⟨xcnum, xonum, .fields vsxnum, xsnum⟩) (hvnum : (vsxnum[11]? : Option Value) = some (.ref tbnum)) (hhnum : PySem.W.codeHdIn K ccnum tbnum = true) (ntbnum : K.lookup tbnum = none) (htnum : s.heap.get? tbnum = some emptyT)
    (hcdnames : cdDutyReader2 = .ref ccnames) (lccnames : K.lookup ccnames = some ⟨xcnames, xonames, .fields vsxnames, xsnames⟩) (hvnames : (vsxnames[11]? : Option Value) = some (.ref tbnames)) (hhnames : PySem.W.codeHdIn K ccnames tbnames = true) (ntbnames : K.lookup tbnames = none) (htnames : s.heap.get? tbnames = some emptyT)
    (hnd : [tblaw, tbneed, tbnum, tbnames].Nodup) :
    LawG l w K 63 mg fa s := by
  have G := TP.g
  have e : f22 = fa := Value.ref.inj (Option.some.inj ((PySem.W.mg_of X G a22).symm.trans hfa))
  subst e
  let T : Txt w K mg := {
    a_is_numeral := f0
    d_is_numeral := (PySem.W.fnOf "is_numeral" "is_numeral" (defArgs s_is_numeral) (defBody s_is_numeral) (defScope s_is_numeral) .none kV0 dc0 pm0 an0 cd0 ct0)
    D_is_numeral := ⟨fun_mk (st := s_is_numeral) l0 c0 k0, PySem.W.mg_of X G a0, (fun_mk (x := "is_numeral") (qual := "is_numeral") (st := s_is_numeral) l0 c0 k0).binds (ps := ["word"]) fun _ _ _ _ _ _ us hl => match us, hl with | [_], _ => rfl⟩
    a_rows_of := f1
    d_rows_of := (PySem.W.fnOf "rows_of" "rows_of" (defArgs s_rows_of) (defBody s_rows_of) (defScope s_rows_of) .none kV1 dc1 pm1 an1 cd1 ct1)
    D_rows_of := ⟨fun_mk (st := s_rows_of) l1 c1 k1, PySem.W.mg_of X G a1, (fun_mk (x := "rows_of") (qual := "rows_of") (st := s_rows_of) l1 c1 k1).binds (ps := ["text"]) fun _ _ _ _ _ _ us hl => match us, hl with | [_], _ => rfl⟩
    a_is_name := f2
    d_is_name := (PySem.W.fnOf "is_name" "is_name" (defArgs s_is_name) (defBody s_is_name) (defScope s_is_name) .none kV2 dc2 pm2 an2 cd2 ct2)
    D_is_name := ⟨fun_mk (st := s_is_name) l2 c2 k2, PySem.W.mg_of X G a2, (fun_mk (x := "is_name") (qual := "is_name") (st := s_is_name) l2 c2 k2).binds (ps := ["value"]) fun _ _ _ _ _ _ us hl => match us, hl with | [_], _ => rfl⟩
    a_duty_read := f3
    d_duty_read := (PySem.W.fnOf "duty_read" "duty_read" (defArgs s_duty_read) (defBody s_duty_read) (defScope s_duty_read) .none kV3 dc3 pm3 an3 cd3 ct3)
    D_duty_read := ⟨fun_mk (st := s_duty_read) l3 c3 k3, PySem.W.mg_of X G a3, (fun_mk (x := "duty_read") (qual := "duty_read") (st := s_duty_read) l3 c3 k3).binds (ps := ["text"]) fun _ _ _ _ _ _ us hl => match us, hl with | [_], _ => rfl⟩
    a_law_pen := f4
    d_law_pen := (PySem.W.fnOf "_law_pen" "_law_pen" (defArgs s_law_pen) (defBody s_law_pen) (defScope s_law_pen) .none kV4 dc4 pm4 an4 cd4 ct4)
    D_law_pen := ⟨fun_mk (st := s_law_pen) l4 c4 k4, PySem.W.mg_of X G a4, (fun_mk (x := "_law_pen") (qual := "_law_pen") (st := s_law_pen) l4 c4 k4).binds (ps := ["script"]) fun _ _ _ _ _ _ us hl => match us, hl with | [_], _ => rfl⟩
    a_law_draw := f5
    d_law_draw := (PySem.W.fnOf "_law_draw" "_law_draw" (defArgs s_law_draw) (defBody s_law_draw) (defScope s_law_draw) .none kV5 dc5 pm5 an5 cd5 ct5)
    D_law_draw := ⟨fun_mk (st := s_law_draw) l5 c5 k5, PySem.W.mg_of X G a5, (fun_mk (x := "_law_draw") (qual := "_law_draw") (st := s_law_draw) l5 c5 k5).binds (ps := ["pen", "many"]) fun _ _ _ _ _ _ us hl => match us, hl with | [_, _], _ => rfl⟩
    a_law_pick := f6
    d_law_pick := (PySem.W.fnOf "_law_pick" "_law_pick" (defArgs s_law_pick) (defBody s_law_pick) (defScope s_law_pick) .none kV6 dc6 pm6 an6 cd6 ct6)
    D_law_pick := ⟨fun_mk (st := s_law_pick) l6 c6 k6, PySem.W.mg_of X G a6, (fun_mk (x := "_law_pick") (qual := "_law_pick") (st := s_law_pick) l6 c6 k6).binds (ps := ["pen", "some"]) fun _ _ _ _ _ _ us hl => match us, hl with | [_, _], _ => rfl⟩
    a_law_shuffled := f7
    d_law_shuffled := (PySem.W.fnOf "_law_shuffled" "_law_shuffled" (defArgs s_law_shuffled) (defBody s_law_shuffled) (defScope s_law_shuffled) .none kV7 dc7 pm7 an7 cd7 ct7)
    D_law_shuffled := ⟨fun_mk (st := s_law_shuffled) l7 c7 k7, PySem.W.mg_of X G a7, (fun_mk (x := "_law_shuffled") (qual := "_law_shuffled") (st := s_law_shuffled) l7 c7 k7).binds (ps := ["pen", "some"]) fun _ _ _ _ _ _ us hl => match us, hl with | [_, _], _ => rfl⟩
    a_law_name := f8
    d_law_name := (PySem.W.fnOf "_law_name" "_law_name" (defArgs s_law_name) (defBody s_law_name) (defScope s_law_name) .none kV8 dc8 pm8 an8 cd8 ct8)
    D_law_name := ⟨fun_mk (st := s_law_name) l8 c8 k8, PySem.W.mg_of X G a8, (fun_mk (x := "_law_name") (qual := "_law_name") (st := s_law_name) l8 c8 k8).binds (ps := ["pen", "index"]) fun _ _ _ _ _ _ us hl => match us, hl with | [_, _], _ => rfl⟩
    a_law_names := f9
    d_law_names := (PySem.W.fnOf "_law_names" "_law_names" (defArgs s_law_names) (defBody s_law_names) (defScope s_law_names) .none kV9 dc9 pm9 an9 cd9 ct9)
    D_law_names := ⟨fun_mk (st := s_law_names) l9 c9 k9, PySem.W.mg_of X G a9, (fun_mk (x := "_law_names") (qual := "_law_names") (st := s_law_names) l9 c9 k9).binds (ps := ["pen", "many"]) fun _ _ _ _ _ _ us hl => match us, hl with | [_, _], _ => rfl⟩
    a_law_is_name := f10
    d_law_is_name := (PySem.W.fnOf "_law_is_name" "_law_is_name" (defArgs s_law_is_name) (defBody s_law_is_name) (defScope s_law_is_name) .none kV10 dc10 pm10 an10 cd10 ct10)
    D_law_is_name := ⟨fun_mk (st := s_law_is_name) l10 c10 k10, PySem.W.mg_of X G a10, (fun_mk (x := "_law_is_name") (qual := "_law_is_name") (st := s_law_is_name) l10 c10 k10).binds (ps := ["value"]) fun _ _ _ _ _ _ us hl => match us, hl with | [_], _ => rfl⟩
    a_law_is_figures := f11
    d_law_is_figures := (PySem.W.fnOf "_law_is_figures" "_law_is_figures" (defArgs s_law_is_figures) (defBody s_law_is_figures) (defScope s_law_is_figures) .none kV11 dc11 pm11 an11 cd11 ct11)
    D_law_is_figures := ⟨fun_mk (st := s_law_is_figures) l11 c11 k11, PySem.W.mg_of X G a11, (fun_mk (x := "_law_is_figures") (qual := "_law_is_figures") (st := s_law_is_figures) l11 c11 k11).binds (ps := ["word"]) fun _ _ _ _ _ _ us hl => match us, hl with | [_], _ => rfl⟩
    a_law_calls := f12
    d_law_calls := (PySem.W.fnOf "_law_calls" "_law_calls" (defArgs s_law_calls) (defBody s_law_calls) (defScope s_law_calls) .none kV12 dc12 pm12 an12 cd12 ct12)
    D_law_calls := ⟨fun_mk (st := s_law_calls) l12 c12 k12, PySem.W.mg_of X G a12, (fun_mk (x := "_law_calls") (qual := "_law_calls") (st := s_law_calls) l12 c12 k12).binds (ps := ["pen", "many"]) fun _ _ _ _ _ _ us hl => match us, hl with | [_, _], _ => rfl⟩
    a_law_why := f13
    d_law_why := (PySem.W.fnOf "_law_why" "_law_why" (defArgs s_law_why) (defBody s_law_why) (defScope s_law_why) .none kV13 dc13 pm13 an13 cd13 ct13)
    D_law_why := ⟨fun_mk (st := s_law_why) l13 c13 k13, PySem.W.mg_of X G a13, (fun_mk (x := "_law_why") (qual := "_law_why") (st := s_law_why) l13 c13 k13).binds (ps := ["call"]) fun _ _ _ _ _ _ us hl => match us, hl with | [_], _ => rfl⟩
    a_law_some_plain := f14
    d_law_some_plain := (PySem.W.fnOf "_law_some_plain" "_law_some_plain" (defArgs s_law_some_plain) (defBody s_law_some_plain) (defScope s_law_some_plain) .none kV14 dc14 pm14 an14 cd14 ct14)
    D_law_some_plain := ⟨fun_mk (st := s_law_some_plain) l14 c14 k14, PySem.W.mg_of X G a14, (fun_mk (x := "_law_some_plain") (qual := "_law_some_plain") (st := s_law_some_plain) l14 c14 k14).binds (ps := ["pen", "calls"]) fun _ _ _ _ _ _ us hl => match us, hl with | [_, _], _ => rfl⟩
    a_law_some_duty := f15
    d_law_some_duty := (PySem.W.fnOf "_law_some_duty" "_law_some_duty" (defArgs s_law_some_duty) (defBody s_law_some_duty) (defScope s_law_some_duty) .none kV15 dc15 pm15 an15 cd15 ct15)
    D_law_some_duty := ⟨fun_mk (st := s_law_some_duty) l15 c15 k15, PySem.W.mg_of X G a15, (fun_mk (x := "_law_some_duty") (qual := "_law_some_duty") (st := s_law_some_duty) l15 c15 k15).binds (ps := ["pen", "calls", "many", "deep"]) fun _ _ _ _ _ _ us hl => match us, hl with | [_, _, _, _], _ => rfl⟩
    a_law_plain_names := f16
    d_law_plain_names := (PySem.W.fnOf "_law_plain_names" "_law_plain_names" (defArgs s_law_plain_names) (defBody s_law_plain_names) (defScope s_law_plain_names) .none kV16 dc16 pm16 an16 cd16 ct16)
    D_law_plain_names := ⟨fun_mk (st := s_law_plain_names) l16 c16 k16, PySem.W.mg_of X G a16, (fun_mk (x := "_law_plain_names") (qual := "_law_plain_names") (st := s_law_plain_names) l16 c16 k16).binds (ps := ["duty"]) fun _ _ _ _ _ _ us hl => match us, hl with | [_], _ => rfl⟩
    a_law_duty_words := f17
    d_law_duty_words := (PySem.W.fnOf "_law_duty_words" "_law_duty_words" (defArgs s_law_duty_words) (defBody s_law_duty_words) (defScope s_law_duty_words) .none kV17 dc17 pm17 an17 cd17 ct17)
    D_law_duty_words := ⟨fun_mk (st := s_law_duty_words) l17 c17 k17, PySem.W.mg_of X G a17, (fun_mk (x := "_law_duty_words") (qual := "_law_duty_words") (st := s_law_duty_words) l17 c17 k17).binds (ps := ["duty"]) fun _ _ _ _ _ _ us hl => match us, hl with | [_], _ => rfl⟩
    a_law_bent_words := f18
    d_law_bent_words := (PySem.W.fnOf "_law_bent_words" "_law_bent_words" (defArgs s_law_bent_words) (defBody s_law_bent_words) (defScope s_law_bent_words) .none kV18 dc18 pm18 an18 cd18 ct18)
    D_law_bent_words := ⟨fun_mk (st := s_law_bent_words) l18 c18 k18, PySem.W.mg_of X G a18, (fun_mk (x := "_law_bent_words") (qual := "_law_bent_words") (st := s_law_bent_words) l18 c18 k18).binds (ps := ["pen", "words", "more"]) fun _ _ _ _ _ _ us hl => match us, hl with | [_, _, _], _ => rfl⟩
    a_law_read_plain := f19
    d_law_read_plain := (PySem.W.fnOf "_law_read_plain" "_law_read_plain" (defArgs s_law_read_plain) (defBody s_law_read_plain) (defScope s_law_read_plain) .none kV19 dc19 pm19 an19 cd19 ct19)
    D_law_read_plain := ⟨fun_mk (st := s_law_read_plain) l19 c19 k19, PySem.W.mg_of X G a19, (fun_mk (x := "_law_read_plain") (qual := "_law_read_plain") (st := s_law_read_plain) l19 c19 k19).binds (ps := ["words", "at"]) fun _ _ _ _ _ _ us hl => match us, hl with | [_, _], _ => rfl⟩
    a_law_due := f20
    d_law_due := (PySem.W.fnOf "_law_due" "_law_due" (defArgs s_law_due) (defBody s_law_due) (defScope s_law_due) .none kV20 dc20 pm20 an20 cd20 ct20)
    D_law_due := ⟨fun_mk (st := s_law_due) l20 c20 k20, PySem.W.mg_of X G a20, (fun_mk (x := "_law_due") (qual := "_law_due") (st := s_law_due) l20 c20 k20).binds (ps := ["text"]) fun _ _ _ _ _ _ us hl => match us, hl with | [_], _ => rfl⟩
    a_law_is_read := f21
    d_law_is_read := (PySem.W.fnOf "_law_is_read" "_law_is_read" (defArgs s_law_is_read) (defBody s_law_is_read) (defScope s_law_is_read) .none kV21 dc21 pm21 an21 cd21 ct21)
    D_law_is_read := ⟨fun_mk (st := s_law_is_read) l21 c21 k21, PySem.W.mg_of X G a21, (fun_mk (x := "_law_is_read") (qual := "_law_is_read") (st := s_law_is_read) l21 c21 k21).binds (ps := ["text"]) fun _ _ _ _ _ _ us hl => match us, hl with | [_], _ => rfl⟩
    a_law := f22
    d_law := (PySem.W.fnOf "law" "law" (defArgs s_law) (defBody s_law) (defScope s_law) .none kV22 dc22 pm22 an22 cd22 ct22)
    D_law := ⟨fun_mk (st := s_law) l22 c22 k22, PySem.W.mg_of X G a22, (fun_mk (x := "law") (qual := "law") (st := s_law) l22 c22 k22).binds (ps := ["script"]) fun _ _ _ _ _ _ us hl => match us, hl with | [_], _ => rfl⟩
    C_AgainError := CAgainError
    g_AgainError := PySem.W.mg_of X G gAgainError
    ox_AgainError := ⟨xlAgainError, saAgainError, exAgainError, tyAgainError, kcAgainError⟩
    xf_AgainError := ⟨gaAgainError, ggAgainError, exAgainError, hdAgainError⟩
    sb_AgainError := sbAgainError
    C_BadText := CBadText
    g_BadText := PySem.W.mg_of X G gBadText
    a_BadText___init__ := fBadText0
    d_BadText___init__ := (PySem.W.fnOf "__init__" "BadText.__init__" (defArgs s_BadText___init__) (defBody s_BadText___init__) (defScope s_BadText___init__) .none kVBadText0 dcBadText0 pmBadText0 anBadText0 cdBadText0 ctBadText0)
    D_BadText___init__ := ⟨fun_mk (st := s_BadText___init__) lBadText0 cBadText0 kBadText0, (fun_mk (x := "__init__") (qual := "BadText.__init__") (st := s_BadText___init__) lBadText0 cBadText0 kBadText0).binds (ps := ["self", "line", "word"]) fun _ _ _ _ _ _ us hl => match us, hl with | [_, _, _], _ => rfl⟩
    ic_BadText := aBadText0
    ti_BadText := tBadText0
    na_BadText_line := nBadTextline
    na_BadText_word := nBadTextword
    ox_BadText := ⟨xlBadText, saBadText, exBadText, tyBadText, kcBadText⟩
    xf_BadText := ⟨gaBadText, ggBadText, exBadText, hdBadText⟩
    sb_BadText := sbBadText
    C_BadNumber := CBadNumber
    g_BadNumber := PySem.W.mg_of X G gBadNumber
    a_BadNumber___init__ := fBadNumber0
    d_BadNumber___init__ := (PySem.W.fnOf "__init__" "BadNumber.__init__" (defArgs s_BadNumber___init__) (defBody s_BadNumber___init__) (defScope s_BadNumber___init__) .none kVBadNumber0 dcBadNumber0 pmBadNumber0 anBadNumber0 cdBadNumber0 ctBadNumber0)
    D_BadNumber___init__ := ⟨fun_mk (st := s_BadNumber___init__) lBadNumber0 cBadNumber0 kBadNumber0, (fun_mk (x := "__init__") (qual := "BadNumber.__init__") (st := s_BadNumber___init__) lBadNumber0 cBadNumber0 kBadNumber0).binds (ps := ["self", "what", "number"]) fun _ _ _ _ _ _ us hl => match us, hl with | [_, _, _], _ => rfl⟩
    ic_BadNumber := aBadNumber0
    ti_BadNumber := tBadNumber0
    na_BadNumber_what := nBadNumberwhat
    na_BadNumber_number := nBadNumbernumber
    ox_BadNumber := ⟨xlBadNumber, saBadNumber, exBadNumber, tyBadNumber, kcBadNumber⟩
    xf_BadNumber := ⟨gaBadNumber, ggBadNumber, exBadNumber, hdBadNumber⟩
    sb_BadNumber := sbBadNumber
    C_BadRow := CBadRow
    g_BadRow := PySem.W.mg_of X G gBadRow
    a_BadRow___init__ := fBadRow0
    d_BadRow___init__ := (PySem.W.fnOf "__init__" "BadRow.__init__" (defArgs s_BadRow___init__) (defBody s_BadRow___init__) (defScope s_BadRow___init__) .none kVBadRow0 dcBadRow0 pmBadRow0 anBadRow0 cdBadRow0 ctBadRow0)
    D_BadRow___init__ := ⟨fun_mk (st := s_BadRow___init__) lBadRow0 cBadRow0 kBadRow0, (fun_mk (x := "__init__") (qual := "BadRow.__init__") (st := s_BadRow___init__) lBadRow0 cBadRow0 kBadRow0).binds (ps := ["self", "what", "row"]) fun _ _ _ _ _ _ us hl => match us, hl with | [_, _, _], _ => rfl⟩
    ic_BadRow := aBadRow0
    ti_BadRow := tBadRow0
    na_BadRow_what := nBadRowwhat
    na_BadRow_row := nBadRowrow
    ox_BadRow := ⟨xlBadRow, saBadRow, exBadRow, tyBadRow, kcBadRow⟩
    xf_BadRow := ⟨gaBadRow, ggBadRow, exBadRow, hdBadRow⟩
    sb_BadRow := sbBadRow
    C_NoName := CNoName
    g_NoName := PySem.W.mg_of X G gNoName
    a_NoName___init__ := fNoName0
    d_NoName___init__ := (PySem.W.fnOf "__init__" "NoName.__init__" (defArgs s_NoName___init__) (defBody s_NoName___init__) (defScope s_NoName___init__) .none kVNoName0 dcNoName0 pmNoName0 anNoName0 cdNoName0 ctNoName0)
    D_NoName___init__ := ⟨fun_mk (st := s_NoName___init__) lNoName0 cNoName0 kNoName0, (fun_mk (x := "__init__") (qual := "NoName.__init__") (st := s_NoName___init__) lNoName0 cNoName0 kNoName0).binds (ps := ["self", "name"]) fun _ _ _ _ _ _ us hl => match us, hl with | [_, _], _ => rfl⟩
    ic_NoName := aNoName0
    ti_NoName := tNoName0
    na_NoName_name := nNoNamename
    ox_NoName := ⟨xlNoName, saNoName, exNoName, tyNoName, kcNoName⟩
    xf_NoName := ⟨gaNoName, ggNoName, exNoName, hdNoName⟩
    sb_NoName := sbNoName
    C_Unlike := CUnlike
    g_Unlike := PySem.W.mg_of X G gUnlike
    a_Unlike___init__ := fUnlike0
    d_Unlike___init__ := (PySem.W.fnOf "__init__" "Unlike.__init__" (defArgs s_Unlike___init__) (defBody s_Unlike___init__) (defScope s_Unlike___init__) .none kVUnlike0 dcUnlike0 pmUnlike0 anUnlike0 cdUnlike0 ctUnlike0)
    D_Unlike___init__ := ⟨fun_mk (st := s_Unlike___init__) lUnlike0 cUnlike0 kUnlike0, (fun_mk (x := "__init__") (qual := "Unlike.__init__") (st := s_Unlike___init__) lUnlike0 cUnlike0 kUnlike0).binds (ps := ["self", "what"]) fun _ _ _ _ _ _ us hl => match us, hl with | [_, _], _ => rfl⟩
    ic_Unlike := aUnlike0
    ti_Unlike := tUnlike0
    na_Unlike_what := nUnlikewhat
    ox_Unlike := ⟨xlUnlike, saUnlike, exUnlike, tyUnlike, kcUnlike⟩
    xf_Unlike := ⟨gaUnlike, ggUnlike, exUnlike, hdUnlike⟩
    sb_Unlike := sbUnlike
    C_TooMany := CTooMany
    g_TooMany := PySem.W.mg_of X G gTooMany
    a_TooMany___init__ := fTooMany0
    d_TooMany___init__ := (PySem.W.fnOf "__init__" "TooMany.__init__" (defArgs s_TooMany___init__) (defBody s_TooMany___init__) (defScope s_TooMany___init__) .none kVTooMany0 dcTooMany0 pmTooMany0 anTooMany0 cdTooMany0 ctTooMany0)
    D_TooMany___init__ := ⟨fun_mk (st := s_TooMany___init__) lTooMany0 cTooMany0 kTooMany0, (fun_mk (x := "__init__") (qual := "TooMany.__init__") (st := s_TooMany___init__) lTooMany0 cTooMany0 kTooMany0).binds (ps := ["self", "what", "many", "limit"]) fun _ _ _ _ _ _ us hl => match us, hl with | [_, _, _, _], _ => rfl⟩
    ic_TooMany := aTooMany0
    ti_TooMany := tTooMany0
    na_TooMany_what := nTooManywhat
    na_TooMany_many := nTooManymany
    na_TooMany_limit := nTooManylimit
    ox_TooMany := ⟨xlTooMany, saTooMany, exTooMany, tyTooMany, kcTooMany⟩
    xf_TooMany := ⟨gaTooMany, ggTooMany, exTooMany, hdTooMany⟩
    sb_TooMany := sbTooMany
    C_Cursor := CCursor
    g_Cursor := PySem.W.mg_of X G gCursor
    a_Cursor___init__ := fCursor0
    d_Cursor___init__ := (PySem.W.fnOf "__init__" "Cursor.__init__" (defArgs s_Cursor___init__) (defBody s_Cursor___init__) (defScope s_Cursor___init__) .none kVCursor0 dcCursor0 pmCursor0 anCursor0 cdCursor0 ctCursor0)
    D_Cursor___init__ := ⟨fun_mk (st := s_Cursor___init__) lCursor0 cCursor0 kCursor0, (fun_mk (x := "__init__") (qual := "Cursor.__init__") (st := s_Cursor___init__) lCursor0 cCursor0 kCursor0).binds (ps := ["self", "rows"]) fun _ _ _ _ _ _ us hl => match us, hl with | [_, _], _ => rfl⟩
    mk_Cursor := ⟨miCursor, aCursor0, iCursor0, kcCursor⟩
    a_Cursor_seen := fCursor1
    d_Cursor_seen := (PySem.W.fnOf "seen" "Cursor.seen" (defArgs s_Cursor_seen) (defBody s_Cursor_seen) (defScope s_Cursor_seen) .none kVCursor1 dcCursor1 pmCursor1 anCursor1 cdCursor1 ctCursor1)
    D_Cursor_seen := ⟨fun_mk (st := s_Cursor_seen) lCursor1 cCursor1 kCursor1, (fun_mk (x := "seen") (qual := "Cursor.seen") (st := s_Cursor_seen) lCursor1 cCursor1 kCursor1).binds (ps := ["self"]) fun _ _ _ _ _ _ us hl => match us, hl with | [_], _ => rfl⟩
    mt_Cursor_seen := ⟨aCursor1, iCursor1, kCursor1⟩
    a_Cursor_refuse := fCursor2
    d_Cursor_refuse := (PySem.W.fnOf "refuse" "Cursor.refuse" (defArgs s_Cursor_refuse) (defBody s_Cursor_refuse) (defScope s_Cursor_refuse) .none kVCursor2 dcCursor2 pmCursor2 anCursor2 cdCursor2 ctCursor2)
    D_Cursor_refuse := ⟨fun_mk (st := s_Cursor_refuse) lCursor2 cCursor2 kCursor2, (fun_mk (x := "refuse") (qual := "Cursor.refuse") (st := s_Cursor_refuse) lCursor2 cCursor2 kCursor2).binds (ps := ["self"]) fun _ _ _ _ _ _ us hl => match us, hl with | [_], _ => rfl⟩
    mt_Cursor_refuse := ⟨aCursor2, iCursor2, kCursor2⟩
    a_Cursor_take := fCursor3
    d_Cursor_take := (PySem.W.fnOf "take" "Cursor.take" (defArgs s_Cursor_take) (defBody s_Cursor_take) (defScope s_Cursor_take) .none kVCursor3 dcCursor3 pmCursor3 anCursor3 cdCursor3 ctCursor3)
    D_Cursor_take := ⟨fun_mk (st := s_Cursor_take) lCursor3 cCursor3 kCursor3, (fun_mk (x := "take") (qual := "Cursor.take") (st := s_Cursor_take) lCursor3 cCursor3 kCursor3).binds (ps := ["self", "is_right"]) fun _ _ _ _ _ _ us hl => match us, hl with | [_, _], _ => rfl⟩
    mt_Cursor_take := ⟨aCursor3, iCursor3, kCursor3⟩
    a_Cursor_need := fCursor4
    d_Cursor_need := (PySem.W.fnOf "need" "Cursor.need" (defArgs s_Cursor_need) (defBody s_Cursor_need) (defScope s_Cursor_need) .none kVCursor4 dcCursor4 pmCursor4 anCursor4 cdCursor4 ctCursor4)
    D_Cursor_need := ⟨fun_mk (st := s_Cursor_need) lCursor4 cCursor4 kCursor4, (fun_mk (x := "need") (qual := "Cursor.need") (st := s_Cursor_need) lCursor4 cCursor4 kCursor4).binds (ps := ["self", "some"]) fun _ _ _ _ _ _ us hl => match us, hl with | [_, _], _ => rfl⟩
    mt_Cursor_need := ⟨aCursor4, iCursor4, kCursor4⟩
    a_Cursor_need_number := fCursor5
    d_Cursor_need_number := (PySem.W.fnOf "need_number" "Cursor.need_number" (defArgs s_Cursor_need_number) (defBody s_Cursor_need_number) (defScope s_Cursor_need_number) .none kVCursor5 dcCursor5 pmCursor5 anCursor5 cdCursor5 ctCursor5)
    D_Cursor_need_number := ⟨fun_mk (st := s_Cursor_need_number) lCursor5 cCursor5 kCursor5, (fun_mk (x := "need_number") (qual := "Cursor.need_number") (st := s_Cursor_need_number) lCursor5 cCursor5 kCursor5).binds (ps := ["self", "least", "most"]) fun _ _ _ _ _ _ us hl => match us, hl with | [_, _, _], _ => rfl⟩
    mt_Cursor_need_number := ⟨aCursor5, iCursor5, kCursor5⟩
    a_Cursor_need_end := fCursor6
    d_Cursor_need_end := (PySem.W.fnOf "need_end" "Cursor.need_end" (defArgs s_Cursor_need_end) (defBody s_Cursor_need_end) (defScope s_Cursor_need_end) .none kVCursor6 dcCursor6 pmCursor6 anCursor6 cdCursor6 ctCursor6)
    D_Cursor_need_end := ⟨fun_mk (st := s_Cursor_need_end) lCursor6 cCursor6 kCursor6, (fun_mk (x := "need_end") (qual := "Cursor.need_end") (st := s_Cursor_need_end) lCursor6 cCursor6 kCursor6).binds (ps := ["self"]) fun _ _ _ _ _ _ us hl => match us, hl with | [_], _ => rfl⟩
    mt_Cursor_need_end := ⟨aCursor6, iCursor6, kCursor6⟩
    a_Cursor_is_last := fCursor7
    d_Cursor_is_last := (PySem.W.fnOf "is_last" "Cursor.is_last" (defArgs s_Cursor_is_last) (defBody s_Cursor_is_last) (defScope s_Cursor_is_last) .none kVCursor7 dcCursor7 pmCursor7 anCursor7 cdCursor7 ctCursor7)
    D_Cursor_is_last := ⟨fun_mk (st := s_Cursor_is_last) lCursor7 cCursor7 kCursor7, (fun_mk (x := "is_last") (qual := "Cursor.is_last") (st := s_Cursor_is_last) lCursor7 cCursor7 kCursor7).binds (ps := ["self"]) fun _ _ _ _ _ _ us hl => match us, hl with | [_], _ => rfl⟩
    mt_Cursor_is_last := ⟨aCursor7, iCursor7, kCursor7⟩
    a_Cursor_goes_on := fCursor8
    d_Cursor_goes_on := (PySem.W.fnOf "goes_on" "Cursor.goes_on" (defArgs s_Cursor_goes_on) (defBody s_Cursor_goes_on) (defScope s_Cursor_goes_on) .none kVCursor8 dcCursor8 pmCursor8 anCursor8 cdCursor8 ctCursor8)
    D_Cursor_goes_on := ⟨fun_mk (st := s_Cursor_goes_on) lCursor8 cCursor8 kCursor8, (fun_mk (x := "goes_on") (qual := "Cursor.goes_on") (st := s_Cursor_goes_on) lCursor8 cCursor8 kCursor8).binds (ps := ["self", "may_end", "may_follow"]) fun _ _ _ _ _ _ us hl => match us, hl with | [_, _, _], _ => rfl⟩
    mt_Cursor_goes_on := ⟨aCursor8, iCursor8, kCursor8⟩
    na_Cursor_rows := nCursorrows
    na_Cursor_line := nCursorline
    na_Cursor_at := nCursorat
    cl_Cursor := ⟨pgCursor, hdCursor, poCursor, saCursor⟩
    C_DutyReader := CDutyReader
    g_DutyReader := PySem.W.mg_of X G gDutyReader
    a_DutyReader___init__ := fDutyReader0
    d_DutyReader___init__ := (PySem.W.fnOf "__init__" "DutyReader.__init__" (defArgs s_DutyReader___init__) (defBody s_DutyReader___init__) (defScope s_DutyReader___init__) .none kVDutyReader0 dcDutyReader0 pmDutyReader0 anDutyReader0 cdDutyReader0 ctDutyReader0)
    D_DutyReader___init__ := ⟨fun_mk (st := s_DutyReader___init__) lDutyReader0 cDutyReader0 kDutyReader0, (fun_mk (x := "__init__") (qual := "DutyReader.__init__") (st := s_DutyReader___init__) lDutyReader0 cDutyReader0 kDutyReader0).binds (ps := ["self", "cursor", "is_let"]) fun _ _ _ _ _ _ us hl => match us, hl with | [_, _, _], _ => rfl⟩
    mk_DutyReader := ⟨miDutyReader, aDutyReader0, iDutyReader0, kcDutyReader⟩
    a_DutyReader_kinds := fDutyReader1
    d_DutyReader_kinds := (PySem.W.fnOf "kinds" "DutyReader.kinds" (defArgs s_DutyReader_kinds) (defBody s_DutyReader_kinds) (defScope s_DutyReader_kinds) .none kVDutyReader1 dcDutyReader1 pmDutyReader1 anDutyReader1 cdDutyReader1 ctDutyReader1)
    D_DutyReader_kinds := ⟨fun_mk (st := s_DutyReader_kinds) lDutyReader1 cDutyReader1 kDutyReader1, (fun_mk (x := "kinds") (qual := "DutyReader.kinds") (st := s_DutyReader_kinds) lDutyReader1 cDutyReader1 kDutyReader1).binds (ps := ["self"]) fun _ _ _ _ _ _ us hl => match us, hl with | [_], _ => rfl⟩
    mt_DutyReader_kinds := ⟨aDutyReader1, iDutyReader1, kDutyReader1⟩
    a_DutyReader_names := fDutyReader2
    d_DutyReader_names := (PySem.W.fnOf "names" "DutyReader.names" (defArgs s_DutyReader_names) (defBody s_DutyReader_names) (defScope s_DutyReader_names) .none kVDutyReader2 dcDutyReader2 pmDutyReader2 anDutyReader2 cdDutyReader2 ctDutyReader2)
    D_DutyReader_names := ⟨fun_mk (st := s_DutyReader_names) lDutyReader2 cDutyReader2 kDutyReader2, (fun_mk (x := "names") (qual := "DutyReader.names") (st := s_DutyReader_names) lDutyReader2 cDutyReader2 kDutyReader2).binds (ps := ["self", "kind"]) fun _ _ _ _ _ _ us hl => match us, hl with | [_, _], _ => rfl⟩
    mt_DutyReader_names := ⟨aDutyReader2, iDutyReader2, kDutyReader2⟩
    a_DutyReader_plain := fDutyReader3
    d_DutyReader_plain := (PySem.W.fnOf "plain" "DutyReader.plain" (defArgs s_DutyReader_plain) (defBody s_DutyReader_plain) (defScope s_DutyReader_plain) .none kVDutyReader3 dcDutyReader3 pmDutyReader3 anDutyReader3 cdDutyReader3 ctDutyReader3)
    D_DutyReader_plain := ⟨fun_mk (st := s_DutyReader_plain) lDutyReader3 cDutyReader3 kDutyReader3, (fun_mk (x := "plain") (qual := "DutyReader.plain") (st := s_DutyReader_plain) lDutyReader3 cDutyReader3 kDutyReader3).binds (ps := ["self", "kind"]) fun _ _ _ _ _ _ us hl => match us, hl with | [_, _], _ => rfl⟩
    mt_DutyReader_plain := ⟨aDutyReader3, iDutyReader3, kDutyReader3⟩
    a_DutyReader_begin := fDutyReader4
    d_DutyReader_begin := (PySem.W.fnOf "begin" "DutyReader.begin" (defArgs s_DutyReader_begin) (defBody s_DutyReader_begin) (defScope s_DutyReader_begin) .none kVDutyReader4 dcDutyReader4 pmDutyReader4 anDutyReader4 cdDutyReader4 ctDutyReader4)
    D_DutyReader_begin := ⟨fun_mk (st := s_DutyReader_begin) lDutyReader4 cDutyReader4 kDutyReader4, (fun_mk (x := "begin") (qual := "DutyReader.begin") (st := s_DutyReader_begin) lDutyReader4 cDutyReader4 kDutyReader4).binds (ps := ["self"]) fun _ _ _ _ _ _ us hl => match us, hl with | [_], _ => rfl⟩
    mt_DutyReader_begin := ⟨aDutyReader4, iDutyReader4, kDutyReader4⟩
    a_DutyReader_end := fDutyReader5
    d_DutyReader_end := (PySem.W.fnOf "end" "DutyReader.end" (defArgs s_DutyReader_end) (defBody s_DutyReader_end) (defScope s_DutyReader_end) .none kVDutyReader5 dcDutyReader5 pmDutyReader5 anDutyReader5 cdDutyReader5 ctDutyReader5)
    D_DutyReader_end := ⟨fun_mk (st := s_DutyReader_end) lDutyReader5 cDutyReader5 kDutyReader5, (fun_mk (x := "end") (qual := "DutyReader.end") (st := s_DutyReader_end) lDutyReader5 cDutyReader5 kDutyReader5).binds (ps := ["self", "duty"]) fun _ _ _ _ _ _ us hl => match us, hl with | [_, _], _ => rfl⟩
    mt_DutyReader_end := ⟨aDutyReader5, iDutyReader5, kDutyReader5⟩
    a_DutyReader_duty := fDutyReader6
    d_DutyReader_duty := (PySem.W.fnOf "duty" "DutyReader.duty" (defArgs s_DutyReader_duty) (defBody s_DutyReader_duty) (defScope s_DutyReader_duty) .none kVDutyReader6 dcDutyReader6 pmDutyReader6 anDutyReader6 cdDutyReader6 ctDutyReader6)
    D_DutyReader_duty := ⟨fun_mk (st := s_DutyReader_duty) lDutyReader6 cDutyReader6 kDutyReader6, (fun_mk (x := "duty") (qual := "DutyReader.duty") (st := s_DutyReader_duty) lDutyReader6 cDutyReader6 kDutyReader6).binds (ps := ["self"]) fun _ _ _ _ _ _ us hl => match us, hl with | [_], _ => rfl⟩
    mt_DutyReader_duty := ⟨aDutyReader6, iDutyReader6, kDutyReader6⟩
    na_DutyReader_cursor := nDutyReadercursor
    na_DutyReader_is_let := nDutyReaderis_let
    na_DutyReader_read := nDutyReaderread
    na_DutyReader_due := nDutyReaderdue
    na_DutyReader_frames := nDutyReaderframes
    cl_DutyReader := ⟨pgDutyReader, hdDutyReader, poDutyReader, saDutyReader⟩
    t_FIGURES := tFIGURES
    g_FIGURES := PySem.W.mg_of X G gFIGURES
    t_END := tEND
    g_END := PySem.W.mg_of X G gEND
    t_LETTERS := tLETTERS
    g_LETTERS := PySem.W.mg_of X G gLETTERS
    t_MOST_PLAIN := tMOST_PLAIN
    g_MOST_PLAIN := PySem.W.mg_of X G gMOST_PLAIN
    t_MOST_AROUND := tMOST_AROUND
    g_MOST_AROUND := PySem.W.mg_of X G gMOST_AROUND
    a_LEAST_CALLS := aLEAST_CALLS
    g_LEAST_CALLS := PySem.W.mg_of X G gLEAST_CALLS
    es_LEAST_CALLS := #[⟨PyData.keyHash w.params "call", .str "call" tLEAST_CALLS0, .int 1 uLEAST_CALLS0⟩, ⟨PyData.keyHash w.params "row", .str "row" tLEAST_CALLS1, .int 2 uLEAST_CALLS1⟩, ⟨PyData.keyHash w.params "steps", .str "steps" tLEAST_CALLS2, .int 2 uLEAST_CALLS2⟩, ⟨PyData.keyHash w.params "answer", .str "answer" tLEAST_CALLS3, .int 2 uLEAST_CALLS3⟩, ⟨PyData.keyHash w.params "never", .str "never" tLEAST_CALLS4, .int 1 uLEAST_CALLS4⟩]
    n_LEAST_CALLS := nLEAST_CALLS
    kd_LEAST_CALLS := ⟨lLEAST_CALLS, ⟨⟨_, _, rfl, rfl⟩, ⟨_, _, rfl, rfl⟩, ⟨_, _, rfl, rfl⟩, ⟨_, _, rfl, rfl⟩, ⟨_, _, rfl, rfl⟩, trivial⟩, zLEAST_CALLS⟩
    in_LEAST_CALLS := tab_in (kvs := [("call", 1), ("row", 2), ("steps", 2), ("answer", 2), ("never", 1)]) lLEAST_CALLS ⟨⟨_, _, rfl, rfl⟩, ⟨_, _, rfl, rfl⟩, ⟨_, _, rfl, rfl⟩, ⟨_, _, rfl, rfl⟩, ⟨_, _, rfl, rfl⟩, trivial⟩
    at_LEAST_CALLS := tab_at (kvs := [("call", 1), ("row", 2), ("steps", 2), ("answer", 2), ("never", 1)]) lLEAST_CALLS ⟨⟨_, _, rfl, rfl⟩, ⟨_, _, rfl, rfl⟩, ⟨_, _, rfl, rfl⟩, ⟨_, _, rfl, rfl⟩, ⟨_, _, rfl, rfl⟩, trivial⟩ ⟨⟨_, _, rfl, rfl⟩, ⟨_, _, rfl, rfl⟩, ⟨_, _, rfl, rfl⟩, ⟨_, _, rfl, rfl⟩, ⟨_, _, rfl, rfl⟩, trivial⟩ (by decide +kernel)
    ke_LEAST_CALLS := ⟨⟨_, rfl⟩, ⟨_, rfl⟩, ⟨_, rfl⟩, ⟨_, rfl⟩, ⟨_, rfl⟩, trivial⟩
    a_MOST_CALLS := aMOST_CALLS
    g_MOST_CALLS := PySem.W.mg_of X G gMOST_CALLS
    es_MOST_CALLS := #[⟨PyData.keyHash w.params "call", .str "call" tMOST_CALLS0, .int 1 uMOST_CALLS0⟩, ⟨PyData.keyHash w.params "row", .str "row" tMOST_CALLS1, .int 4 uMOST_CALLS1⟩, ⟨PyData.keyHash w.params "steps", .str "steps" tMOST_CALLS2, .int 4 uMOST_CALLS2⟩, ⟨PyData.keyHash w.params "answer", .str "answer" tMOST_CALLS3, .int 2 uMOST_CALLS3⟩, ⟨PyData.keyHash w.params "never", .str "never" tMOST_CALLS4, .int 4 uMOST_CALLS4⟩]
    n_MOST_CALLS := nMOST_CALLS
    kd_MOST_CALLS := ⟨lMOST_CALLS, ⟨⟨_, _, rfl, rfl⟩, ⟨_, _, rfl, rfl⟩, ⟨_, _, rfl, rfl⟩, ⟨_, _, rfl, rfl⟩, ⟨_, _, rfl, rfl⟩, trivial⟩, zMOST_CALLS⟩
    in_MOST_CALLS := tab_in (kvs := [("call", 1), ("row", 4), ("steps", 4), ("answer", 2), ("never", 4)]) lMOST_CALLS ⟨⟨_, _, rfl, rfl⟩, ⟨_, _, rfl, rfl⟩, ⟨_, _, rfl, rfl⟩, ⟨_, _, rfl, rfl⟩, ⟨_, _, rfl, rfl⟩, trivial⟩
    at_MOST_CALLS := tab_at (kvs := [("call", 1), ("row", 4), ("steps", 4), ("answer", 2), ("never", 4)]) lMOST_CALLS ⟨⟨_, _, rfl, rfl⟩, ⟨_, _, rfl, rfl⟩, ⟨_, _, rfl, rfl⟩, ⟨_, _, rfl, rfl⟩, ⟨_, _, rfl, rfl⟩, trivial⟩ ⟨⟨_, _, rfl, rfl⟩, ⟨_, _, rfl, rfl⟩, ⟨_, _, rfl, rfl⟩, ⟨_, _, rfl, rfl⟩, ⟨_, _, rfl, rfl⟩, trivial⟩ (by decide +kernel)
    ke_MOST_CALLS := ⟨⟨_, rfl⟩, ⟨_, rfl⟩, ⟨_, rfl⟩, ⟨_, rfl⟩, ⟨_, rfl⟩, trivial⟩
    a_JOINTS := aJOINTS
    g_JOINTS := PySem.W.mg_of X G gJOINTS
    sq_JOINTS := fun H => .inr ⟨_, _, _, lJOINTS, rfl, rfl, (by show 2 ≤ sizeLine; decide), (.cons ⟨_, rfl⟩ (.cons ⟨_, rfl⟩ .nil))⟩
    b_all := PySem.W.mg_none_of X G ball
    b_range := PySem.W.mg_none_of X G brange
    b_tuple := PySem.W.mg_none_of X G btuple
    b_isinstance := PySem.W.mg_none_of X G bisinstance
    b_str := PySem.W.mg_none_of X G bstr
    b_int := PySem.W.mg_none_of X G bint
    b_list := PySem.W.mg_none_of X G blist
    b_len := PySem.W.mg_none_of X G blen
    b_sorted := PySem.W.mg_none_of X G bsorted
    b_dict := PySem.W.mg_none_of X G bdict
    b_repr := PySem.W.mg_none_of X G brepr }
  have all : ∀ {R : Addr × Addr → Prop}, R (cclaw, tblaw) → R (ccneed, tbneed) → R (ccnum, tbnum) → R (ccnames, tbnames) → ∀ p ∈ [(cclaw, tblaw), (ccneed, tbneed), (ccnum, tbnum), (ccnames, tbnames)], R p := fun rlaw rneed rnum rnames p hp => by
    simp only [List.mem_cons, List.not_mem_nil, or_false] at hp
    rcases hp with rfl | rfl | rfl | rfl
    · exact rlaw
    · exact rneed
    · exact rnum
    · exact rnames
  refine ⟨[(cclaw, tblaw), (ccneed, tbneed), (ccnum, tbnum), (ccnames, tbnames)], all htlaw htneed htnum htnames, all ntblaw ntbneed ntbnum ntbnames, all (PySem.W.codeHd_of_K X hhlaw) (PySem.W.codeHd_of_K X hhneed) (PySem.W.codeHd_of_K X hhnum) (PySem.W.codeHd_of_K X hhnames), fun a ns base H hl _ _ _ hTB hT hs e0 => ?_⟩
  let LL : Lam4 T base := { c_law := cclaw, t_law := tblaw, k_law := hcdlaw, b_law := hTB (cclaw, tblaw) (by simp), c_need := ccneed, t_need := tbneed, k_need := hcdneed, b_need := hTB (ccneed, tbneed) (by simp), c_num := ccnum, t_num := tbnum, k_num := hcdnum, b_num := hTB (ccnum, tbnum) (by simp), c_names := ccnames, t_names := tbnames, k_names := hcdnames, b_names := hTB (ccnames, tbnames) (by simp), nd := hnd }
  refine law_runs LL (fun p hp => ?_) hs hl e0
  simp only [Lam4.tbs, List.mem_cons, List.not_mem_nil, or_false] at hp
  rcases hp with rfl | rfl | rfl | rfl
  · exact hT (cclaw, tblaw) (by simp)
  · exact hT (ccneed, tbneed) (by simp)
  · exact hT (ccnum, tbnum) (by simp)
  · exact hT (ccnames, tbnames) (by simp)
end Ag
open PySem PySem.W PyProof.Rows in
set_option maxRecDepth 100000 in
set_option maxHeartbeats 0 in
theorem PySem.Challenge.cw_againnotes_k06_whole_first_wrong_words_holds : PySem.Challenge.rw_againnotes_k06_whole_first_wrong_words.Holds := by
  w_on; o_law; k_head; (case hw => w_witness2)
  k_fill
  refine Ag.walk_G2 (l := PySem.Challenge.rw_againnotes_k06_whole_first_wrong_words) (n := 63) rfl (by decide) rfl (fun w h Y => ⟨PySem.W.km_in_of Y, fun P hP => PySem.W.km_tabs_of Y P hP⟩) ?F
  case F =>
    intro w mg mb fa s mean TP KX KT hmg
    refine' Ag.all_mk TP KX hmg ?a0 ?l0 ?c0 ?k0 ?a1 ?l1 ?c1 ?k1 ?a2 ?l2 ?c2 ?k2 ?a3 ?l3 ?c3 ?k3 ?a4 ?l4 ?c4 ?k4 ?a5 ?l5 ?c5 ?k5 ?a6 ?l6 ?c6 ?k6 ?a7 ?l7 ?c7 ?k7 ?a8 ?l8 ?c8 ?k8 ?a9 ?l9 ?c9 ?k9 ?a10 ?l10 ?c10 ?k10 ?a11 ?l11 ?c11 ?k11 ?a12 ?l12 ?c12 ?k12 ?a13 ?l13 ?c13 ?k13 ?a14 ?l14 ?c14 ?k14 ?a15 ?l15 ?c15 ?k15 ?a16 ?l16 ?c16 ?k16 ?a17 ?l17 ?c17 ?k17 ?a18 ?l18 ?c18 ?k18 ?a19 ?l19 ?c19 ?k19 ?a20 ?l20 ?c20 ?k20 ?a21 ?l21 ?c21 ?k21 ?a22 ?l22 ?c22 ?k22 ?gAgainError ?saAgainError ?kcAgainError ?hdAgainError ?gaAgainError ?ggAgainError ?exAgainError ?tyAgainError ?sbAgainError ?xlAgainError ?gBadText ?aBadText0 ?lBadText0 ?cBadText0 ?kBadText0 ?tBadText0 ?nBadTextline ?nBadTextword ?saBadText ?kcBadText ?hdBadText ?gaBadText ?ggBadText ?exBadText ?tyBadText ?sbBadText ?xlBadText ?gBadNumber ?aBadNumber0 ?lBadNumber0 ?cBadNumber0 ?kBadNumber0 ?tBadNumber0 ?nBadNumberwhat ?nBadNumbernumber ?saBadNumber ?kcBadNumber ?hdBadNumber ?gaBadNumber ?ggBadNumber ?exBadNumber ?tyBadNumber ?sbBadNumber ?xlBadNumber ?gBadRow ?aBadRow0 ?lBadRow0 ?cBadRow0 ?kBadRow0 ?tBadRow0 ?nBadRowwhat ?nBadRowrow ?saBadRow ?kcBadRow ?hdBadRow ?gaBadRow ?ggBadRow ?exBadRow ?tyBadRow ?sbBadRow ?xlBadRow ?gNoName ?aNoName0 ?lNoName0 ?cNoName0 ?kNoName0 ?tNoName0 ?nNoNamename ?saNoName ?kcNoName ?hdNoName ?gaNoName ?ggNoName ?exNoName ?tyNoName ?sbNoName ?xlNoName ?gUnlike ?aUnlike0 ?lUnlike0 ?cUnlike0 ?kUnlike0 ?tUnlike0 ?nUnlikewhat ?saUnlike ?kcUnlike ?hdUnlike ?gaUnlike ?ggUnlike ?exUnlike ?tyUnlike ?sbUnlike ?xlUnlike ?gTooMany ?aTooMany0 ?lTooMany0 ?cTooMany0 ?kTooMany0 ?tTooMany0 ?nTooManywhat ?nTooManymany ?nTooManylimit ?saTooMany ?kcTooMany ?hdTooMany ?gaTooMany ?ggTooMany ?exTooMany ?tyTooMany ?sbTooMany ?xlTooMany ?gCursor ?aCursor0 ?lCursor0 ?cCursor0 ?kCursor0 ?iCursor0 ?aCursor1 ?lCursor1 ?cCursor1 ?kCursor1 ?iCursor1 ?aCursor2 ?lCursor2 ?cCursor2 ?kCursor2 ?iCursor2 ?aCursor3 ?lCursor3 ?cCursor3 ?kCursor3 ?iCursor3 ?aCursor4 ?lCursor4 ?cCursor4 ?kCursor4 ?iCursor4 ?aCursor5 ?lCursor5 ?cCursor5 ?kCursor5 ?iCursor5 ?aCursor6 ?lCursor6 ?cCursor6 ?kCursor6 ?iCursor6 ?aCursor7 ?lCursor7 ?cCursor7 ?kCursor7 ?iCursor7 ?aCursor8 ?lCursor8 ?cCursor8 ?kCursor8 ?iCursor8 ?nCursorrows ?nCursorline ?nCursorat ?saCursor ?kcCursor ?hdCursor ?pgCursor ?poCursor ?miCursor ?gDutyReader ?aDutyReader0 ?lDutyReader0 ?cDutyReader0 ?kDutyReader0 ?iDutyReader0 ?aDutyReader1 ?lDutyReader1 ?cDutyReader1 ?kDutyReader1 ?iDutyReader1 ?aDutyReader2 ?lDutyReader2 ?cDutyReader2 ?kDutyReader2 ?iDutyReader2 ?aDutyReader3 ?lDutyReader3 ?cDutyReader3 ?kDutyReader3 ?iDutyReader3 ?aDutyReader4 ?lDutyReader4 ?cDutyReader4 ?kDutyReader4 ?iDutyReader4 ?aDutyReader5 ?lDutyReader5 ?cDutyReader5 ?kDutyReader5 ?iDutyReader5 ?aDutyReader6 ?lDutyReader6 ?cDutyReader6 ?kDutyReader6 ?iDutyReader6 ?nDutyReadercursor ?nDutyReaderis_let ?nDutyReaderread ?nDutyReaderdue ?nDutyReaderframes ?saDutyReader ?kcDutyReader ?hdDutyReader ?pgDutyReader ?poDutyReader ?miDutyReader ?gFIGURES ?gEND ?gLETTERS ?gMOST_PLAIN ?gMOST_AROUND ?gLEAST_CALLS ?lLEAST_CALLS ?zLEAST_CALLS ?gMOST_CALLS ?lMOST_CALLS ?zMOST_CALLS ?gJOINTS ?lJOINTS ?ball ?brange ?btuple ?bisinstance ?bstr ?bint ?blist ?blen ?bsorted ?bdict ?brepr ?hcdlaw ?lcclaw ?hvlaw ?hhlaw ?ntblaw ?htlaw ?hcdneed ?lccneed ?hvneed ?hhneed ?ntbneed ?htneed ?hcdnum ?lccnum ?hvnum ?hhnum ?ntbnum ?htnum ?hcdnames ?lccnames ?hvnames ?hhnames ?ntbnames ?htnames ?hnd
    (case a0 => k_is)
    (case l0 => k_is)
    (case c0 => k_is)
    (case k0 => k_is)
    (case a1 => k_is)
    (case l1 => k_is)
    (case c1 => k_is)
    (case k1 => k_is)
    (case a2 => k_is)
    (case l2 => k_is)
    (case c2 => k_is)
    (case k2 => k_is)
    (case a3 => k_is)
    (case l3 => k_is)
    (case c3 => k_is)
    (case k3 => k_is)
    (case a4 => k_is)
    (case l4 => k_is)
    (case c4 => k_is)
    (case k4 => k_is)
    (case a5 => k_is)
    (case l5 => k_is)
    (case c5 => k_is)
    (case k5 => k_is)
    (case a6 => k_is)
    (case l6 => k_is)
    (case c6 => k_is)
    (case k6 => k_is)
    (case a7 => k_is)
    (case l7 => k_is)
    (case c7 => k_is)
    (case k7 => k_is)
    (case a8 => k_is)
    (case l8 => k_is)
    (case c8 => k_is)
    (case k8 => k_is)
    (case a9 => k_is)
    (case l9 => k_is)
    (case c9 => k_is)
    (case k9 => k_is)
    (case a10 => k_is)
    (case l10 => k_is)
    (case c10 => k_is)
    (case k10 => k_is)
    (case a11 => k_is)
    (case l11 => k_is)
    (case c11 => k_is)
    (case k11 => k_is)
    (case a12 => k_is)
    (case l12 => k_is)
    (case c12 => k_is)
    (case k12 => k_is)
    (case a13 => k_is)
    (case l13 => k_is)
    (case c13 => k_is)
    (case k13 => k_is)
    (case a14 => k_is)
    (case l14 => k_is)
    (case c14 => k_is)
    (case k14 => k_is)
    (case a15 => k_is)
    (case l15 => k_is)
    (case c15 => k_is)
    (case k15 => k_is)
    (case a16 => k_is)
    (case l16 => k_is)
    (case c16 => k_is)
    (case k16 => k_is)
    (case a17 => k_is)
    (case l17 => k_is)
    (case c17 => k_is)
    (case k17 => k_is)
    (case a18 => k_is)
    (case l18 => k_is)
    (case c18 => k_is)
    (case k18 => k_is)
    (case a19 => k_is)
    (case l19 => k_is)
    (case c19 => k_is)
    (case k19 => k_is)
    (case a20 => k_is)
    (case l20 => k_is)
    (case c20 => k_is)
    (case k20 => k_is)
    (case a21 => k_is)
    (case l21 => k_is)
    (case c21 => k_is)
    (case k21 => k_is)
    (case a22 => k_is)
    (case l22 => k_is)
    (case c22 => k_is)
    (case k22 => k_is)
    (case gAgainError => k_is)
    (case saAgainError => k_is)
    (case kcAgainError => k_is)
    (case hdAgainError => k_is)
    (case gaAgainError => k_is)
    (case ggAgainError => k_is)
    (case exAgainError => k_is)
    (case tyAgainError => k_is)
    (case sbAgainError => k_is)
    (case xlAgainError => exact ⟨_, _, _, _, _, _, _, _, _, _, _, _, _, _, _, by k_is, by rfl⟩)
    (case gBadText => k_is)
    (case aBadText0 => k_is)
    (case lBadText0 => k_is)
    (case cBadText0 => k_is)
    (case kBadText0 => k_is)
    (case tBadText0 => k_is)
    (case nBadTextline => k_is)
    (case nBadTextword => k_is)
    (case saBadText => k_is)
    (case kcBadText => k_is)
    (case hdBadText => k_is)
    (case gaBadText => k_is)
    (case ggBadText => k_is)
    (case exBadText => k_is)
    (case tyBadText => k_is)
    (case sbBadText => k_is)
    (case xlBadText => exact ⟨_, _, _, _, _, _, _, _, _, _, _, _, _, _, _, by k_is, by rfl⟩)
    (case gBadNumber => k_is)
    (case aBadNumber0 => k_is)
    (case lBadNumber0 => k_is)
    (case cBadNumber0 => k_is)
    (case kBadNumber0 => k_is)
    (case tBadNumber0 => k_is)
    (case nBadNumberwhat => k_is)
    (case nBadNumbernumber => k_is)
    (case saBadNumber => k_is)
    (case kcBadNumber => k_is)
    (case hdBadNumber => k_is)
    (case gaBadNumber => k_is)
    (case ggBadNumber => k_is)
    (case exBadNumber => k_is)
    (case tyBadNumber => k_is)
    (case sbBadNumber => k_is)
    (case xlBadNumber => exact ⟨_, _, _, _, _, _, _, _, _, _, _, _, _, _, _, by k_is, by rfl⟩)
    (case gBadRow => k_is)
    (case aBadRow0 => k_is)
    (case lBadRow0 => k_is)
    (case cBadRow0 => k_is)
    (case kBadRow0 => k_is)
    (case tBadRow0 => k_is)
    (case nBadRowwhat => k_is)
    (case nBadRowrow => k_is)
    (case saBadRow => k_is)
    (case kcBadRow => k_is)
    (case hdBadRow => k_is)
    (case gaBadRow => k_is)
    (case ggBadRow => k_is)
    (case exBadRow => k_is)
    (case tyBadRow => k_is)
    (case sbBadRow => k_is)
    (case xlBadRow => exact ⟨_, _, _, _, _, _, _, _, _, _, _, _, _, _, _, by k_is, by rfl⟩)
    (case gNoName => k_is)
    (case aNoName0 => k_is)
    (case lNoName0 => k_is)
    (case cNoName0 => k_is)
    (case kNoName0 => k_is)
    (case tNoName0 => k_is)
    (case nNoNamename => k_is)
    (case saNoName => k_is)
    (case kcNoName => k_is)
    (case hdNoName => k_is)
    (case gaNoName => k_is)
    (case ggNoName => k_is)
    (case exNoName => k_is)
    (case tyNoName => k_is)
    (case sbNoName => k_is)
    (case xlNoName => exact ⟨_, _, _, _, _, _, _, _, _, _, _, _, _, _, _, by k_is, by rfl⟩)
    (case gUnlike => k_is)
    (case aUnlike0 => k_is)
    (case lUnlike0 => k_is)
    (case cUnlike0 => k_is)
    (case kUnlike0 => k_is)
    (case tUnlike0 => k_is)
    (case nUnlikewhat => k_is)
    (case saUnlike => k_is)
    (case kcUnlike => k_is)
    (case hdUnlike => k_is)
    (case gaUnlike => k_is)
    (case ggUnlike => k_is)
    (case exUnlike => k_is)
    (case tyUnlike => k_is)
    (case sbUnlike => k_is)
    (case xlUnlike => exact ⟨_, _, _, _, _, _, _, _, _, _, _, _, _, _, _, by k_is, by rfl⟩)
    (case gTooMany => k_is)
    (case aTooMany0 => k_is)
    (case lTooMany0 => k_is)
    (case cTooMany0 => k_is)
    (case kTooMany0 => k_is)
    (case tTooMany0 => k_is)
    (case nTooManywhat => k_is)
    (case nTooManymany => k_is)
    (case nTooManylimit => k_is)
    (case saTooMany => k_is)
    (case kcTooMany => k_is)
    (case hdTooMany => k_is)
    (case gaTooMany => k_is)
    (case ggTooMany => k_is)
    (case exTooMany => k_is)
    (case tyTooMany => k_is)
    (case sbTooMany => k_is)
    (case xlTooMany => exact ⟨_, _, _, _, _, _, _, _, _, _, _, _, _, _, _, by k_is, by rfl⟩)
    (case gCursor => k_is)
    (case aCursor0 => k_is)
    (case lCursor0 => k_is)
    (case cCursor0 => k_is)
    (case kCursor0 => k_is)
    (case iCursor0 => k_is)
    (case aCursor1 => k_is)
    (case lCursor1 => k_is)
    (case cCursor1 => k_is)
    (case kCursor1 => k_is)
    (case iCursor1 => k_is)
    (case aCursor2 => k_is)
    (case lCursor2 => k_is)
    (case cCursor2 => k_is)
    (case kCursor2 => k_is)
    (case iCursor2 => k_is)
    (case aCursor3 => k_is)
    (case lCursor3 => k_is)
    (case cCursor3 => k_is)
    (case kCursor3 => k_is)
    (case iCursor3 => k_is)
    (case aCursor4 => k_is)
    (case lCursor4 => k_is)
    (case cCursor4 => k_is)
    (case kCursor4 => k_is)
    (case iCursor4 => k_is)
    (case aCursor5 => k_is)
    (case lCursor5 => k_is)
    (case cCursor5 => k_is)
    (case kCursor5 => k_is)
    (case iCursor5 => k_is)
    (case aCursor6 => k_is)
    (case lCursor6 => k_is)
    (case cCursor6 => k_is)
    (case kCursor6 => k_is)
    (case iCursor6 => k_is)
    (case aCursor7 => k_is)
    (case lCursor7 => k_is)
    (case cCursor7 => k_is)
    (case kCursor7 => k_is)
    (case iCursor7 => k_is)
    (case aCursor8 => k_is)
    (case lCursor8 => k_is)
    (case cCursor8 => k_is)
    (case kCursor8 => k_is)
    (case iCursor8 => k_is)
    (case nCursorrows => k_is)
    (case nCursorline => k_is)
    (case nCursorat => k_is)
    (case saCursor => k_is)
    (case kcCursor => k_is)
    (case hdCursor => k_is)
    (case pgCursor => k_is)
    (case poCursor => k_is)
    (case miCursor => k_is)
    (case gDutyReader => k_is)
    (case aDutyReader0 => k_is)
    (case lDutyReader0 => k_is)
    (case cDutyReader0 => k_is)
    (case kDutyReader0 => k_is)
    (case iDutyReader0 => k_is)
    (case aDutyReader1 => k_is)
    (case lDutyReader1 => k_is)
    (case cDutyReader1 => k_is)
    (case kDutyReader1 => k_is)
    (case iDutyReader1 => k_is)
    (case aDutyReader2 => k_is)
    (case lDutyReader2 => k_is)
    (case cDutyReader2 => k_is)
    (case kDutyReader2 => k_is)
    (case iDutyReader2 => k_is)
    (case aDutyReader3 => k_is)
    (case lDutyReader3 => k_is)
    (case cDutyReader3 => k_is)
    (case kDutyReader3 => k_is)
    (case iDutyReader3 => k_is)
    (case aDutyReader4 => k_is)
    (case lDutyReader4 => k_is)
    (case cDutyReader4 => k_is)
    (case kDutyReader4 => k_is)
    (case iDutyReader4 => k_is)
    (case aDutyReader5 => k_is)
    (case lDutyReader5 => k_is)
    (case cDutyReader5 => k_is)
    (case kDutyReader5 => k_is)
    (case iDutyReader5 => k_is)
    (case aDutyReader6 => k_is)
    (case lDutyReader6 => k_is)
    (case cDutyReader6 => k_is)
    (case kDutyReader6 => k_is)
    (case iDutyReader6 => k_is)
    (case nDutyReadercursor => k_is)
    (case nDutyReaderis_let => k_is)
    (case nDutyReaderread => k_is)
    (case nDutyReaderdue => k_is)
    (case nDutyReaderframes => k_is)
    (case saDutyReader => k_is)
    (case kcDutyReader => k_is)
    (case hdDutyReader => k_is)
    (case pgDutyReader => k_is)
    (case poDutyReader => k_is)
    (case miDutyReader => k_is)
    (case gFIGURES => k_is)
    (case gEND => k_is)
    (case gLETTERS => k_is)
    (case gMOST_PLAIN => k_is)
    (case gMOST_AROUND => k_is)
    (case gLEAST_CALLS => k_is)
    (case lLEAST_CALLS => k_is)
    (case zLEAST_CALLS => (first | rfl | decide | kernel_rfl))
    (case gMOST_CALLS => k_is)
    (case lMOST_CALLS => k_is)
    (case zMOST_CALLS => (first | rfl | decide | kernel_rfl))
    (case gJOINTS => k_is)
    (case lJOINTS => k_is)
    (case ball => k_is)
    (case brange => k_is)
    (case btuple => k_is)
    (case bisinstance => k_is)
    (case bstr => k_is)
    (case bint => k_is)
    (case blist => k_is)
    (case blen => k_is)
    (case bsorted => k_is)
    (case bdict => k_is)
    (case brepr => k_is)
    (case hcdlaw => rfl)
    (case lcclaw => k_is)
    (case hvlaw => rfl)
    (case hhlaw => kernel_rfl)
    (case ntblaw => first | kernel_rfl | rfl | decide)
    (case htlaw => exact KT _ (by first | k_mem | simp | decide))
    (case hcdneed => rfl)
    (case lccneed => k_is)
    (case hvneed => rfl)
    (case hhneed => kernel_rfl)
    (case ntbneed => first | kernel_rfl | rfl | decide)
    (case htneed => exact KT _ (by first | k_mem | simp | decide))
    (case hcdnum => rfl)
    (case lccnum => k_is)
    (case hvnum => rfl)
    (case hhnum => kernel_rfl)
    (case ntbnum => first | kernel_rfl | rfl | decide)
    (case htnum => exact KT _ (by first | k_mem | simp | decide))
    (case hcdnames => rfl)
    (case lccnames => k_is)
    (case hvnames => rfl)
    (case hhnames => kernel_rfl)
    (case ntbnames => first | kernel_rfl | rfl | decide)
    (case htnames => exact KT _ (by first | k_mem | simp | decide))
    (case hnd => first | decide | simp)
#print axioms PySem.Challenge.cw_againnotes_k06_whole_first_wrong_words_holds
