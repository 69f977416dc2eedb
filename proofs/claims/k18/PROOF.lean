import PyProof.Rows.All
import Wide.All
import OpenK.AllK
import Wide.FinOn
import HandS.ForMost
import HandS.Set
import HandS.SetKeys
import HandS.TupSets
import PyProof.Rows.SortShellAny
import HandS.Strs
import HandS.IsInst
import HandS.TupAny
import HandS.TupMul
import HandS.TupLe
import HandS.Style
import HandS.Deep
import HandS.NoneIn
import HandS.Codes
import HandS.Lambda
import HandS.EndTab
import PyProof.ReprRoads
import HandS.TryMany
import HandS.ExcField
import HandS.Zip
import PyProof.IsRules
import PyProof.AutoSeq1
import PyProof.NeData
import PyProof.StrBlock2
import PyProof.Rows.StrMul
import KE.SortCalls
import HandS.Text
import PyProof.StrLawsRepr
import PyProof.CallFns
import KE.DataCmp
import HandS.OwnEq
import KE.KOpsOwn
import HandS.ExcInit
import HandS.WordsExc
import HandS.Defaults
import KE.GoesMore
import KE.KeyNested
import HandS.DictComp
import HandS.Iter
import KE.GoesEnum
import HandS.Walk
import KE.KDictPairs
import HandS.Conv
import HandS.ExcIs
import HandS.ExcValue
import KE.KExcIs
import PyProof.TupleOfSeq
import HandS.More
import PyProof.InstNe
import KE.KNest
import KE.KNestM
import HandS.HeadWalk
import PySem.Challenge.RW_againnotes_k18_whole_servers_in_any_orde
set_option Elab.async false
set_option linter.all false
set_option maxRecDepth 100000
set_option maxHeartbeats 4000000
/-! Sets of scannable keys of one kind, with what a walk over them asks for; set(list of texts), sorted of such a set. -/
namespace Ag
open PySem PySem.Spec PyProof.Rows L2

section gen
variable {P : Program} {w : World} {κ : Type} [DecidableEq κ] {kd : KeyKind P w κ}
/-- two entries have no key in common -/
def Apart (kd : KeyKind P w κ) (e f : Int × Value) : Prop := ∀ k, kd.is k e.2 = true → kd.is k f.2 = false
theorem Apart.symm {e f : Int × Value} (h : Apart kd e f) : Apart kd f e := fun k hf => by
  cases q : kd.is k e.2 with
  | false => rfl
  | true => have := h k q; rw [hf] at this; cases this

structure SetG (kd : KeyKind P w κ) (h : Heap) (a : Addr) (S : κ → Bool) (n : Nat) (o : Obj) (es : Array (Int × Value)) (ep : Nat) (t : SetTable) : Prop where
  at_ : h.get? a = some o
  ex : o.ExactSet
  dat : o.data = .set es ep t
  els : ElemsOf kd es.toList
  mem : ∀ k, S k = true ↔ ∃ e ∈ es.toList, kd.is k e.2 = true
  room : es.size < scanBound
  fit : t.fits es.size = true
  num : es.size = n
  ris : Ris t.place.toList
  led : w.params.followText "set-order" = true ∨ t.led = true
  nd : es.toList.Pairwise (Apart kd)

def SetAtG (kd : KeyKind P w κ) (h : Heap) (a : Addr) (S : κ → Bool) (n : Nat) : Prop := ∃ o es ep t, SetG kd h a S n o es ep t
theorem SetAtG.keep {h h' : Heap} {a : Addr} {S : κ → Bool} {n : Nat} (R : SetAtG kd h a S n) (k : ∀ o, h.get? a = some o → h'.get? a = some o) : SetAtG kd h' a S n := by
  obtain ⟨o, es, ep, t, r⟩ := R
  exact ⟨o, es, ep, t, ⟨k o r.at_, r.ex, r.dat, r.els, r.mem, r.room, r.fit, r.num, r.ris, r.led, r.nd⟩⟩
theorem SetAtG.fresh {h : Heap} {a : Addr} (ho : h.get? a = some { cls := .type "set", dict := none, data := .set #[] 0 (.fresh 0 0 (!w.params.followText "set-order")) }) : SetAtG kd h a (fun _ => false) 0 :=
  ⟨_, #[], 0, _, ⟨ho, ⟨rfl, rfl, rfl⟩, rfl, fun e he => (by simp at he), fun k => (by simp), (by decide), (by rfl), rfl, List.Pairwise.nil, by
    show _ ∨ (!w.params.followText "set-order") = true
    cases w.params.followText "set-order" <;> simp, List.Pairwise.nil⟩⟩

variable {A : Around} {E : Value → Shared → Prop} {s : Shared} {a : Addr} {S : κ → Bool} {n : Nat}

theorem addG_tail {g : Bool → Sem Unit} (hg : ∀ (b : Bool) (s₁ : Shared) (Q' : Unit → Shared → Prop), Q' () s₁ → wpAny (model P w) A (g b) Q' E s₁)
    {o : Obj} {es es1 : Array (Int × Value)} {ep : Nat} {t t2 : SetTable} {S' : κ → Bool} (ho : s.heap.get? a = some o) (hex : o.ExactSet) (hd : o.data = .set es ep t)
    (el1 : ElemsOf kd es1.toList) (m1 : ∀ k, S' k = true ↔ ∃ e ∈ es1.toList, kd.is k e.2 = true) (nd1 : es1.toList.Pairwise (Apart kd))
    (b1 : es1.size < scanBound) (f2 : t2.fits es1.size = true) (r2 : Ris t2.place.toList) (l2 : w.params.followText "set-order" = true ∨ t2.led = true) {wasD : Bool} {R : Option Bool → Shared → Prop}
    (hR : ∀ h', Heap.SameBut a s.heap h' → SetAtG kd h' a S' es1.size → R (some true) { s with heap := h' }) :
    wpAny (model P w) A (do
        storeSet a es1 t2
        if (!wasD && t2.tooFull) = true then do
            g (relayAll t2 es1 (SetTable.grown es1.size)).2.2
            storeSet a (relayAll t2 es1 (SetTable.grown es1.size)).1 (relayAll t2 es1 (SetTable.grown es1.size)).2.1
            pure (some true)
          else pure (some true)) R E s := by
  refine wpAny_bind (wpAny_storeSet_of ho hd ?_ (fits_of_scanBound b1))
  have q1 := store_at (es' := es1) (t' := t2) ho hd
  have k1 := Heap.SameBut.update s.heap a (Obj.putSet es1 t2)
  by_cases hc : (!wasD && t2.tooFull) = true
  · rw [if_pos hc]
    have pm := relayAll_perm t2 es1 (SetTable.grown es1.size)
    have f3 := relayAll_fits t2 es1 (SetTable.grown es1.size)
    have r3 := relayAll_ris t2 es1 (SetTable.grown es1.size)
    have l3 := relayAll_led t2 es1 (SetTable.grown es1.size)
    generalize relayAll t2 es1 (SetTable.grown es1.size) = Z at pm f3 r3 l3 ⊢
    obtain ⟨es2, t3, gv⟩ := Z
    dsimp only at pm f3 r3 l3 ⊢
    have z2 : es2.size = es1.size := by rw [← Array.length_toList, pm.length_eq, Array.length_toList]
    have b2 : es2.size < scanBound := z2 ▸ b1
    refine wpAny_bind (hg _ _ _ ?_)
    refine wpAny_bind (wpAny_storeSet_of q1 rfl ?_ (fits_of_scanBound b2))
    have q2 := store_at (es' := es2) (t' := t3) q1 rfl
    have m2 : ∀ k, S' k = true ↔ ∃ e ∈ es2.toList, kd.is k e.2 = true := fun k => (m1 k).trans ⟨fun ⟨e, he, q⟩ => ⟨e, pm.mem_iff.mpr he, q⟩, fun ⟨e, he, q⟩ => ⟨e, pm.mem_iff.mp he, q⟩⟩
    exact wpAny_pure (hR _ (k1.trans (Heap.SameBut.update _ a _)) ⟨_, es2, _, t3, ⟨q2, hex, rfl, el1.perm pm, m2, b2, f3, z2, r3, l2.imp id fun z => l3 ▸ z, (pm.pairwise_iff (fun h => Apart.symm h)).mpr nd1⟩⟩)
  · rw [if_neg hc]
    exact wpAny_pure (hR _ k1 ⟨_, es1, _, t2, ⟨q1, hex, rfl, el1, m1, b1, f2, rfl, r2, l2, nd1⟩⟩)

theorem addG {k : κ} {x : Value} {Q : Bool → Shared → Prop} (hk : kd.is k x = true) (hx : x.scannable = true) (R : SetAtG kd s.heap a S n) (hroom : n + 1 < scanBound)
    (hQ : ∀ h', Heap.SameBut a s.heap h' → SetAtG kd h' a (fun j => S j || decide (j = k)) (if S k = true then n else n + 1) → Q (!S k) { s with heap := h' }) :
    wpAny (model P w) A (setAddHashed a x (kd.hash k)) Q E s := by
  obtain ⟨o, es, ep, t, R⟩ := R
  have bz : es.size + 1 < scanBound := by rw [R.num]; exact hroom
  unfold setAddHashed setAddHashedIn
  refine wpAny_holding (wpAny_bind (wpAny_setState_of R.at_ R.dat R.fit ?_))
  dsimp only
  rw [byScan_of hx R.room R.els]
  simp only [↓reduceIte]
  unfold setAddByScan
  refine wpAny_bind (wpAny_bind (wpAny_rule (wpAny_bind (wpAny_setScan_of hk R.at_ R.dat R.fit R.els ?_))))
  cases hfi : List.findIdx? (fun e => kd.is k e.2) es.toList with
  | some j =>
    obtain ⟨hj, pj, _⟩ := List.findIdx?_eq_some_iff_getElem.mp hfi
    have hS : S k = true := (R.mem k).mpr ⟨_, List.getElem_mem hj, pj⟩
    refine wpAny_pure (wpAny_pure ?_)
    have q := hQ s.heap (Heap.SameBut.refl a s.heap) ⟨o, es, ep, t, ⟨R.at_, R.ex, R.dat, R.els, fun i => (by
      rw [Bool.or_eq_true, decide_eq_true_eq, ← R.mem i]
      exact ⟨fun z => z.elim id (fun e => e ▸ hS), .inl⟩), R.room, R.fit, (by rw [if_pos hS]; exact R.num), R.ris, R.led, R.nd⟩⟩
    rw [hS] at q
    exact q
  | none =>
    have hno : ∀ e ∈ es.toList, kd.is k e.2 = false := fun e he => by
      have c := List.findIdx?_eq_none_iff.mp hfi e he
      cases q : kd.is k e.2 with
      | false => rfl
      | true => rw [q] at c; cases c
    have hS : S k = false := by
      cases q : S k with
      | false => rfl
      | true =>
        obtain ⟨e, he, z⟩ := (R.mem k).mp q
        rw [hno e he] at z; cases z
    have pm := layNew_perm t es (kd.hash k) x
    have f1 := layNew_fits t es (kd.hash k) x
    have r1 := layNew_ris t es (kd.hash k) x R.ris
    have l1 := layNew_led t es (kd.hash k) x
    dsimp only
    generalize layNew t es (kd.hash k) x = Z at pm f1 r1 l1 ⊢
    obtain ⟨es1, t1, wasD, gv⟩ := Z
    dsimp only at pm f1 r1 l1 ⊢
    rw [Array.toList_push] at pm
    have el1 : ElemsOf kd es1.toList := (R.els.push hk hx).perm pm
    have m1 : ∀ i, (S i || decide (i = k)) = true ↔ ∃ e ∈ es1.toList, kd.is i e.2 = true := mem_push_iff hk R.mem pm
    have nd1 : es1.toList.Pairwise (Apart kd) := by
      refine (pm.pairwise_iff (fun h => Apart.symm h)).mpr (List.pairwise_append.mpr ⟨R.nd, List.pairwise_singleton _ _, fun e he f hf => ?_⟩)
      rw [List.mem_singleton.mp hf]
      refine Apart.symm fun j hj => ?_
      have : j = k := kd.inj x j k hj hk
      rw [this]; exact hno e he
    have z1 : es1.size = n + 1 := by rw [← Array.length_toList, pm.length_eq, List.length_append, Array.length_toList, R.num]; rfl
    have b1 : es1.size < scanBound := by rw [z1]; exact hroom
    have ld : w.params.followText "set-order" = true ∨ t1.led = true := R.led.imp id fun z => by rw [l1]; exact z
    have fin : ∀ h', Heap.SameBut a s.heap h' → SetAtG kd h' a (fun j => S j || decide (j = k)) es1.size → Q true { s with heap := h' } := fun h' sb r => by
      have q := hQ h' sb
      rw [hS] at q
      rw [z1] at r
      exact q r
    have gw : ∀ (b : Bool) {s₁ : Shared} {Q' : Unit → Shared → Prop}, Q' () s₁ → wpAny (model P w) A (match b with | true => rule "set.scan.the-table-gave-way" | false => pure ()) Q' E s₁ :=
      fun b s₁ Q' q => by cases b <;> first | exact wpAny_pure q | exact wpAny_rule q
    refine wpAny_bind (gw _ ?_)
    split
    · refine wpAny_bind ?_
      rw [hashByValue_scannable 8 hx]
      refine wpAny_pure (addG_tail (fun b s₁ Q' q => by cases b <;> first | exact wpAny_pure q | exact wpAny_rule q) R.at_ R.ex R.dat el1 m1 nd1 b1 ?_ ?_ ?_ ?_)
      · split <;> first | exact f1 | exact SetTable.fits_plain_off f1
      · split <;> exact r1
      · split <;> exact ld
      · intro h' sb r; dsimp only; exact wpAny_pure (fin h' sb r)
    · refine wpAny_bind (wpAny_pure ?_)
      simp only [↓reduceIte]
      refine addG_tail (fun b s₁ Q' q => by cases b <;> first | exact wpAny_pure q | exact wpAny_rule q) R.at_ R.ex R.dat el1 m1 nd1 b1 f1 r1 ld ?_
      intro h' sb r; dsimp only; exact wpAny_pure (fin h' sb r)
end gen
end Ag

set_option Elab.async false
set_option linter.all false
set_option maxRecDepth 100000
set_option maxHeartbeats 4000000
namespace Ag
open PySem PySem.Spec PyProof.Rows L2
section
variable {P : Program} {w : World} {A : Around} {E : Value → Shared → Prop}

/-- set.update's loop over texts -/
theorem upd_loop {I : Addr} {fp wr : List Addr} {G : Array GenState → Array GenState → Prop} {n : Nat} {Pv : Nat → Value → Prop} {St : Nat → Shared → Prop} {R : Result → Shared → Prop}
    (W : WalksS P w A.in1 I fp wr G n Pv St) (C : Addr) (hC : C ∉ fp) (xs : List Str) (hn : n = xs.length) (hb : xs.length + 1 < scanBound) (hv : ∀ i v, Pv i v → ∃ x t, xs[i]? = some x ∧ v = .str x t) :
    ∀ (j i : Nat) (s : Shared), n - i = j → i ≤ n → St i s → (∃ S m, SetAtG (PySem.strKind P w) s.heap C S m ∧ m ≤ i ∧ ∀ k, S k = true ↔ k ∈ xs.take i) →
      (∀ s' S m, Moved (C :: wr) G s s' → SetAtG (PySem.strKind P w) s'.heap C S m → m ≤ n → (∀ k, S k = true ↔ k ∈ xs) → R (.ok (.ret .none)) s') →
      codeAny (model P w) A (.builtin "set.update.loop" ⟨[.ref C, .ref I], []⟩) R s := by
  have hCw : C ∉ wr := fun z => hC (W.sub _ z)
  have wide : ∀ b ∈ wr, b ∈ C :: wr := fun b z => List.mem_cons_of_mem _ z
  intro j
  induction j with
  | zero =>
    intro i s hj hi st ⟨S, m, hS, hm, hk⟩ hR
    obtain rfl : i = n := by omega
    refine codeAny_builtin F.entry_set_update_loop ?_
    rw [Around.under_plainId F.plain_set_update_loop _]
    show wpAny _ A.in1 (pyNext (.ref I) >>= _) _ _ s
    refine wpAny_bind (W.done s _ _ st fun s' mv => ?_)
    show wpAny _ A.in1 (ret Value.none) _ _ s'
    refine wpAny_pure (hR s' S m (mv.mono wide) (hS.keep fun o e => mv.heap C o hCw e) hm fun k => ?_)
    rw [hk k, hn, List.take_length]
  | succ j ih =>
    intro i s hj hi st ⟨S, m, hS, hm, hk⟩ hR
    have lt : i < n := by omega
    refine codeAny_builtin F.entry_set_update_loop ?_
    rw [Around.under_plainId F.plain_set_update_loop _]
    show wpAny _ A.in1 (pyNext (.ref I) >>= _) _ _ s
    refine wpAny_bind (W.item i s _ _ lt st fun v s' pv st' mv => ?_)
    obtain ⟨x, tk, hx, rfl⟩ := hv i v pv
    have hS' := hS.keep (h' := s'.heap) fun o e => mv.heap C o hCw e
    show wpAny _ A.in1 (holding [Value.str x tk] (setAdd C (.str x tk)) >>= _) _ _ s'
    refine wpAny_bind (wpAny_holding ?_)
    unfold setAdd
    refine wpAny_holding (wpAny_bind ((PySem.strKind P w).pyHash (k := x) (strKind_is _ _ _ _) ?_))
    refine addG (kd := PySem.strKind P w) (s := { s' with toks := s'.toks + 1 }) (strKind_is _ _ _ _) rfl hS' (by omega) fun h' sb hS2 => ?_
    have tk1 : xs.take (i + 1) = xs.take i ++ [x] := by rw [List.take_succ, hx]; rfl
    refine wpAny_pure ⟨plainId_quiet F.plain_set_update_loop _, ih (i + 1) _ (by omega) lt (W.frame _ s' _ _ st' (Nat.le_succ _) fun b z o e => ?_) ⟨_, _, hS2, ?_, fun k => ?_⟩ fun s2 S2 m2 mv2 h2 l2 k2 => hR s2 S2 m2 ?_ h2 l2 k2⟩
    · rw [sb.2 b (fun q => hC (q ▸ z))]; exact e
    · split <;> omega
    · rw [tk1, Bool.or_eq_true, hk k, List.mem_append, List.mem_singleton, decide_eq_true_eq]
    · refine Moved.trans W.gtrans ((mv.mono wide).then_heap (Nat.le_succ _) fun b o z e => ?_) mv2
      rw [sb.2 b (fun q => z (q ▸ List.mem_cons_self))]; exact e

set_option maxHeartbeats 4000000 in
theorem set_of_strs {s : Shared} {l : Addr} {items : Array Value} {xs : List Str} {Q : Value → Shared → Prop} (hh : A.handled = none) (hl : s.heap.IsList l items) (hi : StrsAre items.toList xs) (hb : xs.length + 1 < scanBound)
    (hQ : ∀ (h' : Heap) (tk : Nat) S m, SetAtG (PySem.strKind P w) h' s.heap.objs.size S m → m ≤ xs.length → (∀ k, S k = true ↔ k ∈ xs) → (∀ b o, s.heap.get? b = some o → h'.get? b = some o) → Q (.ref s.heap.objs.size) { s with heap := h', toks := tk }) :
    wpAny (model P w) A (call (.type "set") [.ref l]) Q E s := by
  have isz : items.size = xs.length := by rw [← StrsAre.len_eq hi, Array.length_toList]
  obtain ⟨c, tl, hmro⟩ := F.called_set.mro
  have hmade := F.called_set.made
  have hsub := F.called_set.sub
  refine wpAny_call (codeAny_of_tree ?_)
  show wpAny _ _ (callAny (.type "set") _) _ _ _
  refine wpAny_pure ⟨Code.quiet_builtin _ (by decide +kernel), codeAny_builtin F.entry_type_call ?_⟩
  rw [Around.under_plain (weight_type_call_type "set" [.ref l] []) rfl]
  have h1 := F.called_set.notType
  have h2 := F.called_set.canCreate
  have hct := F.typeCall_set_1 (.ref l)
  repeat (any_goals (first | assumption | wp_step))
  refine codeAny_mono (code_set_led1 (.ref l) (E := E) (Q₁ := fun obj s₁ => obj = .ref s.heap.objs.size ∧ s₁ = { s with heap := s.heap.push ({ cls := .type "set", dict := none, data := .set #[] 0 (.fresh 0 0 (!w.params.followText "set-order")) } : Obj) }) ⟨rfl, rfl⟩) fun r s₁ hr => ?_
  cases r with
  | error e => exact hr
  | ok fl =>
    cases fl with
    | ret obj =>
      obtain ⟨rfl, rfl⟩ := hr
      have hS : (s.heap.push ({ cls := .type "set", dict := none, data := .set #[] 0 (.fresh 0 0 (!w.params.followText "set-order")) } : Obj)).get? s.heap.objs.size = some ({ cls := .type "set", dict := none, data := .set #[] 0 (.fresh 0 0 (!w.params.followText "set-order")) } : Obj) := Heap.get?_push_size _ rfl
      have hT : Shared.TypeIs { s with heap := s.heap.push ({ cls := .type "set", dict := none, data := .set #[] 0 (.fresh 0 0 (!w.params.followText "set-order")) } : Obj) } (.ref s.heap.objs.size) "set" := ⟨_, hS, rfl⟩
      have hli := F.called_set.init.lookup
      have hbi := F.called_set.init.bind (.ref s.heap.objs.size)
      repeat (any_goals (first | assumption | wp_step))
      refine codeAny_mono (codeAny_call_builtin (R := wants (fun r s₂ => r = .none ∧ ∃ h' tk S m, s₂ = { s with heap := h', toks := tk } ∧ SetAtG (PySem.strKind P w) h' s.heap.objs.size S m ∧ m ≤ xs.length ∧ (∀ k, S k = true ↔ k ∈ xs) ∧
          (∀ b o, s.heap.get? b = some o → h'.get? b = some o)) E) F.called_set.init.plain F.entry_set_init (check_set_init_1 hT ?_)) fun r₂ s₂ hr₂ => ?_
      · obtain ⟨ol, hol, hcl, nl, hdl⟩ := hl
        obtain ⟨ocls, odict, odata, oslots⟩ := ol
        simp only at hcl hdl
        subst hcl; subst hdl
        have hol1 : (s.heap.push ({ cls := .type "set", dict := none, data := .set #[] 0 (.fresh 0 0 (!w.params.followText "set-order")) } : Obj)).get? l = some { cls := .type "list", dict := odict, data := .seq items nl, slots := oslots } := Heap.get?_push_of_some _ hol
        have hsls := F.sub_list_set
        have hslf := F.sub_list_frozenset
        have hne : (Value.type "list" == Value.type "dict") = false := by decide
        have hl1 : (s.heap.push ({ cls := .type "set", dict := none, data := .set #[] 0 (.fresh 0 0 (!w.params.followText "set-order")) } : Obj)).IsList l items := ⟨_, hol1, rfl, nl, rfl⟩
        unfold Builtin.«set.__init__» noKeywords Builtin.Frozenset.updateFrom
        generalize hPI : pyIter = PI
        wp_walk
        subst hPI
        refine wpAny_pyIter_list hl1 ?_
        refine wpAny_bind (wpAny_runValue ?_)
        have llt : l < s.heap.objs.size := Heap.lt_size hol
        have hh3 : A.in1.in1.in1.handled = none := by simp [hh]
        have z1 : (s.heap.push ({ cls := .type "set", dict := none, data := .set #[] 0 (.fresh 0 0 (!w.params.followText "set-order")) } : Obj)).objs.size = s.heap.objs.size + 1 := Heap.size_push ..
        have ne1 : l ≠ (s.heap.push ({ cls := .type "set", dict := none, data := .set #[] 0 (.fresh 0 0 (!w.params.followText "set-order")) } : Obj)).objs.size := by rw [z1]; exact Nat.ne_of_lt (Nat.lt_succ_of_lt llt)
        have hnf : s.heap.objs.size ∉ [(s.heap.push ({ cls := .type "set", dict := none, data := .set #[] 0 (.fresh 0 0 (!w.params.followText "set-order")) } : Obj)).objs.size, l] := by
          rw [z1]; intro z
          rcases List.mem_cons.mp z with z | z
          · exact Nat.ne_of_lt (Nat.lt_succ_self _) z
          · exact Nat.ne_of_gt llt (List.mem_singleton.mp z)
        have hval : ∀ (i : Nat) (v : Value), items[i]? = some v → ∃ x t, xs[i]? = some x ∧ v = .str x t := fun i v q => by
          have q2 : items.toList[i]? = some v := by rw [Array.getElem?_toList]; exact q
          obtain ⟨t, e⟩ := SS.strs_at hi i v q2
          have il : i < xs.length := by rw [← isz, ← Array.length_toList]; exact (List.getElem?_eq_some_iff.mp q2).1
          refine ⟨_, t, ?_, e⟩
          rw [List.getD_eq_getElem?_getD, List.getElem?_eq_getElem il]; rfl
        refine upd_loop ((Walks.list hh3 _ l ne1 items).toS) s.heap.objs.size hnf xs isz hb hval (items.size - 0) 0 _ (by omega) (Nat.zero_le _)
          ⟨⟨_, Heap.get?_push_size _ rfl, rfl, rfl⟩, (hl1.push _)⟩ ⟨_, 0, SetAtG.fresh (kd := PySem.strKind P w) (Heap.get?_push_of_some _ hS), Nat.le_refl _, fun k => (by simp)⟩ fun s' S m mv hS' hm hk => ?_
        obtain ⟨h', g2, d', tk', os'⟩ := s'
        have eg : g2 = s.gens := mv.gens
        have ed : d' = s.drawn := mv.drawn
        have eo : os' = s.os := mv.os
        subst eg; subst ed; subst eo
        show wpAny _ _ _ _ _ _
        refine wpAny_pure ?_
        show wpAny _ _ (ret Value.none) _ _ _
        refine wpAny_pure ⟨rfl, h', tk', S, m, rfl, hS', by rw [← isz]; exact hm, hk, fun b o e => mv.heap b o (fun z => ?_) (Heap.get?_push_of_some _ (Heap.get?_push_of_some _ e))⟩
        have lb := Heap.lt_size e
        rcases List.mem_cons.mp z with z | z
        · exact Nat.ne_of_lt lb z
        · exact Nat.ne_of_lt (Nat.lt_succ_of_lt lb) ((List.mem_singleton.mp z).trans z1)
      · cases r₂ with
        | error e => exact hr₂
        | ok fl₂ =>
          cases fl₂ with
          | ret r =>
            obtain ⟨rfl, h', tk, S, m, rfl, hS', hm, hk, kp⟩ := hr₂
            repeat (any_goals (first | assumption | wp_step))
            exact hQ _ _ _ _ hS' hm hk kp
          | _ => exact hr₂.elim
    | _ => exact hr.elim
end
end Ag

set_option Elab.async false
set_option linter.all false
set_option maxRecDepth 100000
set_option maxHeartbeats 4000000
namespace Ag
open PySem PySem.Spec PyProof.Rows L2
section
variable {P : Program} {w : World} {A : Around} {E : Value → Shared → Prop} {s : Shared}

theorem strs_pick : ∀ (l : List (Int × Value)), ElemsOf (PySem.strKind P w) l → ∃ xs : List Str, StrsAre (l.map (·.2)) xs ∧ ∀ k, k ∈ xs ↔ ∃ e ∈ l, (PySem.strKind P w).is k e.2 = true
  | [], _ => ⟨[], .nil, fun k => by simp⟩
  | e :: l, h => by
    obtain ⟨xs, r, m⟩ := strs_pick l h.tail
    obtain ⟨⟨k, hk, _⟩, _⟩ := h.head
    obtain ⟨t, q⟩ := Value.isStrOf_shape (x := k) (v := e.2) hk
    refine ⟨k :: xs, ?_, fun j => ?_⟩
    · show StrsAre (e.2 :: l.map (·.2)) _
      rw [q]; exact .cons k t r
    · rw [List.mem_cons, m j]
      constructor
      · rintro (rfl | ⟨f, hf, z⟩)
        · exact ⟨e, List.mem_cons_self, hk⟩
        · exact ⟨f, List.mem_cons_of_mem _ hf, z⟩
      · rintro ⟨f, hf, z⟩
        rcases List.mem_cons.mp hf with rfl | hf
        · exact .inl ((PySem.strKind P w).inj _ _ _ z hk)
        · exact .inr ⟨f, hf, z⟩

theorem strs_of_perm : ∀ {us vs : List Value} {xs : List Str}, us.Perm vs → StrsAre vs xs → ∃ ys : List Str, StrsAre us ys ∧ ys.Perm xs := by
  intro us vs xs p
  induction p generalizing xs with
  | nil => intro h; cases h; exact ⟨[], .nil, .nil⟩
  | cons v _ ih =>
    intro h
    cases h with
    | cons x t r =>
      obtain ⟨ys, a, b⟩ := ih r
      exact ⟨x :: ys, .cons x t a, b.cons x⟩
  | swap v u l =>
    intro h
    cases h with
    | cons x t r =>
      cases r with
      | cons y t' r' => exact ⟨y :: x :: _, .cons y t' (.cons x t r'), .swap x y _⟩
  | trans _ _ ih1 ih2 =>
    intro h
    obtain ⟨ys, a, b⟩ := ih2 h
    obtain ⟨zs, c, d⟩ := ih1 a
    exact ⟨zs, c, d.trans b⟩

theorem strsAre_inj : ∀ {us : List Value} {xs ys : List Str}, StrsAre us xs → StrsAre us ys → xs = ys
  | _, _, _, .nil, h => by cases h; rfl
  | _, _, _, .cons x t r, h => by
    cases h with
    | cons y t' r' => rw [strsAre_inj r r']

theorem strs_nodup : ∀ {l : List (Int × Value)} {xs : List Str}, StrsAre (l.map (·.2)) xs → l.Pairwise (Apart (PySem.strKind P w)) → ElemsOf (PySem.strKind P w) l → xs.Nodup
  | [], _, .nil, _, _ => List.nodup_nil
  | e :: l, _, h, nd, el => by
    obtain ⟨v, hv⟩ : ∃ v, e.2 = v := ⟨_, rfl⟩
    rw [List.map_cons, hv] at h
    cases h with
    | cons x t r =>
      obtain ⟨n1, n2⟩ := List.pairwise_cons.mp nd
      refine List.nodup_cons.mpr ⟨fun hx => ?_, strs_nodup r n2 el.tail⟩
      obtain ⟨ys, r', m⟩ := strs_pick (P := P) (w := w) l el.tail
      have same : ys = _ := strsAre_inj r' r
      subst same
      obtain ⟨f, hf, z⟩ := (m x).mp hx
      have := n1 f hf x (by rw [hv]; exact strKind_is _ _ _ _)
      rw [z] at this; cases this

theorem sorted_of_strset {a : Addr} {S : Str → Bool} {m : Nat} {Q : Value → Shared → Prop} (R : SetAtG (PySem.strKind P w) s.heap a S m) (hh : A.handled = none)
    (hQ : ∀ s' p (out : Array Value) (c : Nat) (ys : List Str), (∀ b o, s.heap.get? b = some o → s'.heap.get? b = some o) → s'.gens = s.gens → s'.os = s.os → s.heap.objs.size ≤ p →
      s'.heap.get? p = some (seqObj "list" out c) → StrsAre out.toList ys → sortedS ys = true → ys.Nodup → (∀ k, k ∈ ys ↔ S k = true) → ys.length = m → Q (.ref p) s') :
    wpAny (model P w) A (call (.builtin "sorted") [.ref a]) Q E s := by
  obtain ⟨o, es, ep, t, R⟩ := R
  obtain ⟨xs, hxs, mx⟩ := strs_pick (P := P) (w := w) es.toList R.els
  have nx := strs_nodup hxs R.nd R.els
  refine Calls.call_function_entry kind_sorted plain_sorted entry_sorted (args_sorted1 _) ?_
  unfold Builtin.«sorted»
  refine wpAny_bind (m := checkCount "sorted" 1 1 _) (wpAny_pure ?_)
  refine wpAny_bind (collect_set (A := A.in1) hh ⟨o, R.at_, R.ex.1, R.dat⟩ R.fit R.room R.ris R.led fun s1 vs k1 hz g1 o1 pm => ?_)
  have vl : vs.length = m := by rw [pm.length_eq, List.length_map, Array.length_toList]; exact R.num
  obtain ⟨zs, hzs, pz⟩ := strs_of_perm pm hxs
  have mb : m < scanBound := R.num ▸ R.room
  have small : vs.length ≤ sizeLine := by rw [vl]; exact fits_of_scanBound mb
  refine wpAny_bind (wpAny_newList ?_ small)
  have hoL : (s1.heap.push (seqObj "list" vs.toArray 0)).get? s1.heap.objs.size = some (seqObj "list" vs.toArray 0) := Heap.get?_push_size _ rfl
  refine wpAny_bind (wpAny_holding (wpAny_call_entry slot_list_sort ⟨_, hoL, rfl⟩ entry_list_sort (list_sort_treeKAny strKind_oneLt hoL hzs.keysOf (fun v₁ v₂ rest e => keyKind_strs (by rw [← e]; exact hzs)) small fun st' hp hs => ⟨_, rfl, ?_⟩) (args_list_sort _)))
  obtain ⟨ys, a1, a2, a3⟩ := sorted_out_str hzs hp hs
  obtain ⟨c, hc⟩ := sortedHeap_at (vs := vs) (out := (arrOf st').map (·.2)) hoL
  have py : ys.Perm xs := a2.trans pz
  refine wpAny_pure ⟨_, rfl, hQ _ s1.heap.objs.size _ c ys (fun b u e => ?_) g1 o1 hz hc a1 a3 (py.nodup_iff.mpr nx) (fun k => by rw [py.mem_iff, mx k, ← R.mem k]) ?_⟩
  · have q := k1 b u e
    have lt := Heap.lt_size q
    show (sortedHeap (s1.heap.push (seqObj "list" vs.toArray 0)) s1.heap.objs.size vs _).get? b = some u
    rw [sortedHeap_old (Nat.ne_of_lt lt) (by rw [size_push']; exact Nat.lt_succ_of_lt lt)]
    exact Heap.get?_push_of_some _ q
  · have h1 := StrsAre.len_eq hzs
    rw [a2.length_eq, ← h1, vl]
end

/-! ### over the layer -/
/-- the set of the texts xs, at a -/
def StrSet (P : Program) (w : World) (a : Addr) (xs : List Str) : HO := .ext fun h => ∃ S m, SetAtG (PySem.strKind P w) h a S m ∧ m ≤ xs.length ∧ ∀ k, S k = true ↔ k ∈ xs
def rSetS (K : PySem.W.Frag) (P : Program) (w : World) : List V → Hp → VK → Prop := fun vs H Q => ∃ (a : Addr) (xs : List Str), vs = [V.ref a] ∧ (SqL K H a (xs.map V.str)) ∧ xs.length < 4000 ∧
  ∀ p, H p = none → Q (.ref p) (upd H p (StrSet P w p xs))
def rSortSetS (P : Program) (w : World) : List V → Hp → VK → Prop := fun vs H Q => ∃ (a : Addr) (xs : List Str), vs = [V.ref a] ∧ H a = some (StrSet P w a xs) ∧
  ∀ ys p, sortedS ys = true → ys.Nodup → (∀ k, k ∈ ys ↔ k ∈ xs) → H p = none → Q (.ref p) (upd H p (.lst (ys.map V.str)))
theorem cr_setS {X : Cx} (hc : X.calm = true) : CallR X (.type "set") (rSetS X.K X.prog X.w) := by
  intro pins s σ H vs us Q I r h
  obtain ⟨a, xs, rfl, hs, hb, q⟩ := h
  obtain ⟨its, rv, hl, _⟩ := I.list hs
  rw [Vals.ref1 r]
  have hn : H s.heap.objs.size = none := I.hok.fresh (Nat.le_refl _)
  refine set_of_strs (P := X.prog) (w := X.w) (I.ok.hd hc) hl.isList rv.strs (by unfold scanBound; omega) fun h' tk S m hS hm hk kp => ?_
  refine ⟨.ref s.heap.objs.size, upd H s.heap.objs.size (StrSet X.prog X.w s.heap.objs.size xs), I.laid (t' := tk) kp (Nat.le_refl _) ?_, rfl, q _ hn⟩
  refine ⟨⟨S, m, hS, hm, hk⟩, ?_, ?_⟩
  · obtain ⟨o, es, ep, t, R⟩ := hS
    exact ⟨o, R.at_⟩
  · rintro h1 h2 ⟨S, m, hS, hm, hk⟩ e
    exact ⟨S, m, hS.keep e, hm, hk⟩
theorem cr_sortSetS {X : Cx} (hc : X.calm = true) : CallR X (.builtin "sorted") (rSortSetS X.prog X.w) := by
  intro pins s σ H vs us Q I r h
  obtain ⟨a, xs, rfl, ha, q⟩ := h
  obtain ⟨⟨S, m, hS, hm, hk⟩, _⟩ := I.hok a _ ha
  rw [Vals.ref1 r]
  refine sorted_of_strset hS (I.ok.hd hc) fun s' p out c ys kp g o hp hg hout srt nd mem hlen => ?_
  have hn : H p = none := I.hok.fresh hp
  have mb : m < scanBound := by
    obtain ⟨o, es, ep, t, R⟩ := hS
    exact R.num ▸ R.room
  have small : (ys.map V.str).length ≤ sizeLine := by rw [List.length_map, hlen]; exact fits_of_scanBound mb
  have J : Inv X pins σ (upd H p (.lst (ys.map V.str))) { s with heap := s'.heap, gens := s'.gens, drawn := s'.drawn, toks := s'.toks } :=
    I.call (ch := []) (Un.laid kp hp hn) (I.hok.laid kp hp ⟨small, out.toList, c, vals_of_strs hout, hg⟩) (by rw [g]; exact I.bare) (fun _ z => nomatch z)
  have e : s' = { s with heap := s'.heap, gens := s'.gens, drawn := s'.drawn, toks := s'.toks } := by
    cases s'; cases s; cases o; rfl
  rw [e]
  exact ⟨.ref p, _, J, rfl, q ys p srt nd (fun k => (mem k).trans (hk k)) hn⟩
end Ag

set_option Elab.async false
set_option linter.all false
set_option maxRecDepth 100000
set_option maxHeartbeats 1000000
/-! Data: what a reading of an expression over plain values gives, with the heap only growing. -/
namespace Ag
open PySem PySem.Spec PyProof.Rows L2

/-! ### heaps that keep -/
theorem _root_.L2.Same.newA {H : Hp} {p : Addr} {o : HO} (h : H p = none) : Same H (upd H p o) := fun a u e => by
  rw [upd_ne (ne_of_none e h)]; exact e
theorem _root_.L2.Same.rdA {H H' : Hp} {a : Addr} {u : HO} (e : Same H H') (h : Rd H a u) : Rd H' a u :=
  h.elim (fun z => .inl (e _ _ z)) fun ⟨o, z⟩ => .inr ⟨o, e _ _ z⟩
theorem _root_.L2.Same.slA {K : PySem.W.Frag} {H H' : Hp} {a : Addr} {xs : List V} (e : Same H H') (h : SqL K H a xs) : SqL K H' a xs := h.imp e.rdA id
theorem _root_.L2.Same.stA {K : PySem.W.Frag} {H H' : Hp} {a : Addr} {xs : List V} (e : Same H H') (h : SqT K H a xs) : SqT K H' a xs := h.imp e.rdA id
theorem _root_.L2.Same.freshA {H H' : Hp} {p : Addr} (e : Same H H') (h : H' p = none) : H p = none := e.free h

/-! ### plain data -/
mutual
theorem dp_mono {K : PySem.W.Frag} {H H' : Hp} (e : Same H H') : ∀ {v : V} {d : PyData}, Dp K H v d → Dp K H' v d
  | _, _, .non => .non
  | _, _, .bl b => .bl b
  | _, _, .int i => .int i
  | _, _, .str x => .str x
  | _, _, .lst h r => .lst (e.slA h) (dps_mono e r)
  | _, _, .tup h r => .tup (e.stA h) (dps_mono e r)
theorem dps_mono {K : PySem.W.Frag} {H H' : Hp} (e : Same H H') : ∀ {vs : List V} {ds : List PyData}, DpAll K H vs ds → DpAll K H' vs ds
  | _, _, .nil => .nil
  | _, _, .cons h r => .cons (dp_mono e h) (dps_mono e r)
end
theorem dps_len {K : PySem.W.Frag} {H : Hp} : ∀ {vs : List V} {ds : List PyData}, DpAll K H vs ds → vs.length = ds.length
  | _, _, .nil => rfl
  | _, _, .cons _ r => by rw [List.length_cons, List.length_cons, dps_len r]
theorem dps_get {K : PySem.W.Frag} {H : Hp} : ∀ {vs : List V} {ds : List PyData} {i : Nat} {d : PyData}, DpAll K H vs ds → ds[i]? = some d → ∃ v, vs[i]? = some v ∧ Dp K H v d
  | _, _, _, _, .nil, h => by simp at h
  | _, _, 0, _, .cons a r, h => by simp at h; subst h; exact ⟨_, rfl, a⟩
  | _, _, i + 1, _, .cons a r, h => by
    obtain ⟨v, e, q⟩ := dps_get (i := i) r (by simpa using h)
    exact ⟨v, by simpa using e, q⟩
theorem dps_get' {K : PySem.W.Frag} {H : Hp} : ∀ {vs : List V} {ds : List PyData} {i : Nat} {v : V}, DpAll K H vs ds → vs[i]? = some v → ∃ d, ds[i]? = some d ∧ Dp K H v d
  | _, _, _, _, .nil, h => by simp at h
  | _, _, 0, _, .cons a r, h => by simp at h; subst h; exact ⟨_, rfl, a⟩
  | _, _, i + 1, _, .cons a r, h => by
    obtain ⟨v, e, q⟩ := dps_get' (i := i) r (by simpa using h)
    exact ⟨v, by simpa using e, q⟩
theorem dps_app {K : PySem.W.Frag} {H : Hp} : ∀ {vs us : List V} {ds es : List PyData}, DpAll K H vs ds → DpAll K H us es → DpAll K H (vs ++ us) (ds ++ es)
  | _, _, _, _, .nil, q => q
  | _, _, _, _, .cons a r, q => .cons a (dps_app r q)
theorem dps_take {K : PySem.W.Frag} {H : Hp} : ∀ {vs : List V} {ds : List PyData} (n : Nat), DpAll K H vs ds → DpAll K H (vs.take n) (ds.take n)
  | _, _, 0, _ => .nil
  | _, _, _ + 1, .nil => .nil
  | _, _, n + 1, .cons a r => .cons a (dps_take n r)
theorem dps_drop {K : PySem.W.Frag} {H : Hp} : ∀ {vs : List V} {ds : List PyData} (n : Nat), DpAll K H vs ds → DpAll K H (vs.drop n) (ds.drop n)
  | _, _, 0, h => h
  | _, _, _ + 1, .nil => .nil
  | _, _, n + 1, .cons _ r => dps_drop n r
theorem dps_strs {K : PySem.W.Frag} {H : Hp} : ∀ (xs : List Str), DpAll K H (xs.map V.str) (xs.map .str)
  | [] => .nil
  | x :: xs => .cons (.str x) (dps_strs xs)
theorem strs_dps {K : PySem.W.Frag} {H : Hp} : ∀ {xs : List Str} {vs : List V}, DpAll K H vs (xs.map .str) → vs = xs.map V.str
  | [], _, h => by cases h; rfl
  | x :: xs, _, h => by
    cases h with
    | cons a r => cases a; rw [strs_dps r]; rfl
theorem ints_dps {K : PySem.W.Frag} {H : Hp} : ∀ {xs : List Int} {vs : List V}, DpAll K H vs (xs.map .int) → vs = xs.map V.int
  | [], _, h => by cases h; rfl
  | x :: xs, _, h => by
    cases h with
    | cons a r => cases a; rw [ints_dps r]; rfl
theorem bls_dps {K : PySem.W.Frag} {H : Hp} : ∀ {xs : List Bool} {vs : List V}, DpAll K H vs (xs.map .bool) → vs = xs.map V.bl
  | [], _, h => by cases h; rfl
  | x :: xs, _, h => by
    cases h with
    | cons a r => cases a; rw [bls_dps r]; rfl


/-! ### data whose lists stand where F allows -/
def KL (K : PySem.W.Frag) (a : Addr) (xs : List V) : Prop := ∃ (o : Obj) (its : Array Value) (n : Nat), K.lookup a = some o ∧ o.cls = .type "list" ∧ o.dict = none ∧ o.data = .seq its n ∧ its.size ≤ sizeLine ∧ Vals xs its.toList
mutual
inductive Df (K : PySem.W.Frag) (F : Addr → Prop) (H : Hp) : V → PyData → Prop
  | non : Df K F H .non .none
  | bl (b : Bool) : Df K F H (.bl b) (.bool b)
  | int (i : Int) : Df K F H (.int i) (.int i)
  | str (x : Str) : Df K F H (.str x) (.str x)
  | lst {a : Addr} {xs : List V} {ds : List PyData} : (Rd H a (.lst xs) ∧ F a) ∨ KL K a xs → DfAll K F H xs ds → Df K F H (.ref a) (.list ds)
  | tup {a : Addr} {xs : List V} {ds : List PyData} : SqT K H a xs → DfAll K F H xs ds → Df K F H (.ref a) (.tuple ds)
inductive DfAll (K : PySem.W.Frag) (F : Addr → Prop) (H : Hp) : List V → List PyData → Prop
  | nil : DfAll K F H [] []
  | cons {v : V} {vs : List V} {d : PyData} {ds : List PyData} : Df K F H v d → DfAll K F H vs ds → DfAll K F H (v :: vs) (d :: ds)
end
section
variable {K : PySem.W.Frag} {F G : Addr → Prop} {H H' : Hp}
mutual
theorem df_dp : ∀ {v : V} {d : PyData}, Df K F H v d → Dp K H v d
  | _, _, .non => .non
  | _, _, .bl b => .bl b
  | _, _, .int i => .int i
  | _, _, .str x => .str x
  | _, _, .lst h r => .lst (h.imp (fun z => z.1) id) (dfs_dps r)
  | _, _, .tup h r => .tup h (dfs_dps r)
theorem dfs_dps : ∀ {vs : List V} {ds : List PyData}, DfAll K F H vs ds → DpAll K H vs ds
  | _, _, .nil => .nil
  | _, _, .cons h r => .cons (df_dp h) (dfs_dps r)
end
mutual
theorem dp_df : ∀ {v : V} {d : PyData}, Dp K H v d → Df K (fun a => H a ≠ none) H v d
  | _, _, .non => .non
  | _, _, .bl b => .bl b
  | _, _, .int i => .int i
  | _, _, .str x => .str x
  | _, _, .lst h r => .lst (h.imp (fun z => ⟨z, by rcases z with z | ⟨o, z⟩ <;> (rw [z]; exact fun q => nomatch q)⟩) id) (dps_dfs r)
  | _, _, .tup h r => .tup h (dps_dfs r)
theorem dps_dfs : ∀ {vs : List V} {ds : List PyData}, DpAll K H vs ds → DfAll K (fun a => H a ≠ none) H vs ds
  | _, _, .nil => .nil
  | _, _, .cons h r => .cons (dp_df h) (dps_dfs r)
end
mutual
theorem df_mono (e : Same H H') (f : ∀ a, F a → G a) : ∀ {v : V} {d : PyData}, Df K F H v d → Df K G H' v d
  | _, _, .non => .non
  | _, _, .bl b => .bl b
  | _, _, .int i => .int i
  | _, _, .str x => .str x
  | _, _, .lst h r => .lst (h.imp (fun z => ⟨e.rdA z.1, f _ z.2⟩) id) (dfs_mono e f r)
  | _, _, .tup h r => .tup (e.stA h) (dfs_mono e f r)
theorem dfs_mono (e : Same H H') (f : ∀ a, F a → G a) : ∀ {vs : List V} {ds : List PyData}, DfAll K F H vs ds → DfAll K G H' vs ds
  | _, _, .nil => .nil
  | _, _, .cons h r => .cons (df_mono e f h) (dfs_mono e f r)
end
theorem rd_other {a D : Addr} {u o : HO} (h : Rd H a u) (n : a ≠ D) : Rd (upd H D o) a u := by
  rcases h with h | ⟨x, h⟩
  · exact .inl (by rw [upd_ne n]; exact h)
  · exact .inr ⟨x, by rw [upd_ne n]; exact h⟩
mutual
/-- a list that the data does not hold is changed -/
theorem df_upd {D : Addr} {ys : List V} {o : HO} (hD : H D = some (.lst ys)) (nf : ¬ F D) : ∀ {v : V} {d : PyData}, Df K F H v d → Df K F (upd H D o) v d
  | _, _, .non => .non
  | _, _, .bl b => .bl b
  | _, _, .int i => .int i
  | _, _, .str x => .str x
  | _, _, .lst h r => .lst (h.imp (fun z => ⟨rd_other z.1 (fun q => nf (q ▸ z.2)), z.2⟩) id) (dfs_upd hD nf r)
  | _, _, .tup h r => .tup (h.imp (fun z => rd_other z (fun q => by
      subst q
      rcases z with z | ⟨x, z⟩ <;> (rw [hD] at z; cases z))) id) (dfs_upd hD nf r)
theorem dfs_upd {D : Addr} {ys : List V} {o : HO} (hD : H D = some (.lst ys)) (nf : ¬ F D) : ∀ {vs : List V} {ds : List PyData}, DfAll K F H vs ds → DfAll K F (upd H D o) vs ds
  | _, _, .nil => .nil
  | _, _, .cons h r => .cons (df_upd hD nf h) (dfs_upd hD nf r)
end
theorem dfs_len : ∀ {vs : List V} {ds : List PyData}, DfAll K F H vs ds → vs.length = ds.length
  | _, _, .nil => rfl
  | _, _, .cons _ r => by rw [List.length_cons, List.length_cons, dfs_len r]
theorem dfs_get : ∀ {vs : List V} {ds : List PyData} {i : Nat} {d : PyData}, DfAll K F H vs ds → ds[i]? = some d → ∃ v, vs[i]? = some v ∧ Df K F H v d
  | _, _, _, _, .nil, h => by simp at h
  | _, _, 0, _, .cons a r, h => by simp at h; subst h; exact ⟨_, rfl, a⟩
  | _, _, i + 1, _, .cons a r, h => by
    obtain ⟨v, e, q⟩ := dfs_get (i := i) r (by simpa using h)
    exact ⟨v, by simpa using e, q⟩
theorem dfs_get' : ∀ {vs : List V} {ds : List PyData} {i : Nat} {v : V}, DfAll K F H vs ds → vs[i]? = some v → ∃ d, ds[i]? = some d ∧ Df K F H v d
  | _, _, _, _, .nil, h => by simp at h
  | _, _, 0, _, .cons a r, h => by simp at h; subst h; exact ⟨_, rfl, a⟩
  | _, _, i + 1, _, .cons a r, h => by
    obtain ⟨d, e, q⟩ := dfs_get' (i := i) r (by simpa using h)
    exact ⟨d, by simpa using e, q⟩
theorem dfs_app : ∀ {vs us : List V} {ds es : List PyData}, DfAll K F H vs ds → DfAll K F H us es → DfAll K F H (vs ++ us) (ds ++ es)
  | _, _, _, _, .nil, q => q
  | _, _, _, _, .cons a r, q => .cons a (dfs_app r q)
theorem dfs_take : ∀ {vs : List V} {ds : List PyData} (n : Nat), DfAll K F H vs ds → DfAll K F H (vs.take n) (ds.take n)
  | _, _, 0, _ => .nil
  | _, _, _ + 1, .nil => .nil
  | _, _, n + 1, .cons a r => .cons a (dfs_take n r)
theorem dfs_drop : ∀ {vs : List V} {ds : List PyData} (n : Nat), DfAll K F H vs ds → DfAll K F H (vs.drop n) (ds.drop n)
  | _, _, 0, h => h
  | _, _, _ + 1, .nil => .nil
  | _, _, n + 1, .cons _ r => dfs_drop n r
theorem dfs_strs : ∀ (xs : List Str), DfAll K F H (xs.map V.str) (xs.map .str)
  | [] => .nil
  | x :: xs => .cons (.str x) (dfs_strs xs)
end
/-- what F allows, or is younger than H1 -/
def Fr (F : Addr → Prop) (H1 : Hp) : Addr → Prop := fun a => F a ∨ H1 a = none
theorem Fr.to {F : Addr → Prop} {H1 H2 : Hp} (s : Same H1 H2) : ∀ a, Fr F H2 a → Fr F H1 a := fun a z => z.imp id fun q => s.freshA q
theorem Fr.base {F : Addr → Prop} {H1 : Hp} : ∀ a, F a → Fr F H1 a := fun a z => .inl z
/-- what stands -/
def nn (H : Hp) : Addr → Prop := fun a => H a ≠ none
/-- all but lists that F does not allow are kept -/
def isLst : HO → Bool | .lst _ => true | _ => false
def SameF (F : Addr → Prop) (H H' : Hp) : Prop := ∀ a u, H a = some u → (F a ∨ isLst u = false) → H' a = some u
theorem SameF.refl {F : Addr → Prop} {H : Hp} : SameF F H H := fun _ _ h _ => h
theorem SameF.trans {F : Addr → Prop} {H H1 H2 : Hp} (a : SameF F H H1) (b : SameF F H1 H2) : SameF F H H2 := fun x u h z => b x u (a x u h z) z
theorem SameF.sub {F G : Addr → Prop} {H H1 : Hp} (a : SameF F H H1) (f : ∀ x, G x → F x) : SameF G H H1 := fun x u h z => a x u h (z.imp (f x) id)
theorem _root_.L2.Same.F {F : Addr → Prop} {H H1 : Hp} (a : Same H H1) : SameF F H H1 := fun x u h _ => a x u h
theorem SameF.upd {F : Addr → Prop} {H : Hp} {D : Addr} {ys : List V} {o : HO} (hD : H D = some (.lst ys)) (nf : ¬ F D) : SameF F H (upd H D o) := fun x u h z => by
  rw [upd_ne (fun q => ?_)]
  · exact h
  · subst q
    rw [hD] at h; cases h
    exact z.elim nf (fun q => nomatch q)
theorem rd_lstF {F : Addr → Prop} {H H1 : Hp} {a : Addr} {xs : List V} (s : SameF F H H1) (h : Rd H a (.lst xs)) (f : F a) : Rd H1 a (.lst xs) := h.elim (fun z => .inl (s _ _ z (.inl f))) fun ⟨o, z⟩ => .inr ⟨o, s _ _ z (.inl f)⟩
theorem sqt_F {K : PySem.W.Frag} {F : Addr → Prop} {H H1 : Hp} {a : Addr} {xs : List V} (s : SameF F H H1) (h : SqT K H a xs) : SqT K H1 a xs := h.imp (fun z => z.elim (fun z => .inl (s _ _ z (.inr rfl))) fun ⟨o, z⟩ => .inr ⟨o, s _ _ z (.inr rfl)⟩) id
mutual
theorem df_monoF {K : PySem.W.Frag} {F : Addr → Prop} {H H1 : Hp} (s : SameF F H H1) : ∀ {v : V} {d : PyData}, Df K F H v d → Df K F H1 v d
  | _, _, .non => .non
  | _, _, .bl b => .bl b
  | _, _, .int i => .int i
  | _, _, .str x => .str x
  | _, _, .lst h r => .lst (h.imp (fun z => ⟨rd_lstF s z.1 z.2, z.2⟩) id) (dfs_monoF s r)
  | _, _, .tup h r => .tup (sqt_F s h) (dfs_monoF s r)
theorem dfs_monoF {K : PySem.W.Frag} {F : Addr → Prop} {H H1 : Hp} (s : SameF F H H1) : ∀ {vs : List V} {ds : List PyData}, DfAll K F H vs ds → DfAll K F H1 vs ds
  | _, _, .nil => .nil
  | _, _, .cons h r => .cons (df_monoF s h) (dfs_monoF s r)
end
/-- a later heap, whose lists allow what stood -/
structure Ext (F : Addr → Prop) (H : Hp) (F2 : Addr → Prop) (H2 : Hp) : Prop where
  same : SameF F H H2
  ok : ∀ a, F a → H a ≠ none → F2 a
theorem Ext.refl {F : Addr → Prop} {H : Hp} : Ext F H F H := ⟨SameF.refl, fun _ h _ => h⟩
mutual
theorem df_in {K : PySem.W.Frag} {F : Addr → Prop} {H : Hp} : ∀ {v : V} {d : PyData}, Df K F H v d → Df K (fun a => F a ∧ H a ≠ none) H v d
  | _, _, .non => .non
  | _, _, .bl b => .bl b
  | _, _, .int i => .int i
  | _, _, .str x => .str x
  | _, _, .lst h r => .lst (h.imp (fun z => ⟨z.1, z.2, by rcases z.1 with z | ⟨o, z⟩ <;> (rw [z]; exact fun q => nomatch q)⟩) id) (dfs_in r)
  | _, _, .tup h r => .tup h (dfs_in r)
theorem dfs_in {K : PySem.W.Frag} {F : Addr → Prop} {H : Hp} : ∀ {vs : List V} {ds : List PyData}, DfAll K F H vs ds → DfAll K (fun a => F a ∧ H a ≠ none) H vs ds
  | _, _, .nil => .nil
  | _, _, .cons h r => .cons (df_in h) (dfs_in r)
end
theorem df_ext {K : PySem.W.Frag} {F F2 : Addr → Prop} {H H2 : Hp} {v : V} {d : PyData} (e : Ext F H F2 H2) (h : Df K F H v d) : Df K F2 H2 v d := df_mono (Same.refl _) (fun a z => e.ok a z.1 z.2) (df_monoF (e.same.sub fun _ z => z.1) (df_in h))
theorem dfs_ext {K : PySem.W.Frag} {F F2 : Addr → Prop} {H H2 : Hp} {v : List V} {d : List PyData} (e : Ext F H F2 H2) (h : DfAll K F H v d) : DfAll K F2 H2 v d := dfs_mono (Same.refl _) (fun a z => e.ok a z.1 z.2) (dfs_monoF (e.same.sub fun _ z => z.1) (dfs_in h))

theorem small5 {n : Nat} (h : n ≤ 100000) : n ≤ sizeLine := Nat.le_trans h (by decide)
theorem lt5 {n : Nat} (h : n < 100000) : n < sizeLine := Nat.lt_of_lt_of_le h (by decide)

/-! ### what evaluates to what, the heap growing -/
def ED (K : PySem.W.Frag) (te : TE) (σ : L2.St) (F : Addr → Prop) (H : Hp) (d : PyData) : Prop := ∀ H1, Same H H1 → ∀ Q : VK, (∀ v H2, Same H1 H2 → Df K (Fr F H1) H2 v d → Q v H2) → te σ H1 Q
def ET (tt : TT) (σ : L2.St) (H : Hp) (b : Bool) : Prop := ∀ H1, Same H H1 → ∀ Q : Bool → Hp → Prop, (∀ H2, Same H1 H2 → Q b H2) → tt σ H1 Q
def EA (K : PySem.W.Frag) (ta : TA) (σ : L2.St) (F : Addr → Prop) (H : Hp) (ds : List PyData) : Prop := ∀ H1, Same H H1 → ∀ Q : List V → Hp → Prop, (∀ vs H2, Same H1 H2 → DfAll K (Fr F H1) H2 vs ds → Q vs H2) → ta σ H1 Q
def EO (to : TO) (σ : L2.St) (H : Hp) (o : Option Int) : Prop := ∀ H1, Same H H1 → ∀ Q : Option Int → Hp → Prop, (∀ H2, Same H1 H2 → Q o H2) → to σ H1 Q

section
variable {K : PySem.W.Frag} {σ : L2.St} {F : Addr → Prop} {H H' : Hp} {ta tb te tc : TE} {t u : TT} {d e : PyData}
theorem ED.mono (s : Same H H') (h : ED K te σ F H d) : ED K te σ F H' d := fun H1 a Q q => h H1 (s.trans a) Q q
theorem ET.mono {b : Bool} (s : Same H H') (h : ET t σ H b) : ET t σ H' b := fun H1 a Q q => h H1 (s.trans a) Q q
theorem ed_var {i : Nat} {v : V} (h : σ[i]? = some (some v)) (hd : Df K F H v d) : ED K (tVar i) σ F H d := fun H1 s Q q => ⟨v, h, q v H1 (Same.refl _) (df_mono s Fr.base hd)⟩
theorem ed_c {v : V} (hd : ∀ F H, Df K F H v d) : ED K (tC v) σ F H d := fun H1 _ _ q => q v H1 (Same.refl _) (hd _ H1)
theorem ed_int {i : Int} : ED K (tC (.int i)) σ F H (.int i) := ed_c fun _ _ => .int i
theorem ed_str {x : Str} : ED K (tC (.str x)) σ F H (.str x) := ed_c fun _ _ => .str x
theorem ed_bl {b : Bool} : ED K (tC (.bl b)) σ F H (.bool b) := ed_c fun _ _ => .bl b
theorem ed_non : ED K (tC .non) σ F H .none := ed_c fun _ _ => .non
theorem ea_nil : EA K tNil σ F H [] := fun H1 _ _ q => q [] H1 (Same.refl _) .nil
theorem ea_cons {tr : TA} {ds : List PyData} (h : ED K te σ F H d) (r : EA K tr σ F H ds) : EA K (tCons te tr) σ F H (d :: ds) := fun H1 s Q q =>
  h H1 s _ fun v H2 s2 hv => r H2 (s.trans s2) _ fun vs H3 s3 hvs => q (v :: vs) H3 (s2.trans s3) (.cons (df_mono s3 (fun _ z => z) hv) (dfs_mono (Same.refl _) (Fr.to s2) hvs))
theorem ed_tup {ta : TA} {ds : List PyData} (h : EA K ta σ F H ds) (hl : ds.length ≤ 100000) : ED K (tTup ta) σ F H (.tuple ds) := fun H1 s Q q =>
  h H1 s _ fun vs H2 s2 hv => ⟨by rw [dfs_len hv]; exact small5 hl, fun p hp => q _ _ (s2.trans (Same.newA hp)) (.tup (.of upd_same) (dfs_mono (Same.newA hp) (fun _ z => z) hv))⟩
theorem ed_lst {ta : TA} {ds : List PyData} (h : EA K ta σ F H ds) (hl : ds.length ≤ 100000) : ED K (tLst ta) σ F H (.list ds) := fun H1 s Q q =>
  h H1 s _ fun vs H2 s2 hv => ⟨by rw [dfs_len hv]; exact small5 hl, fun p hp => q _ _ (s2.trans (Same.newA hp)) (.lst (.inl ⟨.inl upd_same, .inr (s2.freshA hp)⟩) (dfs_mono (Same.newA hp) (fun _ z => z) hv))⟩

/-- an operation of two values, read by its rule -/
def RD (K : PySem.W.Frag) (r : R2) (d e f : PyData) : Prop := ∀ (F : Addr → Prop) x y H1, Df K F H1 x d → Df K F H1 y e → ∀ Q : VK, (∀ v H2, Same H1 H2 → Df K (fun a => F a ∨ H1 a = none) H2 v f → Q v H2) → r x y H1 Q
theorem ed_op {r : R2} {f : PyData} (ha : ED K ta σ F H d) (hb : ED K tb σ F H e) (hr : RD K r d e f) : ED K (tOp r ta tb) σ F H f := fun H1 s Q q =>
  ha H1 s _ fun x H2 s2 hx => hb H2 (s.trans s2) _ fun y H3 s3 hy => hr (Fr F H1) x y H3 (df_mono s3 (fun _ z => z) hx) (df_mono (Same.refl _) (Fr.to s2) hy) Q fun v H4 s4 hv =>
    q v H4 ((s2.trans s3).trans s4) (df_mono (Same.refl _) (fun _ z => z.elim id fun e => .inr ((s2.trans s3).freshA e)) hv)
theorem rd_int {C : Int → Int → Prop} {g : Int → Int → Int} {i j : Int} (hc : C i j) : RD K (rI C fun i j => .int (g i j)) (.int i) (.int j) (.int (g i j)) := fun F x y H1 hx hy Q q => by
  cases hx; cases hy; exact ⟨i, j, rfl, rfl, hc, q _ _ (Same.refl _) (.int _)⟩
theorem rd_int0 {g : Int → Int → Int} {i j : Int} : RD K (rI0 fun i j => .int (g i j)) (.int i) (.int j) (.int (g i j)) := fun F x y H1 hx hy Q q => by
  cases hx; cases hy; exact ⟨i, j, rfl, rfl, q _ _ (Same.refl _) (.int _)⟩
theorem rd_cmp {g : Int → Int → Bool} {i j : Int} : RD K (rI0 fun i j => .bl (g i j)) (.int i) (.int j) (.bool (g i j)) := fun F x y H1 hx hy Q q => by
  cases hx; cases hy; exact ⟨i, j, rfl, rfl, q _ _ (Same.refl _) (.bl _)⟩
theorem ed_add {i j : Int} (ha : ED K ta σ F H (.int i)) (hb : ED K tb σ F H (.int j)) : ED K (tOp (rI0 fun i j => .int (i + j)) ta tb) σ F H (.int (i + j)) := ed_op ha hb rd_int0
theorem ed_sub {i j : Int} (ha : ED K ta σ F H (.int i)) (hb : ED K tb σ F H (.int j)) : ED K (tOp (rI0 fun i j => .int (i - j)) ta tb) σ F H (.int (i - j)) := ed_op ha hb rd_int0
theorem ed_lt {i j : Int} (ha : ED K ta σ F H (.int i)) (hb : ED K tb σ F H (.int j)) : ED K (tOp (rI0 fun i j => .bl (decide (i < j))) ta tb) σ F H (.bool (decide (i < j))) := ed_op ha hb rd_cmp
theorem ed_le {i j : Int} (ha : ED K ta σ F H (.int i)) (hb : ED K tb σ F H (.int j)) : ED K (tOp (rI0 fun i j => .bl (decide (i ≤ j))) ta tb) σ F H (.bool (decide (i ≤ j))) := ed_op ha hb rd_cmp
theorem ed_gt {i j : Int} (ha : ED K ta σ F H (.int i)) (hb : ED K tb σ F H (.int j)) : ED K (tOp (rI0 fun i j => .bl (decide (j < i))) ta tb) σ F H (.bool (decide (j < i))) := ed_op ha hb rd_cmp
theorem ed_ge {i j : Int} (ha : ED K ta σ F H (.int i)) (hb : ED K tb σ F H (.int j)) : ED K (tOp (rI0 fun i j => .bl (decide (j ≤ i))) ta tb) σ F H (.bool (decide (j ≤ i))) := ed_op ha hb rd_cmp
theorem ed_eqD (ha : ED K ta σ F H d) (hb : ED K tb σ F H e) (h1 : SeqAt.shaped d = true) (h2 : SeqAt.shaped e = true) : ED K (tOp (rEqD K) ta tb) σ F H (.bool (PyData.eqv d e)) :=
  ed_op ha hb fun F x y H1 hx hy Q q => ⟨d, e, df_dp hx, df_dp hy, h1, h2, q _ _ (Same.refl _) (.bl _)⟩
theorem ed_neD (ha : ED K ta σ F H d) (hb : ED K tb σ F H e) (h1 : SeqAt.shaped d = true) (h2 : SeqAt.shaped e = true) : ED K (tOp (rNeD K) ta tb) σ F H (.bool (!PyData.eqv d e)) :=
  ed_op ha hb fun F x y H1 hx hy Q q => ⟨d, e, df_dp hx, df_dp hy, h1, h2, q _ _ (Same.refl _) (.bl _)⟩
theorem ed_eqS {x y : Str} (ha : ED K ta σ F H (.str x)) (hb : ED K tb σ F H (.str y)) : ED K (tOp rEq ta tb) σ F H (.bool (decide (x = y))) :=
  ed_op ha hb fun F a b H1 hx hy Q q => by
    cases hx; cases hy
    refine ⟨rfl, ?_⟩
    have e : decide (V.str x = V.str y) = decide (x = y) := by
      by_cases z : x = y
      · rw [decide_eq_true z, decide_eq_true (congrArg V.str z)]
      · rw [decide_eq_false z, decide_eq_false (fun q => z (V.str.inj q))]
    rw [e]; exact q _ _ (Same.refl _) (.bl _)
theorem ed_eqI {x y : Int} (ha : ED K ta σ F H (.int x)) (hb : ED K tb σ F H (.int y)) : ED K (tOp rEq ta tb) σ F H (.bool (decide (x = y))) :=
  ed_op ha hb fun F a b H1 hx hy Q q => by
    cases hx; cases hy
    refine ⟨rfl, ?_⟩
    have e : decide (V.int x = V.int y) = decide (x = y) := by
      by_cases z : x = y
      · rw [decide_eq_true z, decide_eq_true (congrArg V.int z)]
      · rw [decide_eq_false z, decide_eq_false (fun q => z (V.int.inj q))]
    rw [e]; exact q _ _ (Same.refl _) (.bl _)
theorem ed_neS {x y : Str} (ha : ED K ta σ F H (.str x)) (hb : ED K tb σ F H (.str y)) : ED K (tOp rNe ta tb) σ F H (.bool (!decide (x = y))) :=
  ed_op ha hb fun F a b H1 hx hy Q q => by
    cases hx; cases hy
    refine ⟨rfl, ?_⟩
    have e : decide (V.str x = V.str y) = decide (x = y) := by
      by_cases z : x = y
      · rw [decide_eq_true z, decide_eq_true (congrArg V.str z)]
      · rw [decide_eq_false z, decide_eq_false (fun q => z (V.str.inj q))]
    rw [e]; exact q _ _ (Same.refl _) (.bl _)
theorem ed_neI {x y : Int} (ha : ED K ta σ F H (.int x)) (hb : ED K tb σ F H (.int y)) : ED K (tOp rNe ta tb) σ F H (.bool (!decide (x = y))) :=
  ed_op ha hb fun F a b H1 hx hy Q q => by
    cases hx; cases hy
    refine ⟨rfl, ?_⟩
    have e : decide (V.int x = V.int y) = decide (x = y) := by
      by_cases z : x = y
      · rw [decide_eq_true z, decide_eq_true (congrArg V.int z)]
      · rw [decide_eq_false z, decide_eq_false (fun q => z (V.int.inj q))]
    rw [e]; exact q _ _ (Same.refl _) (.bl _)
theorem ed_catS {x y : Str} (ha : ED K ta σ F H (.str x)) (hb : ED K tb σ F H (.str y)) (hl : x.length + y.length ≤ 100000) :
    ED K (tOp (fun x y H Q => ∃ i j, x = .str i ∧ y = .str j ∧ i.length + j.length ≤ sizeLine ∧ Q (.str (i ++ j)) H) ta tb) σ F H (.str (x ++ y)) :=
  ed_op ha hb fun F a b H1 hx hy Q q => by
    cases hx; cases hy; exact ⟨x, y, rfl, rfl, small5 hl, q _ _ (Same.refl _) (.str _)⟩
/-- x is None -/
def isNone : PyData → Bool | .none => true | _ => false
theorem isN_of {F : Addr → Prop} {H : Hp} {x : V} (h : Df K F H x d) : decide (x = .non) = isNone d := by cases h <;> rfl
theorem ed_isN (ha : ED K ta σ F H d) : ED K (tOp (fun x y H Q => y = .non ∧ Q (.bl (decide (x = .non))) H) ta (tC .non)) σ F H (.bool (isNone d)) :=
  ed_op ha ed_non fun F a b H1 hx hy Q q => by
    cases hy; refine ⟨rfl, ?_⟩; rw [isN_of hx]; exact q _ _ (Same.refl _) (.bl _)
/-- a written item of a list, a tuple, a text -/
theorem ed_ixT {ds : List PyData} {j : Nat} (ha : ED K ta σ F H (.tuple ds)) (hb : ED K tb σ F H (.int j)) (h : ds[j]? = some d) : ED K (tOp (rIx K) ta tb) σ F H d :=
  ed_op ha hb fun F a b H1 hx hy Q q => by
    cases hy
    cases hx with
    | tup hs r =>
      obtain ⟨v, e, hv⟩ := dfs_get r h
      exact .inr (.inl ⟨_, _, _, v, rfl, rfl, hs, atI_nat e, q _ _ (Same.refl _) (df_mono (Same.refl _) (fun _ z => .inl z) hv)⟩)
theorem ed_ixL {ds : List PyData} {j : Nat} (ha : ED K ta σ F H (.list ds)) (hb : ED K tb σ F H (.int j)) (h : ds[j]? = some d) : ED K (tOp (rIx K) ta tb) σ F H d :=
  ed_op ha hb fun F a b H1 hx hy Q q => by
    cases hy
    cases hx with
    | lst hs r =>
      obtain ⟨v, e, hv⟩ := dfs_get r h
      exact .inl ⟨_, _, _, v, rfl, rfl, hs.imp (fun z => z.1) id, atI_nat e, q _ _ (Same.refl _) (df_mono (Same.refl _) (fun _ z => .inl z) hv)⟩
theorem ed_ixS {x : Str} {j c : Nat} (ha : ED K ta σ F H (.str x)) (hb : ED K tb σ F H (.int j)) (hl : x.length ≤ 100000) (h : x.cps.toList[j]? = some c) : ED K (tOp (rIx K) ta tb) σ F H (.str ⟨#[c]⟩) :=
  ed_op ha hb fun F a b H1 hx hy Q q => by
    cases hy; cases hx
    exact .inr (.inr ⟨_, _, c, rfl, rfl, small5 hl, atI_nat h, q _ _ (Same.refl _) (.str _)⟩)

/-! ### tests -/
theorem et_test {b : Bool} (h : ED K te σ F H (.bool b)) : ET (tTest te) σ H b := fun H1 s Q q => h H1 s _ fun v H2 s2 hv => by
  cases hv; exact ⟨b, rfl, q H2 s2⟩
theorem et_B {b : Bool} (h : ED K te σ F H (.bool b)) : ET (tB te) σ H b := fun H1 s Q q => h H1 s _ fun v H2 s2 hv => by
  cases hv; exact ⟨b, rfl, q H2 s2⟩
theorem et_and {a b : Bool} (h1 : ET t σ H a) (h2 : a = true → ET u σ H b) : ET (tAnd t u) σ H (a && b) := fun H1 s Q q => h1 H1 s _ fun H2 s2 => by
  cases a with
  | true => exact h2 rfl H2 (s.trans s2) Q fun H3 s3 => q H3 (s2.trans s3)
  | false => exact q H2 s2
theorem et_or {a b : Bool} (h1 : ET t σ H a) (h2 : a = false → ET u σ H b) : ET (tOr t u) σ H (a || b) := fun H1 s Q q => h1 H1 s _ fun H2 s2 => by
  cases a with
  | true => exact q H2 s2
  | false => exact h2 rfl H2 (s.trans s2) Q fun H3 s3 => q H3 (s2.trans s3)
theorem et_not {a : Bool} (h1 : ET t σ H a) : ET (tNot t) σ H (!a) := fun H1 s Q q => h1 H1 s _ fun H2 s2 => q H2 s2
theorem et_is {a b : Bool} (h : ET t σ H a) (e : a = b) : ET t σ H b := e ▸ h
theorem ed_is (h : ED K te σ F H d) (z : d = e) : ED K te σ F H e := z ▸ h
theorem ed_andV {a b : Bool} (h1 : ED K ta σ F H (.bool a)) (h2 : a = true → ED K tb σ F H (.bool b)) : ED K (tAndV ta tb) σ F H (.bool (a && b)) := fun H1 s Q q => h1 H1 s _ fun v H2 s2 hv => by
  cases hv
  refine ⟨a, rfl, ?_⟩
  cases a with
  | true => exact h2 rfl H2 (s.trans s2) Q fun v H3 s3 hv => q v H3 (s2.trans s3) (df_mono (Same.refl _) (Fr.to s2) hv)
  | false => exact q _ H2 s2 (.bl _)
theorem ed_orV {a b : Bool} (h1 : ED K ta σ F H (.bool a)) (h2 : a = false → ED K tb σ F H (.bool b)) : ED K (tOrV ta tb) σ F H (.bool (a || b)) := fun H1 s Q q => h1 H1 s _ fun v H2 s2 hv => by
  cases hv
  refine ⟨a, rfl, ?_⟩
  cases a with
  | true => exact q _ H2 s2 (.bl _)
  | false => exact h2 rfl H2 (s.trans s2) Q fun v H3 s3 hv => q v H3 (s2.trans s3) (df_mono (Same.refl _) (Fr.to s2) hv)
theorem ed_notV {a : Bool} (h1 : ED K ta σ F H (.bool a)) : ED K (tNotV ta) σ F H (.bool (!a)) := fun H1 s Q q => h1 H1 s _ fun v H2 s2 hv => by
  cases hv; exact ⟨a, rfl, q _ H2 s2 (.bl _)⟩
theorem ed_if {b : Bool} (h : ET t σ H b) (h1 : b = true → ED K ta σ F H d) (h2 : b = false → ED K tb σ F H d) : ED K (tIf t ta tb) σ F H d := fun H1 s Q q => h H1 s _ fun H2 s2 => by
  cases b with
  | true => exact h1 rfl H2 (s.trans s2) Q fun v H3 s3 hv => q v H3 (s2.trans s3) (df_mono (Same.refl _) (Fr.to s2) hv)
  | false => exact h2 rfl H2 (s.trans s2) Q fun v H3 s3 hv => q v H3 (s2.trans s3) (df_mono (Same.refl _) (Fr.to s2) hv)
theorem ed_chain {r r' : R2} {a b : Bool} {f : PyData} (ha : ED K ta σ F H d) (hb : ED K tb σ F H e) (hc : ED K tc σ F H f) (h1 : RD K r d e (.bool a)) (h2 : a = true → RD K r' e f (.bool b)) :
    ED K (tChain r r' ta tb tc) σ F H (.bool (a && b)) := fun H1 s Q q =>
  ha H1 s _ fun x H2 s2 hx => hb H2 (s.trans s2) _ fun y H3 s3 hy => h1 (fun _ => True) x y H3 (df_mono s3 (fun _ _ => trivial) hx) (df_mono (Same.refl _) (fun _ _ => trivial) hy) _ fun z H4 s4 hz => by
    cases hz
    refine ⟨a, rfl, ?_⟩
    cases a with
    | true =>
      refine hc H4 (((s.trans s2).trans s3).trans s4) _ fun w H5 s5 hw => h2 rfl (fun _ => True) y w H5 (df_mono (s4.trans s5) (fun _ _ => trivial) hy) (df_mono (Same.refl _) (fun _ _ => trivial) hw) Q fun v H6 s6 hv => ?_
      cases hv
      exact q _ H6 ((((s2.trans s3).trans s4).trans s5).trans s6) (.bl _)
    | false => exact q _ H4 ((s2.trans s3).trans s4) (.bl _)

/-! ### built-in calls -/
def RDC (K : PySem.W.Frag) (r : List V → Hp → VK → Prop) (ds : List PyData) (f : PyData) : Prop := ∀ (F : Addr → Prop) vs H1, DfAll K F H1 vs ds → ∀ Q : VK, (∀ v H2, Same H1 H2 → Df K (fun a => F a ∨ H1 a = none) H2 v f → Q v H2) → r vs H1 Q
theorem ed_cb {r : List V → Hp → VK → Prop} {ta : TA} {ds : List PyData} (h : EA K ta σ F H ds) (hr : RDC K r ds d) : ED K (tCB r ta) σ F H d := fun H1 s Q q =>
  h H1 s _ fun vs H2 s2 hv => hr (Fr F H1) vs H2 hv Q fun v H3 s3 hv3 => q v H3 (s2.trans s3) (df_mono (Same.refl _) (fun _ z => z.elim id fun e => .inr (s2.freshA e)) hv3)
theorem ed_call {sp : Sp} {E : XK} {ta : TA} {ds : List PyData} (h : EA K ta σ F H ds) (hr : RDC K (fun vs H Q => sp vs H Q E) ds d) : ED K (tCall sp [] E ta) σ F H d := fun H1 s Q q =>
  h H1 s _ fun vs H2 s2 hv => by
    show sp (vs ++ []) H2 Q E
    rw [List.append_nil]
    exact hr (Fr F H1) vs H2 hv Q fun v H3 s3 hv3 => q v H3 (s2.trans s3) (df_mono (Same.refl _) (fun _ z => z.elim id fun e => .inr (s2.freshA e)) hv3)
/-- len of data -/
def lenP : PyData → Nat | .list ds => ds.length | .tuple ds => ds.length | .str x => x.length | _ => 0
def hasLen : PyData → Bool | .list _ => true | .tuple _ => true | .str x => decide (x.length ≤ 100000) | _ => false
theorem rdc_len (h : hasLen d = true) : RDC K (fun xs H Q => ∃ x n, xs = [x] ∧ LenV K x H n ∧ Q (.int n) H) [d] (.int (lenP d : Int)) := fun F vs H1 hv Q q => by
  cases hv with
  | cons a r =>
    cases r
    refine ⟨_, lenP d, rfl, ?_, q _ _ (Same.refl _) (.int _)⟩
    cases a with
    | lst hs r => exact .inl ⟨_, hs.imp (fun z => z.1) id, (dfs_len r).symm⟩
    | tup hs r => exact .inr ⟨_, hs, (dfs_len r).symm⟩
    | str x => exact ⟨small5 (of_decide_eq_true h), rfl⟩
    | _ => cases h
theorem ed_len (ha : ED K ta σ F H d) (h : hasLen d = true) : ED K (tCB (fun xs H Q => ∃ x n, xs = [x] ∧ LenV K x H n ∧ Q (.int n) H) (tCons ta tNil)) σ F H (.int (lenP d : Int)) := ed_cb (ea_cons ha ea_nil) (rdc_len h)
/-- isinstance of data -/
def tyName : PyData → String | .none => "NoneType" | .bool _ => "bool" | .int _ => "int" | .str _ => "str" | .list _ => "list" | .tuple _ => "tuple" | .dict _ => "dict"
theorem tyx_of {H : Hp} {x : V} (h : Dp K H x d) : TyX K H x (.type (tyName d)) := by
  cases h with
  | non => exact .base .non
  | bl b => exact .base (.bl b)
  | int i => exact .base (.int i)
  | str x => exact .base (.str x)
  | lst hs r =>
    rcases hs with (h | ⟨o, h⟩) | ⟨o, its, n, hk, hc, _⟩
    · exact .base (.lst h)
    · exact .base (.frz h)
    · exact .kList hk hc
  | tup hs r =>
    rcases hs with (h | ⟨o, h⟩) | ⟨o, its, n, hk, hc, _⟩
    · exact .base (.tup h)
    · exact .fTuple h
    · exact .kTuple hk hc
def isiB (T : String) : PyData → Bool
  | .none => false | .bool _ => T == "bool" || T == "int" | .int _ => T == "int" | .str _ => T == "str" | .list _ => T == "list" | .tuple _ => T == "tuple" | .dict _ => T == "dict"
theorem kit_all {T : String} (hT : T = "str" ∨ T = "tuple" ∨ T = "list" ∨ T = "int" ∨ T = "bool") {H : Hp} {x : V} (h : Dp K H x d) : PySem.W.kitOne K (.type (tyName d)) (.type T) = some (isiB T d) := by
  rcases hT with rfl | rfl | rfl | rfl | rfl
  · cases h with
    | non => exact kit_ty (show kitB "NoneType" "str" = some false by decide +kernel)
    | bl b => exact kit_ty (show kitB "bool" "str" = some false by decide +kernel)
    | int i => exact kit_ty (show kitB "int" "str" = some false by decide +kernel)
    | str x => exact kit_ty (show kitB "str" "str" = some true by decide +kernel)
    | lst hs r => exact kit_ty (show kitB "list" "str" = some false by decide +kernel)
    | tup hs r => exact kit_ty (show kitB "tuple" "str" = some false by decide +kernel)
  · cases h with
    | non => exact kit_ty (show kitB "NoneType" "tuple" = some false by decide +kernel)
    | bl b => exact kit_ty (show kitB "bool" "tuple" = some false by decide +kernel)
    | int i => exact kit_ty (show kitB "int" "tuple" = some false by decide +kernel)
    | str x => exact kit_ty (show kitB "str" "tuple" = some false by decide +kernel)
    | lst hs r => exact kit_ty (show kitB "list" "tuple" = some false by decide +kernel)
    | tup hs r => exact kit_ty (show kitB "tuple" "tuple" = some true by decide +kernel)
  · cases h with
    | non => exact kit_ty (show kitB "NoneType" "list" = some false by decide +kernel)
    | bl b => exact kit_ty (show kitB "bool" "list" = some false by decide +kernel)
    | int i => exact kit_ty (show kitB "int" "list" = some false by decide +kernel)
    | str x => exact kit_ty (show kitB "str" "list" = some false by decide +kernel)
    | lst hs r => exact kit_ty (show kitB "list" "list" = some true by decide +kernel)
    | tup hs r => exact kit_ty (show kitB "tuple" "list" = some false by decide +kernel)
  · cases h with
    | non => exact kit_ty (show kitB "NoneType" "int" = some false by decide +kernel)
    | bl b => exact kit_ty (show kitB "bool" "int" = some true by decide +kernel)
    | int i => exact kit_ty (show kitB "int" "int" = some true by decide +kernel)
    | str x => exact kit_ty (show kitB "str" "int" = some false by decide +kernel)
    | lst hs r => exact kit_ty (show kitB "list" "int" = some false by decide +kernel)
    | tup hs r => exact kit_ty (show kitB "tuple" "int" = some false by decide +kernel)
  · cases h with
    | non => exact kit_ty (show kitB "NoneType" "bool" = some false by decide +kernel)
    | bl b => exact kit_ty (show kitB "bool" "bool" = some true by decide +kernel)
    | int i => exact kit_ty (show kitB "int" "bool" = some false by decide +kernel)
    | str x => exact kit_ty (show kitB "str" "bool" = some false by decide +kernel)
    | lst hs r => exact kit_ty (show kitB "list" "bool" = some false by decide +kernel)
    | tup hs r => exact kit_ty (show kitB "tuple" "bool" = some false by decide +kernel)
theorem ed_isi {T : String} (ha : ED K ta σ F H d) (hT : T = "str" ∨ T = "tuple" ∨ T = "list" ∨ T = "int" ∨ T = "bool") : ED K (tCB (rIsi K) (tCons ta (tCons (tC (.ty T)) tNil))) σ F H (.bool (isiB T d)) := fun H1 s Q q =>
  ha H1 s _ fun x H2 s2 hx => ⟨x, .ty T, _, _, _, rfl, .ty T, tyx_of (df_dp hx), kit_all hT (df_dp hx), q _ _ s2 (.bl _)⟩
/-- all, any of bools -/
theorem ed_all {bs : List Bool} (ha : ED K ta σ F H (.list (bs.map .bool))) : ED K (tCB (rAll K) (tCons ta tNil)) σ F H (.bool (bs.all id)) := ed_cb (ea_cons ha ea_nil) fun F vs H1 hv Q q => by
  cases hv with
  | cons a r =>
    cases r
    cases a with
    | lst hs r => rw [bls_dps (dfs_dps r)] at hs; exact ⟨_, bs, rfl, hs.imp (fun z => z.1) id, q _ _ (Same.refl _) (.bl _)⟩
theorem ed_sum {ns : List Int} (ha : ED K ta σ F H (.list (ns.map .int))) : ED K (tCB (rSum K) (tCons ta tNil)) σ F H (.int ns.sum) := ed_cb (ea_cons ha ea_nil) fun F vs H1 hv Q q => by
  cases hv with
  | cons a r =>
    cases r
    cases a with
    | lst hs r => rw [ints_dps (dfs_dps r)] at hs; exact ⟨_, ns, rfl, hs.imp (fun z => z.1) id, q _ _ (Same.refl _) (.int _)⟩
/-- tuple(xs), list(xs) -/
def seqOf : PyData → List PyData | .list ds => ds | .tuple ds => ds | _ => []
def isSeq : PyData → Bool | .list _ => true | .tuple _ => true | _ => false
theorem ed_tupleOf (ha : ED K ta σ F H d) (h : isSeq d = true) : ED K (tCB (fun xs H Q => ∃ p ys, xs = [.ref p] ∧ ((SqL K H p ys ∧ ∀ l, H l = none → Q (.ref l) (upd H l (.tup ys))) ∨ (SqT K H p ys ∧ Q (.ref p) H))) (tCons ta tNil)) σ F H (.tuple (seqOf d)) := ed_cb (ea_cons ha ea_nil) fun F vs H1 hv Q q => by
  cases hv with
  | cons a r =>
    cases r
    cases a with
    | lst hs r => exact ⟨_, _, rfl, .inl ⟨hs.imp (fun z => z.1) id, fun l hl => q _ _ (Same.newA hl) (.tup (.of upd_same) (dfs_mono (Same.newA hl) (fun _ z => .inl z) r))⟩⟩
    | tup hs r => exact ⟨_, _, rfl, .inr ⟨hs, q _ _ (Same.refl _) (.tup hs (dfs_mono (Same.refl _) (fun _ z => .inl z) r))⟩⟩
    | _ => cases h
theorem ed_listOf (ha : ED K ta σ F H d) (h : isSeq d = true) : ED K (tCB (fun xs H Q => ∃ p ys, xs = [.ref p] ∧ (SqL K H p ys ∨ SqT K H p ys) ∧ ∀ l, H l = none → Q (.ref l) (upd H l (.lst ys))) (tCons ta tNil)) σ F H (.list (seqOf d)) := ed_cb (ea_cons ha ea_nil) fun F vs H1 hv Q q => by
  cases hv with
  | cons a r =>
    cases r
    cases a with
    | lst hs r => exact ⟨_, _, rfl, .inl (hs.imp (fun z => z.1) id), fun l hl => q _ _ (Same.newA hl) (.lst (.inl ⟨.inl upd_same, .inr hl⟩) (dfs_mono (Same.newA hl) (fun _ z => .inl z) r))⟩
    | tup hs r => exact ⟨_, _, rfl, .inr hs, fun l hl => q _ _ (Same.newA hl) (.lst (.inl ⟨.inl upd_same, .inr hl⟩) (dfs_mono (Same.newA hl) (fun _ z => .inl z) r))⟩
    | _ => cases h
end
end Ag

set_option Elab.async false
set_option linter.all false
set_option maxRecDepth 100000
set_option maxHeartbeats 1000000
/-! The pen: a dict of five written keys; what a draw leaves. -/
namespace Ag
open PySem PySem.Spec PyProof.Rows L2

abbrev ck (s : Str) : Key := Sum.inr s
def penKV (c : Addr) (at_ dig cnt fold : Int) : List (Key × V) :=
  [(ck "cells", .ref c), (ck "at", .int at_), (ck "digits", .int dig), (ck "count", .int cnt), (ck "fold", .int fold)]
theorem kn1 : ¬ ck "cells" = ck "at" := by decide +kernel
theorem kn2 : ¬ ck "cells" = ck "digits" := by decide +kernel
theorem kn3 : ¬ ck "cells" = ck "count" := by decide +kernel
theorem kn4 : ¬ ck "cells" = ck "fold" := by decide +kernel
theorem kn5 : ¬ ck "at" = ck "digits" := by decide +kernel
theorem kn6 : ¬ ck "at" = ck "count" := by decide +kernel
theorem kn7 : ¬ ck "at" = ck "fold" := by decide +kernel
theorem kn8 : ¬ ck "digits" = ck "count" := by decide +kernel
theorem kn9 : ¬ ck "digits" = ck "fold" := by decide +kernel
theorem kn0 : ¬ ck "count" = ck "fold" := by decide +kernel
theorem sn_cells_at : ¬ Str.ofString "cells" = Str.ofString "at" := by decide +kernel
theorem sn_cells_digits : ¬ Str.ofString "cells" = Str.ofString "digits" := by decide +kernel
theorem sn_cells_count : ¬ Str.ofString "cells" = Str.ofString "count" := by decide +kernel
theorem sn_cells_fold : ¬ Str.ofString "cells" = Str.ofString "fold" := by decide +kernel
theorem sn_at_cells : ¬ Str.ofString "at" = Str.ofString "cells" := by decide +kernel
theorem sn_at_digits : ¬ Str.ofString "at" = Str.ofString "digits" := by decide +kernel
theorem sn_at_count : ¬ Str.ofString "at" = Str.ofString "count" := by decide +kernel
theorem sn_at_fold : ¬ Str.ofString "at" = Str.ofString "fold" := by decide +kernel
theorem sn_digits_cells : ¬ Str.ofString "digits" = Str.ofString "cells" := by decide +kernel
theorem sn_digits_at : ¬ Str.ofString "digits" = Str.ofString "at" := by decide +kernel
theorem sn_digits_count : ¬ Str.ofString "digits" = Str.ofString "count" := by decide +kernel
theorem sn_digits_fold : ¬ Str.ofString "digits" = Str.ofString "fold" := by decide +kernel
theorem sn_count_cells : ¬ Str.ofString "count" = Str.ofString "cells" := by decide +kernel
theorem sn_count_at : ¬ Str.ofString "count" = Str.ofString "at" := by decide +kernel
theorem sn_count_digits : ¬ Str.ofString "count" = Str.ofString "digits" := by decide +kernel
theorem sn_count_fold : ¬ Str.ofString "count" = Str.ofString "fold" := by decide +kernel
theorem sn_fold_cells : ¬ Str.ofString "fold" = Str.ofString "cells" := by decide +kernel
theorem sn_fold_at : ¬ Str.ofString "fold" = Str.ofString "at" := by decide +kernel
theorem sn_fold_digits : ¬ Str.ofString "fold" = Str.ofString "digits" := by decide +kernel
theorem sn_fold_count : ¬ Str.ofString "fold" = Str.ofString "count" := by decide +kernel
section
variable {c : Addr} {a d n f x : Int}
theorem pen_cells : valV (penKV c a d n f) (ck "cells") = some (.ref c) := valV_pos rfl
theorem pen_at : valV (penKV c a d n f) (ck "at") = some (.int a) := by unfold penKV; rw [valV_neg kn1]; exact valV_pos rfl
theorem pen_dig : valV (penKV c a d n f) (ck "digits") = some (.int d) := by unfold penKV; rw [valV_neg kn2, valV_neg kn5]; exact valV_pos rfl
theorem pen_cnt : valV (penKV c a d n f) (ck "count") = some (.int n) := by unfold penKV; rw [valV_neg kn3, valV_neg kn6, valV_neg kn8]; exact valV_pos rfl
theorem pen_fold : valV (penKV c a d n f) (ck "fold") = some (.int f) := by unfold penKV; rw [valV_neg kn4, valV_neg kn7, valV_neg kn9, valV_neg kn0]; exact valV_pos rfl
theorem put_at : putK (penKV c a d n f) (ck "at") (.int x) = penKV c x d n f := by
  unfold putK; rw [valV_any, pen_at]
  simp [penKV, ck, sn_cells_at, sn_cells_digits, sn_cells_count, sn_cells_fold, sn_at_cells, sn_at_digits, sn_at_count, sn_at_fold, sn_digits_cells, sn_digits_at, sn_digits_count, sn_digits_fold, sn_count_cells, sn_count_at, sn_count_digits, sn_count_fold, sn_fold_cells, sn_fold_at, sn_fold_digits, sn_fold_count]
theorem put_dig : putK (penKV c a d n f) (ck "digits") (.int x) = penKV c a x n f := by
  unfold putK; rw [valV_any, pen_dig]
  simp [penKV, ck, sn_cells_at, sn_cells_digits, sn_cells_count, sn_cells_fold, sn_at_cells, sn_at_digits, sn_at_count, sn_at_fold, sn_digits_cells, sn_digits_at, sn_digits_count, sn_digits_fold, sn_count_cells, sn_count_at, sn_count_digits, sn_count_fold, sn_fold_cells, sn_fold_at, sn_fold_digits, sn_fold_count]
theorem put_cnt : putK (penKV c a d n f) (ck "count") (.int x) = penKV c a d x f := by
  unfold putK; rw [valV_any, pen_cnt]
  simp [penKV, ck, sn_cells_at, sn_cells_digits, sn_cells_count, sn_cells_fold, sn_at_cells, sn_at_digits, sn_at_count, sn_at_fold, sn_digits_cells, sn_digits_at, sn_digits_count, sn_digits_fold, sn_count_cells, sn_count_at, sn_count_digits, sn_count_fold, sn_fold_cells, sn_fold_at, sn_fold_digits, sn_fold_count]
theorem put_fold : putK (penKV c a d n f) (ck "fold") (.int x) = penKV c a d n x := by
  unfold putK; rw [valV_any, pen_fold]
  simp [penKV, ck, sn_cells_at, sn_cells_digits, sn_cells_count, sn_cells_fold, sn_at_cells, sn_at_digits, sn_at_count, sn_at_fold, sn_digits_cells, sn_digits_at, sn_digits_count, sn_digits_fold, sn_count_cells, sn_count_at, sn_count_digits, sn_count_fold, sn_fold_cells, sn_fold_at, sn_fold_digits, sn_fold_count]
end
/-- the pen at p, its cells at c; n bounds how often it has been drawn -/
def Pen (p c : Addr) (n : Nat) (H : Hp) : Prop :=
  ∃ (cells : List Int) (a d k f : Int), H p = some (.dK (penKV c a d k f)) ∧ Rd H c (.lst (cells.map V.int)) ∧ 0 ≤ a ∧ 0 ≤ d ∧ 0 ≤ k ∧ k ≤ n ∧ 0 ≤ f ∧ f < 2147483648
/-- all but the pen is kept -/
def But (p : Addr) (H H' : Hp) : Prop := ∀ a o, a ≠ p → H a = some o → H' a = some o
theorem But.refl (p : Addr) (H : Hp) : But p H H := fun _ _ _ h => h
theorem But.trans {p : Addr} {H H1 H2 : Hp} (a : But p H H1) (b : But p H1 H2) : But p H H2 := fun x o n h => b x o n (a x o n h)
theorem But.of {p : Addr} {H H1 : Hp} (a : Same H H1) : But p H H1 := fun x o _ h => a x o h
theorem But.free {p a : Addr} {H H1 : Hp} (b : But p H H1) (h : H1 a = none) (n : a ≠ p) : H a = none := by
  cases q : H a with
  | none => rfl
  | some o => rw [b a o n q] at h; cases h
section
variable {K : PySem.W.Frag} {p c : Addr} {n : Nat} {H H' : Hp}
theorem Pen.ne {a : Addr} {o : HO} (h : Pen p c n H) (e : H a = some o) (no : ∀ kvs, o ≠ .dK kvs) : a ≠ p := by
  obtain ⟨cells, a', d, k, f, hp, _⟩ := h
  exact ne_of e hp (no _)
theorem Pen.rd {a : Addr} {u : HO} (h : Pen p c n H) (b : But p H H') (r : Rd H a u) (no : ∀ kvs, u ≠ .dK kvs) : Rd H' a u := by
  rcases r with r | ⟨o, r⟩
  · exact .inl (b _ _ (h.ne r no) r)
  · exact .inr ⟨o, b _ _ (h.ne r (fun _ z => nomatch z)) r⟩
theorem Pen.sl {a : Addr} {xs : List V} (h : Pen p c n H) (b : But p H H') (r : SqL K H a xs) : SqL K H' a xs := r.imp (fun z => h.rd b z (fun _ z => nomatch z)) id
theorem Pen.st {a : Addr} {xs : List V} (h : Pen p c n H) (b : But p H H') (r : SqT K H a xs) : SqT K H' a xs := r.imp (fun z => h.rd b z (fun _ z => nomatch z)) id
mutual
theorem Pen.dp (h : Pen p c n H) (b : But p H H') : ∀ {v : V} {d : PyData}, Dp K H v d → Dp K H' v d
  | _, _, .non => .non
  | _, _, .bl b => .bl b
  | _, _, .int i => .int i
  | _, _, .str x => .str x
  | _, _, .lst q r => .lst (h.sl b q) (Pen.dps h b r)
  | _, _, .tup q r => .tup (h.st b q) (Pen.dps h b r)
theorem Pen.dps (h : Pen p c n H) (b : But p H H') : ∀ {vs : List V} {ds : List PyData}, DpAll K H vs ds → DpAll K H' vs ds
  | _, _, .nil => .nil
  | _, _, .cons q r => .cons (Pen.dp h b q) (Pen.dps h b r)
end
theorem Pen.same (h : Pen p c n H) (s : Same H H') : Pen p c n H' := by
  obtain ⟨cells, a, d, k, f, hp, hc, r⟩ := h
  exact ⟨cells, a, d, k, f, s _ _ hp, s.rdA hc, r⟩
theorem Pen.more {m : Nat} (h : Pen p c n H) (l : n ≤ m) : Pen p c m H := by
  obtain ⟨cells, a, d, k, f, hp, hc, h1, h2, h3, h4, r⟩ := h
  exact ⟨cells, a, d, k, f, hp, hc, h1, h2, h3, Int.le_trans h4 (by omega), r⟩
theorem Pen.some_p (h : Pen p c n H) : ∃ o, H p = some o := by
  obtain ⟨cells, a, d, k, f, hp, _⟩ := h; exact ⟨_, hp⟩
theorem Pen.some_c (h : Pen p c n H) : ∃ o, H c = some o := by
  obtain ⟨cells, a, d, k, f, hp, hc, _⟩ := h
  rcases hc with hc | ⟨o, hc⟩ <;> exact ⟨_, hc⟩
/-- an own object is changed or made: the pen stands -/
theorem Pen.upd {l : Addr} {o : HO} (h : Pen p c n H) (h1 : l ≠ p) (h2 : l ≠ c) : Pen p c n (L2.upd H l o) := by
  obtain ⟨cells, a, d, k, f, hp, hc, r⟩ := h
  refine ⟨cells, a, d, k, f, by rw [upd_ne (Ne.symm h1)]; exact hp, ?_, r⟩
  rcases hc with hc | ⟨o, hc⟩
  · exact .inl (by rw [upd_ne (Ne.symm h2)]; exact hc)
  · exact .inr ⟨o, by rw [upd_ne (Ne.symm h2)]; exact hc⟩
theorem Pen.ne_p {l : Addr} (h : Pen p c n H) (hl : H l = none) : l ≠ p := by
  obtain ⟨o, e⟩ := h.some_p
  exact Ne.symm (ne_of_none e hl)
theorem Pen.ne_c {l : Addr} (h : Pen p c n H) (hl : H l = none) : l ≠ c := by
  obtain ⟨o, e⟩ := h.some_c
  exact Ne.symm (ne_of_none e hl)
end

section
variable {H : Hp} {p c : Addr} {a d n f x : Int}
theorem pg_cells (h : H p = some (.dK (penKV c a d n f))) : DGet H p (.str "cells") (some (.ref c)) := by
  have q := DGet.k (k := ck "cells") h
  rw [pen_cells] at q; exact q
theorem pg_at (h : H p = some (.dK (penKV c a d n f))) : DGet H p (.str "at") (some (.int a)) := by
  have q := DGet.k (k := ck "at") h
  rw [pen_at] at q; exact q
theorem pg_dig (h : H p = some (.dK (penKV c a d n f))) : DGet H p (.str "digits") (some (.int d)) := by
  have q := DGet.k (k := ck "digits") h
  rw [pen_dig] at q; exact q
theorem pg_cnt (h : H p = some (.dK (penKV c a d n f))) : DGet H p (.str "count") (some (.int n)) := by
  have q := DGet.k (k := ck "count") h
  rw [pen_cnt] at q; exact q
theorem pg_fold (h : H p = some (.dK (penKV c a d n f))) : DGet H p (.str "fold") (some (.int f)) := by
  have q := DGet.k (k := ck "fold") h
  rw [pen_fold] at q; exact q
theorem pp_at (h : H p = some (.dK (penKV c a d n f))) : DPut H p (.str "at") (.int x) (upd H p (.dK (penKV c x d n f))) := by
  have q := DPut.k (k := ck "at") (v := .int x) h (by show 5 < sizeLine; decide)
  rw [put_at] at q; exact q
theorem pp_dig (h : H p = some (.dK (penKV c a d n f))) : DPut H p (.str "digits") (.int x) (upd H p (.dK (penKV c a x n f))) := by
  have q := DPut.k (k := ck "digits") (v := .int x) h (by show 5 < sizeLine; decide)
  rw [put_dig] at q; exact q
theorem pp_cnt (h : H p = some (.dK (penKV c a d n f))) : DPut H p (.str "count") (.int x) (upd H p (.dK (penKV c a d x f))) := by
  have q := DPut.k (k := ck "count") (v := .int x) h (by show 5 < sizeLine; decide)
  rw [put_cnt] at q; exact q
theorem pp_fold (h : H p = some (.dK (penKV c a d n f))) : DPut H p (.str "fold") (.int x) (upd H p (.dK (penKV c a d n x))) := by
  have q := DPut.k (k := ck "fold") (v := .int x) h (by show 5 < sizeLine; decide)
  rw [put_fold] at q; exact q
end
/-- the promise of a draw -/
def spDraw : Sp := fun vs H Q _ => ∃ (p c : Addr) (many : Int) (n : Nat), vs = [.ref p, .int many] ∧ Pen p c n H ∧ 0 < many ∧ many < 1000000 ∧ n < 1000000000000 ∧
  ∀ (d : Int) H', 0 ≤ d → d < many → But p H H' → Pen p c (n + 1) H' → Q (.int d) H'
end Ag

set_option Elab.async false
set_option linter.all false
set_option maxRecDepth 100000
set_option maxHeartbeats 1000000
/-! The end of a law row, the law run at the caller's very surroundings (so that nothing is being shown there), with tables of code objects. -/
namespace Ag
open PySem PySem.Spec PyProof.Rows L2 LamX
def emptyT : Obj := { cls := .none, data := .fields #[] }
/-- what is tracked ahead of the law: the script, unless it is written, and the tables -/
def lawH (a : Addr) (tabs : List Addr) (o : Obj) (xs : List V) (wr : Bool) : Hp := fun b => if b ∈ tabs then some (.tbl #[]) else if b = a ∧ wr = false then some (.frz o (.lst xs)) else none
section
variable {a b : Addr} {tabs : List Addr} {o : Obj} {xs : List V} {wr : Bool} {u : HO}
theorem lawH_tab (h : b ∈ tabs) : lawH a tabs o xs wr b = some (.tbl #[]) := if_pos h
theorem lawH_at (h : a ∉ tabs) : lawH a tabs o xs false a = some (.frz o (.lst xs)) := by
  unfold lawH; rw [if_neg h, if_pos ⟨rfl, rfl⟩]
theorem lawH_cases (h : lawH a tabs o xs wr b = some u) : (b ∈ tabs ∧ u = .tbl #[]) ∨ (b = a ∧ wr = false ∧ b ∉ tabs ∧ u = .frz o (.lst xs)) := by
  unfold lawH at h
  by_cases h1 : b ∈ tabs
  · rw [if_pos h1] at h; cases h; exact .inl ⟨h1, rfl⟩
  · rw [if_neg h1] at h
    by_cases h2 : b = a ∧ wr = false
    · rw [if_pos h2] at h; cases h; exact .inr ⟨h2.1, h2.2, h1, rfl⟩
    · rw [if_neg h2] at h; cases h
theorem lawH_none (h : lawH a tabs o xs wr b = none) : b ∉ tabs := fun z => by rw [lawH_tab z] at h; cases h
end
/-- the law's call: F tells what it does over a heap in which just the script and the tables are tracked -/
theorem law_callG {P : Program} {w : World} {K : PySem.W.Frag} {mg mb : Str → Option Value} {fa a : Addr} {cs : List (Addr × Addr)} {s₁ : Shared} {vs : List Value} {ns : List Int}
    (KX : K.In s₁.heap) (hns : s₁.heap.Ns mainGlobals mg) (hb : s₁.heap.Ns builtinsNs mb) (hbb : ∀ x : Str, x ≠ "__name__" → mb x = bootBuiltins x) (hlim : s₁.heap.NoLimit) (hg : s₁.gens = #[])
    (hT : ∀ p ∈ cs, s₁.heap.get? p.2 = some emptyT) (nT : ∀ p ∈ cs, K.lookup p.2 = none) (C : ∀ p ∈ cs, PySem.W.CodeHd s₁.heap p.1 p.2)
    (hbm : ∃ (bm : Addr) (ob : Obj), mg "__builtins__" = some (.ref bm) ∧ bm ≠ builtinsNs ∧ s₁.heap.get? bm = some ob ∧ ob.cls = .type "module" ∧ ob.dict = some builtinsNs ∧ ob.data = .plain)
    (ha : s₁.heap.get? a = some { cls := .type "list", data := .seq vs.toArray }) (hi : IntsAre vs ns) (hl : ns.length ≤ sizeLine)
    (F : ∀ (base : Heap) (H : Hp), K.In base → base.Ns mainGlobals mg → (∀ p ∈ cs, TabB base mg p.1 p.2) → (∀ p ∈ cs, H p.2 = some (.tbl #[])) → SqL K H a (ns.map V.int) → Env0 P w K mg base callerA [] s₁ H →
      codeAny (model P w) callerA (.call (.ref fa) ⟨[.ref a], []⟩) (CR CX0 [] P w H s₁ (fun v _ => v = .bl true) fun _ _ _ => False) s₁) :
    codeAny (model P w) callerA (.call (.ref fa) ⟨[.ref a], []⟩) (fun r s' => r = .ok (.ret (.bool true)) ∧ OldK s₁.heap s'.heap ∧ s'.os = s₁.os ∧ AllBare s'.gens) s₁ := by
  let sc : Obj := { cls := .type "list", data := .seq vs.toArray }
  let tabs := cs.map Prod.snd
  let wr : Bool := (K.lookup a).isSome
  let H : Hp := lawH a tabs sc (ns.map V.int) wr
  have tget : ∀ b ∈ tabs, s₁.heap.get? b = some emptyT := fun b hb => by
    obtain ⟨p, hp, rfl⟩ := List.mem_map.mp hb; exact hT p hp
  have tmem : ∀ p ∈ cs, p.2 ∈ tabs := fun p hp => List.mem_map_of_mem hp
  have na : a ∉ tabs := fun z => by
    have q := tget a z
    rw [ha] at q
    have := congrArg Obj.data (Option.some.inj q)
    exact nomatch this
  have nk : ∀ b ∈ tabs, K.lookup b = none := fun b hb => by
    obtain ⟨p, hp, rfl⟩ := List.mem_map.mp hb; exact nT p hp
  -- an object that is neither a list nor fields is not tracked
  have free : ∀ {b : Addr} {o : Obj}, s₁.heap.get? b = some o → (∀ z n, o.data ≠ .seq z n) → o.data ≠ .fields #[] → H b = none := fun {b o} e n1 n2 => by
    cases q : H b with
    | none => rfl
    | some u =>
      rcases lawH_cases q with ⟨m, _⟩ | ⟨m, _, _, _⟩
      · rw [tget b m] at e; cases e; exact absurd rfl n2
      · subst m; rw [ha] at e; cases e; exact absurd rfl (n1 _ _)
  have baseG : ∀ {b : Addr} {o : Obj}, s₁.heap.get? b = some o → (∀ z n, o.data ≠ .seq z n) → o.data ≠ .fields #[] → (hidT s₁.heap H).get? b = some o := fun e n1 n2 => hidT_get e (free e n1 n2)
  have nsB : ∀ {b : Addr} {m : Str → Option Value}, s₁.heap.Ns b m → (hidT s₁.heap H).Ns b m := fun ⟨o, es, ep, e, d, r⟩ =>
    ⟨o, es, ep, baseG e (fun z n q => by rw [d] at q; exact nomatch q) (fun q => by rw [d] at q; exact nomatch q), d, r⟩
  have kB : K.In (hidT s₁.heap H) := fun b o e => hidT_get (KX b o e) (by
    cases q : H b with
    | none => rfl
    | some u =>
      rcases lawH_cases q with ⟨m, _⟩ | ⟨m, wf, _, _⟩
      · rw [nk b m] at e; cases e
      · subst m
        have wf : (K.lookup b).isSome = false := wf
        rw [e] at wf; cases wf)
  have mod : L2.Mod K mg (hidT s₁.heap H) := ⟨kB, nsB hns, ⟨mb, nsB hb, hbb⟩, let ⟨mc, h1, h2⟩ := hlim; ⟨mc, nsB h1, h2⟩⟩
  have tb : ∀ p ∈ cs, TabB (hidT s₁.heap H) mg p.1 p.2 := fun p hp => by
    have hp2 := hT p hp
    obtain ⟨bm, ob, b1, b2, b3, b4, b5, b6⟩ := hbm
    refine ⟨?_, ⟨bm, ob, b1, b2, fun q => ?_, fun q => ?_, baseG b3 (fun z n q => by rw [b6] at q; exact nomatch q) (fun q => by rw [b6] at q; exact nomatch q), b4, b5, b6⟩, fun q => ?_⟩
    · obtain ⟨o, us, file, tf, flags, tg, inF, text, tt, e1, r1, r2, r3, rest⟩ := C p hp
      exact ⟨o, us, file, tf, flags, tg, inF, text, tt, baseG e1 (fun z n q => by rw [r2] at q; exact nomatch q) (fun q => by
        rw [r2] at q
        have q := Data.fields.inj q
        subst q; simp at r3), r1, r2, r3, rest⟩
    · obtain ⟨o, es, ep, e, d, _⟩ := hns
      rw [q, e] at b3; cases b3; rw [d] at b6; exact nomatch b6
    · rw [q, hp2] at b3; cases b3; exact nomatch b6
    · obtain ⟨o, es, ep, e, d, _⟩ := hns
      rw [q, hp2] at e; cases e; exact nomatch d
  have hok : HOk P w H s₁.heap := fun b u q => by
    rcases lawH_cases q with ⟨m, rfl⟩ | ⟨rfl, _, _, rfl⟩
    · exact tget b m
    · exact ⟨ha, by rw [List.length_map]; exact hl, vs, 0, vals_ints hi, ha⟩
  have e0 : Env0 P w K mg (hidT s₁.heap H) callerA [] s₁ H := ⟨rfl, mod, fun b o e => of_hidT e, Nat.le_of_eq (hidT_size _ _), trivial, fun b z => (nomatch z), hok, .of_eq hg⟩
  have sq : SqL K H a (ns.map V.int) := by
    cases q : K.lookup a with
    | none =>
      have wf : wr = false := by show (K.lookup a).isSome = false; rw [q]; rfl
      refine .inl (.inr ⟨sc, ?_⟩)
      show lawH a tabs sc (ns.map V.int) wr a = _
      rw [wf]; exact lawH_at na
    | some o =>
      have e := KX a o q
      rw [ha] at e; cases e
      exact .inr ⟨_, vs.toArray, _, q, rfl, rfl, rfl, by rw [List.size_toArray, hi.length]; exact hl, vals_ints hi⟩
  refine codeAny_mono (F _ H kB (nsB hns) tb (fun p hp => lawH_tab (tmem p hp)) sq e0) fun r s' h => ?_
  cases r with
  | error e => exact (show False from h).elim
  | ok fl =>
    cases fl with
    | ret u =>
      obtain ⟨v, H', os, bare, un, hok', rv, q⟩ := h
      cases (show v = V.bl true from q)
      obtain rfl : u = Value.bool true := rv
      have grown : ∀ b ∈ tabs, ∃ more : Array Value, s'.heap.get? b = some { cls := .none, data := .fields more } := fun b hb => by
        obtain ⟨more, z⟩ := un.tbls b #[] (lawH_tab hb)
        exact ⟨_, hok' b _ z⟩
      have kept : ∀ b o, b ∉ tabs → s₁.heap.get? b = some o → s'.heap.get? b = some o := fun b o nb e => by
        cases q : H b with
        | none => exact un.keep b o e q (fun z => nomatch z) (fun z => nomatch z)
        | some u =>
          rcases lawH_cases q with ⟨m, _⟩ | ⟨m, _, _, hu⟩
          · exact absurd m nb
          · subst m; subst hu
            have e2 := (hok' b _ (un.frzs b sc _ q)).1
            rw [ha] at e; cases e; exact e2
      refine ⟨rfl, ⟨fun b o e => ?_, fun b o e => ?_⟩, os, bare⟩
      · by_cases hb : b ∈ tabs
        · obtain ⟨p, hp, rfl⟩ := List.mem_map.mp hb
          obtain ⟨more, hm⟩ := grown _ hb
          rw [hT p hp] at e; cases e
          exact .inr (.inl ⟨((C p hp).tab (hT p hp)).isCodeTable, rfl, #[], more, rfl, by rw [Array.empty_append]; exact hm⟩)
        · exact .inl (kept b o hb e)
      · by_cases hb : b ∈ tabs
        · obtain ⟨more, hm⟩ := grown b hb; exact ⟨_, hm⟩
        · exact ⟨o, kept b o hb e⟩
    | next => exact False.elim h
    | brk => exact False.elim h
    | cont => exact False.elim h
/-- what is known of the law at the head's heap -/
def LawG (l : PySem.W.OpenLaw) (w : World) (K : PySem.W.Frag) (n : Nat) (mg : Str → Option Value) (fa : Addr) (s : Shared) : Prop :=
  ∃ cs : List (Addr × Addr), (∀ p ∈ cs, s.heap.get? p.2 = some emptyT) ∧ (∀ p ∈ cs, K.lookup p.2 = none) ∧ (∀ p ∈ cs, PySem.W.CodeHd s.heap p.1 p.2) ∧
    ∀ (a : Addr) (ns : List Int) (base : Heap) (H : Hp), ns.length ≤ n → (∀ z ∈ ns, Builtin.Int.intBits z ≤ 1048576) → K.In base → base.Ns mainGlobals mg → (∀ p ∈ cs, TabB base mg p.1 p.2) → (∀ p ∈ cs, H p.2 = some (.tbl #[])) → SqL K H a (ns.map V.int) → Env0 l.prog w K mg base callerA [] s H →
      codeAny (model l.prog w) callerA (.call (.ref fa) ⟨[.ref a], []⟩) (CR CX0 [] l.prog w H s (fun v _ => v = .bl true) fun _ _ _ => False) s
theorem walk_G {l : PySem.W.OpenLaw} {n : Nat} {q : Program} {loose : List Str} {XP : (Str → Option Value) → Heap → Prop} {YP : World → Heap → Prop} {d : DefRec} {K : Params → PySem.W.Frag}
    (hn : l.most = some n) (hn2 : n ≤ sizeLine) (hdf : d.params.defaults = []) (hY : ∀ (w : World) (h : Heap), YP w h → (K w.params).In h)
    (F : ∀ (w : World) (mg mb : Str → Option Value) (fa : Addr) (s : Shared) (mean : ExcName → Option Value), PyProof.Rows.Top q (PySem.W.looseW q loose) mean mg mb s.heap → (K w.params).In s.heap → mg d.name = some (.ref fa) → LawG l w (K w.params) n mg fa s) :
    PySem.W.WalkO q loose XP YP l.row.toRowW d [] (fun f vs => PySem.call f vs) := by
  refine Att.attach_callB hn hdf fun w s₀ s₁ mg mb fa o pm cd doc a vs ns G Y ho hd hcd hmg hobj hints hlen hbits hg => ?_
  have KX := hY w _ Y
  obtain ⟨cs, hT, nT, C, hF⟩ := F w mg mb fa s₁ _ G.T KX hmg
  exact law_callG KX G.T.g G.T.b G.T.builtins G.T.nolimit hg hT nT C G.T.bmain hobj hints (Nat.le_trans hlen hn2) fun base H h1 h2 h3 h4 h5 h6 => hF a ns base H hlen hbits h1 h2 h3 h4 h5 h6
end Ag

set_option Elab.async false
set_option linter.all false
set_option maxRecDepth 100000
set_option maxHeartbeats 2000000
/-! try with several clauses, each of which binds what it catches to a name. -/
namespace Ag
open PySem PySem.Spec PyProof.Rows L2
/-- a clause: the class, the slot of its name, and its suite's reading -/
structure Clause where
  cls : Value
  slot : Nat
  ts : Addr → Value → Option Addr → TS
/-- the ends of a suite whose name is unbound behind it -/
def endsU (i : Nat) (D : Ends) : Ends := ⟨fun σ H => D.nx (σ.set i none) H, D.rt, fun σ H => D.bk (σ.set i none) H, fun σ H => D.ct (σ.set i none) H⟩
def wNamed (K : PySem.W.Frag) (n : Nat) (Wout : WX) (D : Ends) : List Clause → WX
  | [] => Wout
  | q :: r => fun c d σ H => ∃ b, PySem.W.exmOne K c q.cls = some b ∧ (b = true → σ.length = n → ∀ a, H a = none → q.ts a c d (endsU q.slot D) (σ.set q.slot (some (.ref a))) H) ∧ (b = false → wNamed K n Wout D r c d σ H)
inductive ClausesOk (X : Cx) : List ExceptHandler → List Clause → Prop
  | nil : ClausesOk X [] []
  | cons {x n : Str} {q : Clause} {b₀ : Stmt} {suite : List Stmt} {np hp : Pos} {hds : List ExceptHandler} {l : List Clause} (names : Names X x q.cls) (hi : X.N[q.slot]? = some n) (loc : X.env.kindOf n = some .local)
      (run : ∀ (a : Addr) (oe : Obj) (c : Value) (d : Option Addr) (pn : List (Addr × Obj)), Zc c d oe → (∃ vs, oe.data = .fields vs) → PSs (X.suite a ((a, oe) :: pn)) (b₀ :: suite) (q.ts a c d)) (rest : ClausesOk X hds l) :
      ClausesOk X (.ExceptHandler (some (.Name x np)) (some n) (b₀ :: suite) hp :: hds) (q :: l)
section
variable {X : Cx} {body : List Stmt} {h₀ : ExceptHandler} {hds : List ExceptHandler} {l : List Clause} {pos : Pos} {tb : WX → TS} {Wout : WX}
theorem ps_try_named (stk : X.stack = X.env :: X.outer) (frm : X.env.frame = some X.env.locals) (nd : X.N.Nodup) (out : Takes X Wout)
    (hb : ∀ (W : WX) (pn : List (Addr × Obj)) (xe : Value → Shared → Prop), Takes (X.tr pn xe) W → PassesOwn (model X.prog X.w) X.A X.env xe → PSs (X.tr pn xe) body (tb W))
    (hh : ClausesOk X (h₀ :: hds) l) : PS X (.Try body (h₀ :: hds) [] [] pos) (fun D σ H => tb (wNamed X.K X.N.length Wout D l) D σ H) := by
  refine ⟨fun pins s σ H D I h => wpAny_Try_except ?_⟩
  have ok := I.ok
  have fr : X.A.frames = some (X.env :: X.outer) := by rw [ok.frames, stk]
  have caught : ∀ (u : Value) (s' : Shared), XE (X.tr (X.pn ++ pins) fun e z => wpAny (model X.prog X.w) X.A (noteFrame e X.env) (fun _ z2 => wpAny (model X.prog X.w) X.A (setFlight e none) (fun _ z3 =>
      wpAny (model X.prog X.w) X.A (handleBy e X.env (h₀ :: hds)) (SP X pins D) X.xe z3) X.xe z2) X.xe z) (wNamed X.K X.N.length Wout D l) u s' →
      wpAny (model X.prog X.w) X.A (noteFrame u X.env) (fun _ z2 => wpAny (model X.prog X.w) X.A (setFlight u none) (fun _ z3 => wpAny (model X.prog X.w) X.A (handleBy u X.env (h₀ :: hds)) (SP X pins D) X.xe z3) X.xe z2) X.xe s' := by
    rintro u s' ⟨a, B, sI, pins', σ1, H1, c, d, rfl, J0, nb, up, sky, na, os, ag, w⟩
    have J : Inv X pins σ1 H1 sI := J0.ofTry ok
    refine Sky.land Zc.steady fr frm (show Sky B (X.env :: X.outer) a (Zc c d) X.env.locals s'.heap by rw [← stk]; exact sky) fun g1 fl1 u1 => ?_
    have J1 : Inv X pins σ1 H1 { s' with heap := g1 } := J.landed nb fl1.1 (up.trans u1) os ag
    obtain ⟨o1, vs1, e1, z1, d1⟩ := fl1.there
    have nfr : a ∉ frs (X.env :: X.outer) := fun hm => by
      obtain ⟨_, o2, e2, no⟩ := fl1.2.2.1.mem hm
      rw [e1] at e2; cases e2
      exact no _ d1
    have nL : a ≠ X.env.locals := fun z => nfr (List.mem_filterMap.mpr ⟨X.env, .head _, by rw [frm, z]⟩)
    have nF : a ∉ X.fs := fun hm => by
      obtain ⟨e, he, q⟩ := List.mem_filterMap.mp hm
      exact nfr (List.mem_filterMap.mpr ⟨e, .tail _ he, q⟩)
    have S1 := J1.suite e1 d1 na nL nF
    have go : ∀ {hs : List ExceptHandler} {ls : List Clause}, ClausesOk X hs ls → wNamed X.K X.N.length Wout D ls c d σ1 H1 → wpAny (model X.prog X.w) X.A (handleBy (.ref a) X.env hs) (SP X pins D) X.xe { s' with heap := g1 } := by
      intro hs ls hk
      induction hk with
      | nil =>
        intro w
        refine wpAny_handleBy_nil ?_
        obtain ⟨_, _, _, o2, vs2, T, oT, ts2, e2, z2, d2, t1, _⟩ := id fl1
        unfold PySem.passOn
        refine wpAny_bind (wpAny_field e2 d2 t1 ?_)
        rw [if_neg (show ¬ (Value.ref T == Value.none) = true from fun z => nomatch z)]
        have last : wpAny (model X.prog X.w) X.A (setFlight (.ref a) X.env.frame) (fun _ z4 => wpAny (model X.prog X.w) X.A (throw (.ref a) : Sem Flow) (SP X pins D) X.xe z4) X.xe { s' with heap := g1 } := by
          rw [frm]
          exact HandSPX.setFlight_upZ fl1 fun g2 h2 u2 => wpAny_throw (out _ _ ⟨a, B, sI, pins, σ1, H1, c, d, rfl, J, nb, (up.trans u1).trans u2, .inr (.inr (by rw [stk]; exact h2)), na, os, ag, w⟩)
        first
          | exact wpAny_bind (wpAny_pure (wpAny_bind last))
          | exact wpAny_bind last
      | @cons x n q b₀ suite np hp hds2 l2 names hi loc run rest ih =>
        rintro ⟨b, hb1, yes, no⟩
        refine wpAny_handleBy_cons (codeAny_handlers_test ?_) (fun z => nomatch z)
        have looks : PySem.W.Looks (model X.prog X.w) g1 (typeOf (.ref a)) c := fun A Q E s k z => wpAny_typeOf_ref (k _ _ e1) (by rw [z1.1]; exact z)
        have tst : ∀ {Q : Value → Shared → Prop} {E : Value → Shared → Prop}, Q q.cls { s' with heap := g1 } → wpAny (model X.prog X.w) (X.A.mark (some (.ref a))) (eval (.Name x np) X.env) Q E { s' with heap := g1 } := fun z => by
          obtain ⟨hg, hdb, hm | ⟨hm, hv, hnn⟩⟩ := names
          · exact ld_glob (X := X.suite a ((a, o1) :: (X.pn ++ pins))) S1 hg hm z hdb
          · exact ld_blt (X := X.suite a ((a, o1) :: (X.pn ++ pins))) S1 hg hm hv z hnn hdb
        refine tst ((PySem.W.exm_one (M := model X.prog X.w) J1.kIn looks hb1).here ?_)
        cases b with
        | false =>
          show wpAny _ X.A (handleBy (.ref a) X.env hds2) _ _ _
          exact ih (no rfl)
        | true =>
          refine codeAny_handlers_suite_as (HandSPX.lands_againZ fl1 fun g2 fl2 u2 => ?_)
          have J2 : Inv X pins σ1 H1 { s' with heap := g2 } := J.landed nb fl2.1 ((up.trans u1).trans u2) os ag
          obtain ⟨o2, vs2, e2, z2, d2⟩ := fl2.there
          refine store_ok (X := X.suite a ((a, o2) :: (X.pn ++ pins))) (v := .ref a) (J2.suite e2 d2 na nL nF) nd hi (show Loc X.env.scope n from .inl loc) rfl (fun s5 S5 => ?_) (.inr loc)
          refine wpAny_mono ((run a o2 c d (X.pn ++ pins) z2 ⟨_, d2⟩).run [] s5 _ H1 _ S5 (yes rfl J2.len a na)) (fun f s6 r6 => ?_) (fun _ _ z => False.elim z)
          have fin : ∀ {σ6 : L2.St} {H6 : Hp} {R : Shared → Prop}, Inv (X.suite a ((a, o2) :: (X.pn ++ pins))) [] σ6 H6 s6 → (∀ s7, Inv X pins (σ6.set q.slot none) H6 s7 → R s7) →
              wpAny (model X.prog X.w) X.A (do bindName X.env n .none; unbindBehindTheSuite X.env n hp) (fun _ s7 => R s7) X.xe s6 := fun S6 r => gone_ok (S6.unsuite ok) nd hi loc r
          cases f with
          | next => obtain ⟨σ6, H6, S6, q6⟩ := r6; exact fin S6 fun s7 J7 => ⟨_, _, J7, q6⟩
          | brk => obtain ⟨σ6, H6, S6, q6⟩ := r6; exact fin S6 fun s7 J7 => ⟨_, _, J7, q6⟩
          | cont => obtain ⟨σ6, H6, S6, q6⟩ := r6; exact fin S6 fun s7 J7 => ⟨_, _, J7, q6⟩
          | ret u => obtain ⟨v6, σ6, H6, S6, v7, q6⟩ := r6; exact fin S6 fun s7 J7 => ⟨_, _, _, J7, v7, q6⟩
    exact go hh w
  refine wpAny_mono ((hb (wNamed X.K X.N.length Wout D l) (X.pn ++ pins) _ (fun u s' xx => caught u s' xx) PassesOwn.looking).run [] s σ H D (I.toTry _) h) (fun f s1 r => ?_) (fun e s1 z => z)
  cases f with
  | next => obtain ⟨σ', H', J', q⟩ := r; exact wpAny_execs_nil ⟨σ', H', J'.ofTry ok, q⟩
  | brk => obtain ⟨σ', H', J', q⟩ := r; exact ⟨σ', H', J'.ofTry ok, q⟩
  | cont => obtain ⟨σ', H', J', q⟩ := r; exact ⟨σ', H', J'.ofTry ok, q⟩
  | ret u => obtain ⟨v, σ', H', J', rv, q⟩ := r; exact ⟨v, σ', H', J'.ofTry ok, rv, q⟩
end
/-- code that is never come to -/
theorem pss_never {X : Cx} {sts : List Stmt} : PSs X sts (fun _ _ _ => False) := ⟨fun _ _ _ _ _ _ h => h.elim⟩
theorem ps_never {X : Cx} {st : Stmt} : PS X st (fun _ _ _ => False) := ⟨fun _ _ _ _ _ _ h => h.elim⟩
theorem pe_never {X : Cx} {e : Expr} : PE X e (fun _ _ _ => False) := ⟨fun _ _ _ _ _ _ h => h.elim⟩
end Ag

set_option Elab.async false
set_option linter.all false
set_option maxRecDepth 100000
set_option maxHeartbeats 1000000
/-! Comprehensions over data, statements over data. -/
namespace Ag
open PySem PySem.Spec PyProof.Rows L2
/-- a walk that hands out the data ds, as long as what stood at H stands -/
structure Wk (K : PySem.W.Frag) (F : Addr → Prop) (H : Hp) (J : It) (ds : List PyData) : Prop where
  go : ∀ i H', SameF F H H' → i < ds.length → J.go i H'
  stop : ∀ H', SameF F H H' → J.stop ds.length H'
  yld : ∀ i H' x H'', i < ds.length → SameF F H H' → J.yld i H' x H'' → ∃ d, ds[i]? = some d ∧ Same H' H'' ∧ Df K (fun a => F a ∧ H a ≠ none) H'' x d
def EI (K : PySem.W.Frag) (wi : TI) (σ : L2.St) (F : Addr → Prop) (H : Hp) (ds : List PyData) : Prop := ∀ H1, Same H H1 → ∀ R : It → Hp → Prop, (∀ J H2, Same H1 H2 → Wk K (Fr F H1) H2 J ds → R J H2) → wi σ H1 R
section
variable {K : PySem.W.Frag} {σ : L2.St} {F : Addr → Prop} {H : Hp} {te tl : TE} {ds : List PyData}
theorem slF {a : Addr} {xs : List V} {H' : Hp} (s : SameF F H H') (h : (Rd H a (.lst xs) ∧ F a) ∨ KL K a xs) : SqL K H' a xs := h.imp (fun z => rd_lstF s z.1 z.2) id
theorem wk_list {a : Addr} {xs : List V} (h : (Rd H a (.lst xs) ∧ F a) ∨ KL K a xs) (r : DfAll K F H xs ds) : Wk K F H (Itl K a) ds where
  go := fun i H' s hi => by
    obtain ⟨d, e⟩ : ∃ d, ds[i]? = some d := ⟨_, List.getElem?_eq_getElem hi⟩
    obtain ⟨v, q, _⟩ := dfs_get r e
    exact ⟨xs, v, slF s h, q⟩
  stop := fun H' s => ⟨xs, slF s h, by rw [dfs_len r]; exact Nat.le_refl _⟩
  yld := fun i H' x H'' _ s y => by
    obtain ⟨rfl, y⟩ := y
    obtain ⟨d, e, hd⟩ := dfs_get' (dfs_monoF (s.sub fun _ z => z.1) (dfs_in r)) (y xs (slF s h))
    exact ⟨d, e, Same.refl _, hd⟩
theorem wk_tup {a : Addr} {xs : List V} (h : SqT K H a xs) (r : DfAll K F H xs ds) : Wk K F H (Itt K a) ds where
  go := fun i H' s hi => by
    obtain ⟨d, e⟩ : ∃ d, ds[i]? = some d := ⟨_, List.getElem?_eq_getElem hi⟩
    obtain ⟨v, q, _⟩ := dfs_get r e
    exact ⟨xs, v, sqt_F s h, q⟩
  stop := fun H' s => ⟨xs, sqt_F s h, by rw [dfs_len r]; exact Nat.le_refl _⟩
  yld := fun i H' x H'' _ s y => by
    obtain ⟨rfl, y⟩ := y
    obtain ⟨d, e, hd⟩ := dfs_get' (dfs_monoF (s.sub fun _ z => z.1) (dfs_in r)) (y xs (sqt_F s h))
    exact ⟨d, e, Same.refl _, hd⟩
theorem ei_list (h : ED K tl σ F H (.list ds)) : EI K (iList K tl) σ F H ds := fun H1 s R q => h H1 s _ fun v H2 s2 hv => by
  cases hv with
  | lst hs r => exact ⟨_, rfl, ⟨_, hs.imp (fun z => z.1) id⟩, q _ H2 s2 (wk_list hs r)⟩
theorem ei_tup (h : ED K tl σ F H (.tuple ds)) : EI K (iTup K tl) σ F H ds := fun H1 s R q => h H1 s _ fun v H2 s2 hv => by
  cases hv with
  | tup hs r => exact ⟨_, rfl, ⟨_, hs⟩, q _ H2 s2 (wk_tup hs r)⟩
def signs (x : Str) : List PyData := x.cps.toList.map fun c => .str ⟨#[c]⟩
theorem ei_str {x : Str} (h : ED K te σ F H (.str x)) : EI K (iStr te) σ F H (signs x) := fun H1 s R q => h H1 s _ fun v H2 s2 hv => by
  cases hv
  refine ⟨x, rfl, q _ H2 s2 ⟨fun i H' _ hi => ?_, fun H' _ => ?_, fun i H' y H'' _ _ z => ?_⟩⟩
  · show i < x.cps.size
    rw [← Array.length_toList]; unfold signs at hi; rw [List.length_map] at hi; exact hi
  · show x.cps.size ≤ (signs x).length
    unfold signs; rw [List.length_map, Array.length_toList]; exact Nat.le_refl _
  · obtain ⟨rfl, c, e, rfl⟩ := z
    refine ⟨.str ⟨#[c]⟩, ?_, Same.refl _, .str _⟩
    unfold signs
    rw [List.getElem?_map, Array.getElem?_toList, e]; rfl
/-- the numbers below n -/
def nums (n : Nat) : List PyData := (List.range n).map fun i => .int (i : Nat)
theorem ei_range {n : Nat} (h : ED K te σ F H (.int (n : Nat))) (hn : n ≤ 100000) : EI K (iRng1 (tCons te tNil)) σ F H (nums n) := fun H1 s R q => h H1 s _ fun v H2 s2 hv => by
  cases hv
  refine ⟨_, rfl, by omega, by omega, q _ H2 s2 ⟨fun i H' _ hi => ?_, fun H' _ => ?_, fun i H' y H'' hi _ z => ?_⟩⟩
  · show i < ((n : Int)).toNat
    unfold nums at hi; rw [List.length_map, List.length_range] at hi; omega
  · show ((n : Int)).toNat ≤ (nums n).length
    unfold nums; rw [List.length_map, List.length_range]; omega
  · obtain ⟨rfl, rfl⟩ := z
    unfold nums at hi; rw [List.length_map, List.length_range] at hi
    refine ⟨.int (i : Nat), ?_, Same.refl _, by rw [Int.zero_add]; exact .int _⟩
    unfold nums; rw [List.getElem?_map, List.getElem?_range hi]; rfl
def zipD (xs ys : List PyData) : List PyData := List.zipWith (fun a b => .tuple [a, b]) xs ys
theorem ei_zip {ta : TA} {xs ys : List PyData} (h : EA K ta σ F H [.tuple xs, .tuple ys]) : EI K (RZ.iZipA K ta) σ F H (zipD xs ys) := fun H1 s R q => h H1 s _ fun vs H2 s2 hv => by
  cases hv with
  | cons a r =>
    cases r with
    | cons b r =>
      cases r
      cases a with
      | tup ha ra =>
        cases b with
        | tup hb rb =>
          refine ⟨_, _, _, _, rfl, .inr ⟨ha, hb, q _ H2 s2 ⟨fun i H' s3 hi => ?_, fun H' s3 => ?_, fun i H' y H'' _ s3 z => ?_⟩⟩⟩
          · have hi' : i < xs.length ∧ i < ys.length := by
              unfold zipD at hi; rw [List.length_zipWith] at hi; omega
            obtain ⟨v, e, _⟩ := dfs_get ra (List.getElem?_eq_getElem hi'.1)
            obtain ⟨v2, e2, _⟩ := dfs_get rb (List.getElem?_eq_getElem hi'.2)
            exact ⟨_, _, v, v2, sqt_F s3 ha, sqt_F s3 hb, e, e2⟩
          · refine ⟨_, _, sqt_F s3 ha, sqt_F s3 hb, ?_⟩
            unfold zipD; rw [List.length_zipWith, dfs_len ra, dfs_len rb]; omega
          · obtain ⟨T, x, x2, rfl, hT, rfl, e1, e2⟩ := z
            obtain ⟨d, q1, hd⟩ := dfs_get' (dfs_in ra) (e1 _ (sqt_F s3 ha))
            obtain ⟨d2, q2, hd2⟩ := dfs_get' (dfs_in rb) (e2 _ (sqt_F s3 hb))
            refine ⟨.tuple [d, d2], ?_, Same.newA hT, .tup (.of upd_same) (.cons (df_mono (Same.newA hT) (fun _ z => z) (df_monoF (s3.sub fun _ z => z.1) hd)) (.cons (df_mono (Same.newA hT) (fun _ z => z) (df_monoF (s3.sub fun _ z => z.1) hd2)) .nil))⟩
            unfold zipD; rw [List.getElem?_zipWith, q1, q2]
/-- a comprehension over data: the list made -/
theorem lc_run {wi : TI} {g : TG} {tt : TT} {vs : List Nat} {f : PyData → Bool} {m : PyData → PyData} (hi : EI K wi σ F H ds) (hl : ds.length ≤ 50000)
    (ht : ∀ F2 H1, Ext F H F2 H1 → ∀ v d, d ∈ ds → Df K F2 H1 v d → ∃ σ2, (∀ Q : L2.St → Hp → Prop, Q σ2 H1 → g v (wipe σ vs) H1 Q) ∧ wipe σ2 vs = wipe σ vs ∧ ET tt σ2 H1 (f d) ∧ (f d = true → ED K te σ2 F2 H1 (m d))) :
    ∀ H1, Same H H1 → ∀ Q : VK, (∀ D ys H', Same H1 H' → H1 D = none → H' D = some (.lst ys) → DfAll K (fun a => Fr F H1 a ∧ a ≠ D) H' ys ((ds.filter f).map m) → Q (.ref D) H') → tLc wi g tt te vs σ H1 Q := fun H1 s Q q => hi H1 s _ fun J H2 s2 W D hD => by
  have out : ∀ i, i ≤ ds.length → (((ds.take i).filter f).map m).length < 100000 := fun i hi => by
    rw [List.length_map]
    have := List.length_filter_le f (ds.take i)
    rw [List.length_take] at this
    omega
  have hD1 : H1 D = none := s2.freshA hD
  -- what items may be: lists not at D
  let F2 : Addr → Prop := fun a => Fr F H1 a ∧ a ≠ D
  have nF : ¬ F2 D := fun z => z.2 rfl
  refine ⟨fun i k H' => k = ds.length - i ∧ i ≤ ds.length ∧ Same H2 H' ∧ ∃ ys, H' D = some (.lst ys) ∧ DfAll K F2 H' ys (((ds.take i).filter f).map m), ⟨ds.length, by simp, Nat.zero_le _, Same.newA hD, [], upd_same, by simp; exact .nil⟩, ?_⟩
  rintro i k H' ⟨rfl, hi, s3, ys, e, r⟩
  by_cases lt : i < ds.length
  · refine .inr ⟨W.go i H' s3.F lt, fun H5 => Same H2 H5 ∧ ∃ ys, H5 D = some (.lst ys) ∧ DfAll K F2 H5 ys (((ds.take (i + 1)).filter f).map m), fun H5 ⟨a, b⟩ => ⟨ds.length - (i + 1), by omega, rfl, lt, a, b⟩, fun x H3 y => ?_⟩
    obtain ⟨d, hd, s4, hx⟩ := W.yld i H' x H3 lt s3.F y
    have hx2 : Df K F2 H3 x d := df_mono (Same.refl _) (fun a z => ⟨z.1, fun q => z.2 (q ▸ hD)⟩) hx
    obtain ⟨σ2, hg, hw, htt, hte⟩ := ht F2 H3 ⟨(((s.trans s2).trans s3).trans s4).F, fun a z n => ⟨.inl z, fun q => n (s.freshA (q ▸ hD1))⟩⟩ x d (List.mem_of_getElem? hd) hx2
    have tk : ds.take (i + 1) = ds.take i ++ [d] := by rw [List.take_succ, hd]; rfl
    refine hg _ ⟨hw, htt H3 (Same.refl _) _ fun H4 s5 => ?_⟩
    cases hf : f d with
    | true =>
      refine hte hf H4 s5 _ fun v H5 s6 hv => ?_
      have e4 : H4 D = some (.lst ys) := s5 _ _ (s4 _ _ e)
      have e5 : H5 D = some (.lst ys) := s6 _ _ e4
      have s45 := (s4.trans s5).trans s6
      have r5 : DfAll K F2 H5 ys (((ds.take i).filter f).map m) := dfs_mono s45 (fun _ z => z) r
      have v5 : Df K F2 H5 v (m d) := df_mono (Same.refl _) (fun a z => by
        rcases z with z | z
        · exact z
        · exact ⟨.inr (s2.freshA (s3.freshA ((s4.trans s5).freshA z))), fun q => by rw [q, e4] at z; cases z⟩) hv
      refine ⟨ys, e5, lt5 (by rw [dfs_len r5]; exact out i hi), fun a u h => ?_, ys ++ [v], upd_same, ?_⟩
      · rw [upd_ne (ne_of_none h hD)]; exact s45 _ _ (s3 _ _ h)
      · rw [tk, List.filter_append, List.map_append]
        have e1 : ([d].filter f).map m = [m d] := by simp [hf]
        rw [e1]
        exact dfs_app (dfs_upd e5 nF r5) (.cons (df_upd e5 nF v5) .nil)
    | false =>
      refine ⟨fun a u h => s5 _ _ (s4 _ _ (s3 _ _ h)), ys, s5 _ _ (s4 _ _ e), ?_⟩
      rw [tk, List.filter_append, List.map_append]
      have e1 : ([d].filter f).map m = [] := by simp [hf]
      rw [e1, List.append_nil]
      exact dfs_mono (s4.trans s5) (fun _ z => z) r
  · have : i = ds.length := by omega
    subst this
    refine .inl ⟨W.stop H' s3.F, q D ys H' (s2.trans s3) hD1 e ?_⟩
    rw [List.take_length] at r; exact r
/-- a comprehension over data -/
theorem ed_lc {wi : TI} {g : TG} {tt : TT} {vs : List Nat} {f : PyData → Bool} {m : PyData → PyData} (hi : EI K wi σ F H ds) (hl : ds.length ≤ 50000)
    (ht : ∀ F2 H1, Ext F H F2 H1 → ∀ v d, d ∈ ds → Df K F2 H1 v d → ∃ σ2, (∀ Q : L2.St → Hp → Prop, Q σ2 H1 → g v (wipe σ vs) H1 Q) ∧ wipe σ2 vs = wipe σ vs ∧ ET tt σ2 H1 (f d) ∧ (f d = true → ED K te σ2 F2 H1 (m d))) :
    ED K (tLc wi g tt te vs) σ F H (.list ((ds.filter f).map m)) := fun H1 s Q q => lc_run hi hl ht H1 s Q fun D ys H' s2 n e r => q _ _ s2 (.lst (.inl ⟨.inl e, .inr n⟩) (dfs_mono (Same.refl _) (fun _ z => z.1) r))
theorem et_yes : ET tYes σ H true := fun H1 _ _ q => q H1 (Same.refl _)
end
/-! ### statements over data -/
section
variable {K : PySem.W.Frag} {σ : L2.St} {F : Addr → Prop} {H : Hp} {te ta tb : TE} {t : TT} {d e : PyData} {D : Ends} {tu tw : TS}
theorem s_ret (h : ED K te σ F H d) (k : ∀ v H1, Same H H1 → Df K (Fr F H) H1 v d → D.rt v H1) : tRet te D σ H := h H (Same.refl _) _ k
theorem s_set {i : Nat} (h : ED K te σ F H d) (k : ∀ v H1, Same H H1 → Df K (Fr F H) H1 v d → D.nx (σ.set i (some v)) H1) : tAsg te (gName i) D σ H := h H (Same.refl _) _ k
theorem s_if {b : Bool} (h : ET t σ H b) (h1 : b = true → ∀ H1, Same H H1 → tu D σ H1) (h2 : b = false → ∀ H1, Same H H1 → tw D σ H1) : tIfS t tu tw D σ H := h H (Same.refl _) _ fun H1 s => by
  cases b with
  | true => exact h1 rfl H1 s
  | false => exact h2 rfl H1 s
theorem ed_notInS {c : Nat} {z : Str} (ha : ED K ta σ F H (.str ⟨#[c]⟩)) (hb : ED K tb σ F H (.str z)) :
    ED K (tOp (fun x y H Q => ∃ (c : Nat) (z : Str), x = .str ⟨#[c]⟩ ∧ y = .str z ∧ Q (.bl (!decide (c ∈ z.cps.toList))) H) ta tb) σ F H (.bool (!decide (c ∈ z.cps.toList))) :=
  ed_op ha hb fun F a b H1 hx hy Q q => by
    cases hx; cases hy; exact ⟨c, z, rfl, rfl, q _ _ (Same.refl _) (.bl _)⟩
theorem ed_inS {c : Nat} {z : Str} (ha : ED K ta σ F H (.str ⟨#[c]⟩)) (hb : ED K tb σ F H (.str z)) :
    ED K (tOp (fun x y H Q => ∃ (c : Nat) (z : Str), x = .str ⟨#[c]⟩ ∧ y = .str z ∧ Q (.bl (decide (c ∈ z.cps.toList))) H) ta tb) σ F H (.bool (decide (c ∈ z.cps.toList))) :=
  ed_op ha hb fun F a b H1 hx hy Q q => by
    cases hx; cases hy; exact ⟨c, z, rfl, rfl, q _ _ (Same.refl _) (.bl _)⟩
end
end Ag

set_option Elab.async false
set_option linter.all false
set_option maxRecDepth 100000
set_option maxHeartbeats 1000000
/-! More rules over data: x is True, in of texts, slices and sums of tuples, list.extend of a tuple. -/
namespace Ag
open PySem PySem.Spec PyProof.Rows L2
/-- a value of data -/
def isDat : V → Bool | .non | .bl _ | .int _ | .str _ | .ref _ => true | _ => false
def rIsX (neg : Bool) : R2 := fun x y H Q => ∃ b, y = .bl b ∧ isDat x = true ∧ Q (.bl (if neg then !decide (x = .bl b) else decide (x = .bl b))) H
theorem is_dat {v : Value} {x : V} {b : Bool} (r : RelV x v) (h : isDat x = true) : plainIs v (.bool b) = true ∧ (v == Value.bool b) = decide (x = .bl b) := by
  cases x with
  | non => cases r; exact ⟨rfl, by rw [decide_eq_false (fun z => nomatch z)]; rfl⟩
  | bl c => cases r; exact ⟨rfl, by cases c <;> cases b <;> decide⟩
  | int i => obtain ⟨t, rfl⟩ := r; exact ⟨rfl, by rw [decide_eq_false (fun z => nomatch z)]; rfl⟩
  | str i => obtain ⟨t, rfl⟩ := r; exact ⟨rfl, by rw [decide_eq_false (fun z => nomatch z)]; rfl⟩
  | ref a => cases r; exact ⟨rfl, by rw [decide_eq_false (fun z => nomatch z)]; rfl⟩
  | _ => cases h
theorem op_isB {X : Cx} : OpR X (compareOp .Is) (rIsX false) := by
  intro pins s σ H x y v u Q I rx ry h
  obtain ⟨b, rfl, hd, q⟩ := h
  cases (show u = Value.bool b from ry)
  obtain ⟨h1, h2⟩ := is_dat (b := b) rx hd
  exact wpAny_is_plain h1 ⟨.bl _, H, I, rfl, by rw [h2]; exact q⟩
theorem op_isnotB {X : Cx} : OpR X (compareOp .IsNot) (rIsX true) := by
  intro pins s σ H x y v u Q I rx ry h
  obtain ⟨b, rfl, hd, q⟩ := h
  cases (show u = Value.bool b from ry)
  obtain ⟨h1, h2⟩ := is_dat (b := b) rx hd
  exact wpAny_isNot_plain h1 ⟨.bl _, H, I, rfl, by rw [h2]; exact q⟩
end Ag
namespace PySem.AutoSeq1
open PySem PySem.Spec PyProof.Rows
set_option maxRecDepth 8000 in
theorem list_extend_tup (l : Addr) (items : Array Value) (n : Nat) (b : Addr) (items2 : Array Value) (n2 : Nat) (dd : Option Addr) (sl : Array (Option Value)) (hs0 : ¬(!items.isEmpty && Builtin.List.listTooLong (items.size + items2.size)) = true) (hs1 : items.size ≤ sizeLine) (hs2 : items.size + items2.size ≤ sizeLine + 1) :
    Meets (Builtin.«list.extend» ⟨[.ref l, .ref b], []⟩) (fun _ R s => s.heap.get? l = some { cls := .type "list", dict := none, data := .seq items n, slots := #[] } ∧ s.heap.get? b = some { cls := .type "tuple", dict := dd, data := .seq items2 n2, slots := sl } ∧ R (.ok (.ret Value.none)) { s with heap := s.heap.update l (Obj.mapSeq fun x => x ++ items2), toks := s.toks }) :=
  .of_wp fun prog w A R s h => by
    obtain ⟨hp, g, d, tk, os⟩ := s; obtain ⟨hl, hb, h⟩ := h; have f1 := idx_int; have f2 := sub_tuple_tuple; have f3 := sub_list_list; have f4 := sub_tuple_list; have f5 := sub_list_tuple;
    have hz' : (items ++ items2).size ≤ sizeLine + 1 := by rw [Array.size_append]; exact hs2
    wp_walk using (wpAny_updateSeq hl rfl (hz := hs1) (_hz' := hz')), wpAny_loadPart' hl, wpAny_loadPart' hb; exact ⟨_, rfl, h⟩
end PySem.AutoSeq1
namespace Ag
open PySem PySem.Spec PyProof.Rows L2
/-- l.extend(tuple) -/
def rExtendT (K : PySem.W.Frag) : V → List V → Hp → VK → Prop := fun x vs H Q => ∃ l b xs zs, x = .ref l ∧ vs = [.ref b] ∧ H l = some (.lst xs) ∧ SqT K H b zs ∧ xs.length + zs.length ≤ sizeLine ∧ Q .non (upd H l (.lst (xs ++ zs)))
theorem mt_extendT {X : Cx} : MtM X "list.extend" (rExtendT X.K) := by
  intro pins s σ H x vs v us Q I rx rv h
  obtain ⟨l, b, xs, zs, rfl, rfl, hH, hB, hz, q⟩ := h
  cases rx
  obtain ⟨u, rfl, ru⟩ := rv.one
  cases ru
  obtain ⟨z, its, n, r, hl, e⟩ := I.lstM hH
  obtain ⟨its2, r2, ⟨⟨oc, od, odt, osl⟩, e2, ec, n2, ed⟩, hz2⟩ := I.tuple hB
  simp only at ec ed
  subst ec ed
  have hl2 := r2.length
  have hsz : its.toArray.size + its2.toArray.size ≤ sizeLine := by rw [List.size_toArray, List.size_toArray]; omega
  have hlong : ¬ (!its.toArray.isEmpty && Builtin.List.listTooLong (its.toArray.size + its2.toArray.size)) = true := by
    rw [notLongL hsz, Bool.and_false]
    exact Bool.false_ne_true
  refine call_meets F.slot_list_extend ⟨_, e, rfl⟩ F.entry_list_extend (F.args_list_extend_2 _ _)
    (PySem.AutoSeq1.list_extend_tup l its.toArray n b its2.toArray n2 od osl hlong (by rw [List.size_toArray]; omega) (by omega)) ⟨e, e2, ?_⟩
  refine ⟨.non, _, I.lset (its' := its ++ its2) hH e (by simp) (r.append r2) ?_, rfl, q⟩
  rw [List.length_append]
  omega

section
variable {K : PySem.W.Frag} {σ : L2.St} {F : Addr → Prop} {H : Hp} {te ta tb : TE} {d e : PyData}
theorem df_isDat {x : V} (h : Df K F H x d) : isDat x = true := by cases h <;> rfl
def isB (b : Bool) : PyData → Bool | .bool c => c == b | _ => false
theorem isB_of {b : Bool} {x : V} (h : Df K F H x d) : decide (x = .bl b) = isB b d := by
  cases h with
  | bl c => cases c <;> cases b <;> decide
  | _ => exact decide_eq_false (fun z => nomatch z)
theorem ed_isB {b : Bool} (ha : ED K ta σ F H d) : ED K (tOp (rIsX false) ta (tC (.bl b))) σ F H (.bool (isB b d)) :=
  ed_op ha ed_bl fun F x y H1 hx hy Q q => by
    cases hy; refine ⟨b, rfl, df_isDat hx, ?_⟩
    show Q (.bl (decide (x = .bl b))) H1
    rw [isB_of hx]; exact q _ _ (Same.refl _) (.bl _)
theorem ed_isnotB {b : Bool} (ha : ED K ta σ F H d) : ED K (tOp (rIsX true) ta (tC (.bl b))) σ F H (.bool (!isB b d)) :=
  ed_op ha ed_bl fun F x y H1 hx hy Q q => by
    cases hy; refine ⟨b, rfl, df_isDat hx, ?_⟩
    show Q (.bl (!decide (x = .bl b))) H1
    rw [isB_of hx]; exact q _ _ (Same.refl _) (.bl _)
theorem inV_strs (x : Str) : ∀ (xs : List Str), inV (.str x) (xs.map V.str) = decide (x ∈ xs)
  | [] => rfl
  | y :: ys => by
    have ih := inV_strs x ys
    unfold inV at ih ⊢
    rw [List.map_cons, List.any_cons, ih]
    have e : eqV (.str y) (.str x) = decide (y = x) := rfl
    rw [e]
    by_cases h : x = y
    · subst h; simp
    · have h' : ¬ y = x := fun q => h q.symm
      simp [h, h']
theorem flat_strs : ∀ (xs : List Str), (xs.map V.str).all flatV = true
  | [] => rfl
  | y :: ys => by rw [List.map_cons, List.all_cons, flat_strs ys]; rfl
theorem ed_inSeq {x : Str} {xs : List Str} (ha : ED K ta σ F H (.str x)) (hb : ED K tb σ F H e) (he : e = .tuple (xs.map .str) ∨ e = .list (xs.map .str)) : ED K (tOp (rIn K false) ta tb) σ F H (.bool (decide (x ∈ xs))) :=
  ed_op ha hb fun F a b H1 hx hy Q q => by
    cases hx
    have h : ∃ p, b = .ref p ∧ (SqL K H1 p (xs.map V.str) ∨ SqT K H1 p (xs.map V.str)) := by
      rcases he with rfl | rfl
      · cases hy with
        | tup h r => rw [strs_dps (dfs_dps r)] at h; exact ⟨_, rfl, .inr h⟩
      · cases hy with
        | lst h r => rw [strs_dps (dfs_dps r)] at h; exact ⟨_, rfl, .inl (h.imp (fun z => z.1) id)⟩
    obtain ⟨p, rfl, h⟩ := h
    refine ⟨p, _, rfl, h, rfl, flat_strs xs, ?_⟩
    show Q (.bl (inV (.str x) (xs.map V.str))) H1
    rw [inV_strs]; exact q _ _ (Same.refl _) (.bl _)
theorem ed_notInSeq {x : Str} {xs : List Str} (ha : ED K ta σ F H (.str x)) (hb : ED K tb σ F H e) (he : e = .tuple (xs.map .str) ∨ e = .list (xs.map .str)) : ED K (tOp (rIn K true) ta tb) σ F H (.bool (!decide (x ∈ xs))) :=
  ed_op ha hb fun F a b H1 hx hy Q q => by
    cases hx
    have h : ∃ p, b = .ref p ∧ (SqL K H1 p (xs.map V.str) ∨ SqT K H1 p (xs.map V.str)) := by
      rcases he with rfl | rfl
      · cases hy with
        | tup h r => rw [strs_dps (dfs_dps r)] at h; exact ⟨_, rfl, .inr h⟩
      · cases hy with
        | lst h r => rw [strs_dps (dfs_dps r)] at h; exact ⟨_, rfl, .inl (h.imp (fun z => z.1) id)⟩
    obtain ⟨p, rfl, h⟩ := h
    refine ⟨p, _, rfl, h, rfl, flat_strs xs, ?_⟩
    show Q (.bl (!inV (.str x) (xs.map V.str))) H1
    rw [inV_strs]; exact q _ _ (Same.refl _) (.bl _)
theorem ed_catT {xs ys : List PyData} (ha : ED K ta σ F H (.tuple xs)) (hb : ED K tb σ F H (.tuple ys)) (hl : xs.length + ys.length ≤ 100000) : ED K (tOp (rCatA K) ta tb) σ F H (.tuple (xs ++ ys)) :=
  ed_op ha hb fun F a b H1 hx hy Q q => by
    cases hx with
    | tup h r =>
      cases hy with
      | tup h2 r2 =>
        refine ⟨_, _, _, _, rfl, rfl, h, h2, by rw [dfs_len r, dfs_len r2]; exact small5 hl, fun z => ?_, fun _ z => ?_, fun _ _ p hp => ?_⟩
        · subst z; cases r; exact q _ _ (Same.refl _) (.tup h2 (dfs_mono (Same.refl _) (fun _ z => .inl z) r2))
        · subst z; cases r2; exact q _ _ (Same.refl _) (by rw [List.append_nil]; exact .tup h (dfs_mono (Same.refl _) (fun _ z => .inl z) r))
        · exact q _ _ (Same.newA hp) (.tup (.of upd_same) (dfs_mono (Same.newA hp) (fun _ z => .inl z) (dfs_app r r2)))
def cutD (xs : List PyData) (lo hi : Option Int) : List PyData := (xs.drop (HT.sIx xs.length 0 lo)).take (HT.sIx xs.length xs.length hi - HT.sIx xs.length 0 lo)
theorem dfs_cut {vs : List V} {ds : List PyData} {lo hi : Option Int} (h : DfAll K F H vs ds) : DfAll K F H (cutV vs lo hi) (cutD ds lo hi) := by
  unfold cutV cutD; rw [dfs_len h]; exact dfs_take _ (dfs_drop _ h)
theorem cutD_all {ds : List PyData} {lo hi : Option Int} (h : HT.sIx ds.length 0 lo = 0 ∧ HT.sIx ds.length ds.length hi = ds.length) : cutD ds lo hi = ds := by
  unfold cutD; rw [h.1, h.2, List.drop_zero, Nat.sub_zero, List.take_length]
theorem eo_none : EO tNoPart σ H none := fun H1 s Q q => q H1 (Same.refl _)
theorem eo_some {i : Int} (h : ED K te σ F H (.int i)) : EO (tPart te) σ H (some i) := fun H1 s Q q => h H1 s _ fun v H2 s2 hv => by
  cases hv; exact ⟨i, rfl, q H2 s2⟩
theorem ed_slT {xs : List PyData} {tl th : TO} {lo hi : Option Int} (h : ED K te σ F H (.tuple xs)) (hl : EO tl σ H lo) (hh : EO th σ H hi) : ED K (tSl (rSlA K) te tl th) σ F H (.tuple (cutD xs lo hi)) := fun H1 s Q q =>
  h H1 s _ fun v H2 s2 hv => hl H2 (s.trans s2) _ fun H3 s3 => hh H3 ((s.trans s2).trans s3) _ fun H4 s4 => by
    cases hv with
    | tup ht r =>
      have s34 := s3.trans s4
      have s24 := s2.trans s34
      refine ⟨_, _, rfl, s34.stA ht, fun z => ?_, fun _ p hp => ?_⟩
      · rw [dfs_len r] at z
        exact q _ _ s24 (by rw [cutD_all z]; exact .tup (s34.stA ht) (dfs_mono s34 (fun _ z => z) r))
      · exact q _ _ (s24.trans (Same.newA hp)) (.tup (.of upd_same) (dfs_mono (s34.trans (Same.newA hp)) (fun _ z => z) (dfs_cut r)))
theorem ed_slL {xs : List PyData} {tl th : TO} {lo hi : Option Int} (h : ED K te σ F H (.list xs)) (hl : EO tl σ H lo) (hh : EO th σ H hi) : ED K (tSl (rSlL K) te tl th) σ F H (.list (cutD xs lo hi)) := fun H1 s Q q =>
  h H1 s _ fun v H2 s2 hv => hl H2 (s.trans s2) _ fun H3 s3 => hh H3 ((s.trans s2).trans s3) _ fun H4 s4 => by
    cases hv with
    | lst ht r =>
      have s34 := s3.trans s4
      have s24 := s2.trans s34
      refine ⟨_, _, rfl, s34.slA (ht.imp (fun z => z.1) id), fun p hp => ?_⟩
      exact q _ _ (s24.trans (Same.newA hp)) (.lst (.inl ⟨.inl upd_same, .inr (s24.freshA hp)⟩) (dfs_mono (s34.trans (Same.newA hp)) (fun _ z => z) (dfs_cut r)))
theorem filt_tt {α : Type} (l : List α) : l.filter (fun _ => true) = l := List.filter_eq_self.mpr fun _ _ => rfl
end
end Ag

set_option Elab.async false
set_option linter.all false
set_option maxRecDepth 100000
set_option maxHeartbeats 1000000
/-! A list beside the empty list, whatever its depth. -/
namespace Ag
open PySem PySem.Spec PyProof.Rows L2
def rNeE (K : PySem.W.Frag) : R2 := fun x y H Q => ∃ ds, Dp K H x (.list ds) ∧ Dp K H y (.list []) ∧ PyData.canLayAll0 ds = true ∧ Q (.bl (!ds.isEmpty)) H
def rEqE (K : PySem.W.Frag) : R2 := fun x y H Q => ∃ ds, Dp K H x (.list ds) ∧ Dp K H y (.list []) ∧ PyData.canLayAll0 ds = true ∧ Q (.bl ds.isEmpty) H
theorem eqv_empty : ∀ (ds : List PyData), PyData.eqv (.list ds) (.list []) = ds.isEmpty
  | [] => by simp [PyData.eqv, PyData.eqvAll]
  | _ :: _ => by simp [PyData.eqv, PyData.eqvAll]
theorem room_empty {A : Around} {d : PyData} (hu : A.units + 64 < cLine) : A.units + min d.depth (PyData.list []).depth < cLine := by
  have h : (PyData.list []).depth ≤ 64 := by decide
  have h2 : min d.depth (PyData.list []).depth ≤ (PyData.list []).depth := Nat.min_le_right _ _
  omega
theorem op_neE {X : Cx} (hu : X.A.units + 64 < cLine) : OpR X (compareOp .NotEq) (rNeE X.K) := by
  intro pins s σ H x y v u Q I rx ry h
  obtain ⟨ds, hd, he, sd, q⟩ := h
  obtain ⟨as, r1⟩ := Dp.reads I (.list ds) x v hd rx
  obtain ⟨bs, r2⟩ := Dp.reads I (.list []) y u he ry
  exact SeqAt.compareNe_reads r1 r2 (by simpa [PyData.canLay0] using sd) (by simp [PyData.canLay0, PyData.canLayAll0]) (room_empty hu) ⟨.bl _, H, I, rfl, by rw [eqv_empty]; exact q⟩
theorem op_eqE {X : Cx} (hu : X.A.units + 64 < cLine) : OpR X (compareOp .Eq) (rEqE X.K) := by
  intro pins s σ H x y v u Q I rx ry h
  obtain ⟨ds, hd, he, sd, q⟩ := h
  obtain ⟨as, r1⟩ := Dp.reads I (.list ds) x v hd rx
  obtain ⟨bs, r2⟩ := Dp.reads I (.list []) y u he ry
  exact SeqAt.compareEq_reads r1 r2 (by simpa [PyData.canLay0] using sd) (by simp [PyData.canLay0, PyData.canLayAll0]) (room_empty hu) ⟨.bl _, H, I, rfl, by rw [eqv_empty]; exact q⟩
section
variable {K : PySem.W.Frag} {σ : L2.St} {F : Addr → Prop} {H : Hp} {te ta tb : TE} {ds : List PyData}
theorem ed_neE (ha : ED K ta σ F H (.list ds)) (hb : ED K tb σ F H (.list [])) (hl : PyData.canLayAll0 ds = true) : ED K (tOp (rNeE K) ta tb) σ F H (.bool (!ds.isEmpty)) :=
  ed_op ha hb fun F a b H1 hx hy Q q => ⟨ds, df_dp hx, df_dp hy, hl, q _ _ (Same.refl _) (.bl _)⟩
theorem ed_eqE (ha : ED K ta σ F H (.list ds)) (hb : ED K tb σ F H (.list [])) (hl : PyData.canLayAll0 ds = true) : ED K (tOp (rEqE K) ta tb) σ F H (.bool ds.isEmpty) :=
  ed_op ha hb fun F a b H1 hx hy Q q => ⟨ds, df_dp hx, df_dp hy, hl, q _ _ (Same.refl _) (.bl _)⟩
theorem ed_emp : ED K (tLst tNil) σ F H (.list []) := ed_lst ea_nil (by decide)
/-- a comprehension of two clauses over data: the list made -/
theorem lc2_run {wi wi1 : TI} {g g1 : TG} {tt tt1 : TT} {vs vs1 : List Nat} {es : PyData → List PyData} {m : PyData → PyData} (hi : EI K wi σ F H ds) (hl : (ds.flatMap es).length ≤ 50000)
    (ht : ∀ F2 H1, Ext F H F2 H1 → ∀ v d, d ∈ ds → Df K F2 H1 v d → ∃ σ2, (∀ Q : L2.St → Hp → Prop, Q σ2 H1 → g v (wipe σ vs) H1 Q) ∧ wipe σ2 vs = wipe σ vs ∧ ET tt σ2 H1 true ∧ EI K wi1 σ2 F2 H1 (es d) ∧
      ∀ F3 H2, Ext F2 H1 F3 H2 → ∀ v2 d2, d2 ∈ es d → Df K F3 H2 v2 d2 → ∃ σ3, (∀ Q : L2.St → Hp → Prop, Q σ3 H2 → g1 v2 (wipe σ2 vs1) H2 Q) ∧ wipe σ3 vs1 = wipe σ2 vs1 ∧ ET tt1 σ3 H2 true ∧ ED K te σ3 F3 H2 (m d2)) :
    ∀ H1, Same H H1 → ∀ Q : VK, (∀ D ys H', Same H1 H' → H1 D = none → H' D = some (.lst ys) → DfAll K (fun a => Fr F H1 a ∧ a ≠ D) H' ys ((ds.flatMap es).map m) → Q (.ref D) H') → tLc2 wi g tt wi1 g1 tt1 te vs vs1 σ H1 Q := fun H1 s Q q => hi H1 s _ fun J H2 s2 W D hD => by
  have hD1 : H1 D = none := s2.freshA hD
  let F2 : Addr → Prop := fun a => Fr F H1 a ∧ a ≠ D
  have nF : ¬ F2 D := fun z => z.2 rfl
  refine ⟨fun i k H' => k = ds.length - i ∧ i ≤ ds.length ∧ Same H2 H' ∧ ∃ ys, H' D = some (.lst ys) ∧ DfAll K F2 H' ys (((ds.take i).flatMap es).map m), ⟨ds.length, by simp, Nat.zero_le _, Same.newA hD, [], upd_same, by simp; exact .nil⟩, ?_⟩
  rintro i k H' ⟨rfl, hi, s3, ys, e, r⟩
  by_cases lt : i < ds.length
  · refine .inr ⟨W.go i H' s3.F lt, fun H5 => Same H2 H5 ∧ ∃ ys, H5 D = some (.lst ys) ∧ DfAll K F2 H5 ys (((ds.take (i + 1)).flatMap es).map m), fun H5 ⟨a, b⟩ => ⟨ds.length - (i + 1), by omega, rfl, lt, a, b⟩, fun x H3 y => ?_⟩
    obtain ⟨d, hd, s4, hx⟩ := W.yld i H' x H3 lt s3.F y
    have hx2 : Df K F2 H3 x d := df_mono (Same.refl _) (fun a z => ⟨z.1, fun q => z.2 (q ▸ hD)⟩) hx
    obtain ⟨σ2, hg, hw, htt, hin, hte⟩ := ht F2 H3 ⟨(((s.trans s2).trans s3).trans s4).F, fun a z n => ⟨.inl z, fun q => n (s.freshA (q ▸ hD1))⟩⟩ x d (List.mem_of_getElem? hd) hx2
    have tk : ds.take (i + 1) = ds.take i ++ [d] := by rw [List.take_succ, hd]; rfl
    have tkf : (ds.take (i + 1)).flatMap es = (ds.take i).flatMap es ++ es d := by rw [tk, List.flatMap_append]; simp
    have bnd : ((ds.take i).flatMap es ++ es d).length ≤ 50000 := by
      rw [← tkf]
      refine Nat.le_trans ?_ hl
      conv => rhs; rw [← List.take_append_drop (i + 1) ds, List.flatMap_append, List.length_append]
      exact Nat.le_add_right _ _
    refine hg _ ⟨hw, htt H3 (Same.refl _) _ fun H4 s5 => ?_⟩
    have e4 : H4 D = some (.lst ys) := s5 _ _ (s4 _ _ e)
    refine hin H4 s5 _ fun J1 H6 s6 W1 => ?_
    have e6 := s6 _ _ e4
    have s36 := (s4.trans s5).trans s6
    have nF4 : ¬ Fr F2 H4 D := fun z => z.elim nF (fun z => by rw [e4] at z; cases z)
    have to2 : ∀ a, Fr F2 H4 a → F2 a := fun a z => z.elim id fun z => ⟨.inr (s2.freshA (s3.freshA ((s4.trans s5).freshA z))), fun q => by rw [q, e4] at z; cases z⟩
    refine ⟨fun j k H' => k = (es d).length - j ∧ j ≤ (es d).length ∧ Same H2 H' ∧ SameF (Fr F2 H4) H6 H' ∧ ∃ ys, H' D = some (.lst ys) ∧ DfAll K F2 H' ys (((ds.take i).flatMap es ++ (es d).take j).map m), ⟨(es d).length, by simp, Nat.zero_le _, s3.trans s36, SameF.refl, ys, e6, by simp only [List.take_zero, List.append_nil]; exact dfs_mono s36 (fun _ z => z) r⟩, ?_⟩
    rintro j k H' ⟨rfl, hj, t3, tF, zs, ez, rz⟩
    by_cases lj : j < (es d).length
    · refine .inr ⟨W1.go j H' tF lj, fun H5 => Same H2 H5 ∧ SameF (Fr F2 H4) H6 H5 ∧ ∃ ys, H5 D = some (.lst ys) ∧ DfAll K F2 H5 ys (((ds.take i).flatMap es ++ (es d).take (j + 1)).map m), fun H5 ⟨a, b, c⟩ => ⟨(es d).length - (j + 1), by omega, rfl, lj, a, b, c⟩, fun x2 H7 y2 => ?_⟩
      obtain ⟨d2, hd2, t4, hx3⟩ := W1.yld j H' x2 H7 lj tF y2
      have hx4 : Df K F2 H7 x2 d2 := df_mono (Same.refl _) (fun a z => to2 a z.1) hx3
      have F37 : SameF F2 H3 H7 := ((s5.trans s6).F.trans (tF.sub fun a z => .inl z)).trans t4.F
      obtain ⟨σ3, hg3, hw3, htt3, hte3⟩ := hte F2 H7 ⟨F37, fun a z _ => z⟩ x2 d2 (List.mem_of_getElem? hd2) hx4
      have tk2 : (es d).take (j + 1) = (es d).take j ++ [d2] := by rw [List.take_succ, hd2]; rfl
      refine hg3 _ ⟨hw3, htt3 H7 (Same.refl _) _ fun H8 t5 => ?_⟩
      refine hte3 H8 t5 _ fun v H9 t6 hv => ?_
      have t46 := (t4.trans t5).trans t6
      have e9 : H9 D = some (.lst zs) := t46 _ _ ez
      have r9 : DfAll K F2 H9 zs (((ds.take i).flatMap es ++ (es d).take j).map m) := dfs_mono t46 (fun _ z => z) rz
      have v9 : Df K F2 H9 v (m d2) := df_mono (Same.refl _) (fun a z => by
        rcases z with z | z
        · exact z
        · exact ⟨.inr (s2.freshA (t3.freshA ((t4.trans t5).freshA z))), fun q => by
            have := (t4.trans t5) _ _ ez
            rw [q, this] at z; cases z⟩) hv
      have len9 := dfs_len r9
      rw [List.length_map, List.length_append, List.length_take] at len9
      rw [List.length_append] at bnd
      refine ⟨zs, e9, lt5 (by omega), fun a u h => ?_, (tF.trans t46.F).trans (SameF.upd e9 nF4), zs ++ [v], upd_same, ?_⟩
      · rw [upd_ne (ne_of_none h hD)]; exact t46 _ _ (t3 _ _ h)
      · rw [tk2, ← List.append_assoc, List.map_append]
        exact dfs_app (dfs_upd e9 nF r9) (.cons (df_upd e9 nF v9) .nil)
    · have : j = (es d).length := by omega
      subst this
      refine .inl ⟨W1.stop H' tF, t3, zs, ez, ?_⟩
      rw [tkf]; rw [List.take_length] at rz; exact rz
  · have : i = ds.length := by omega
    subst this
    refine .inl ⟨W.stop H' s3.F, q D ys H' (s2.trans s3) hD1 e ?_⟩
    rw [List.take_length] at r; exact r
end
end Ag

set_option Elab.async false
set_option linter.all false
set_option maxRecDepth 100000
set_option maxHeartbeats 1000000
/-! A text times an int; data that is good, made without naming it. -/
namespace Ag
open PySem PySem.Spec PyProof.Rows L2
def rRepS : R2 := fun x y H Q => ∃ (z : Str) (n : Nat), x = .str z ∧ y = .int (n : Int) ∧ z.length ≤ 1000 ∧ n ≤ 1000 ∧ Q (.str (Txt.mul z n)) H
theorem op_repS {X : Cx} : OpR X (binaryOp .Mult) rRepS := by
  intro pins s σ H x y v u Q I rx ry h
  obtain ⟨z, n, rfl, rfl, h1, h2, q⟩ := h
  obtain ⟨t, rfl⟩ := rx
  obtain ⟨t', rfl⟩ := ry
  exact SB.mul (mulOk_of 1000 1000 h1 (by omega) (by omega) (by decide) (by decide)) fun t' k => ⟨.str _, H, I.tok _, ⟨_, rfl⟩, q⟩
end Ag

set_option Elab.async false
set_option linter.all false
set_option maxRecDepth 100000
set_option maxHeartbeats 1000000
/-! sorted(list of alike data) over the layer: texts, ints, tuples of such. -/
namespace Ag
open PySem PySem.Spec PyProof.Rows L2
open PySem.W (EachIs AllAlike Sortable dataKind sortLe dataLt keyToks)
/-- a is not behind b -/
def leD (a b : PyData) : Bool := !dataLt b a
theorem each_of {h : Heap} : ∀ {xs : List V} {us : List Value} {ds : List PyData} {as : List Addr}, Vals xs us → ReadsAll h us ds as → EachIs (fun (u : Value) (b : V × PyData) => RelV b.1 u ∧ (∃ as, Reads h u b.2 as) ∧ b.2 ∈ ds) us (xs.zip ds)
  | [], _, _, _, .nil, .nil => .nil
  | x :: xs, u :: us, _, _, .cons r t, .cons (d := d) (ds := ds) h1 h2 => by
    rw [List.zip_cons_cons]
    refine .cons ⟨r, ⟨_, h1⟩, List.mem_cons_self⟩ (EachIs.mono (fun u b z => ⟨z.1, z.2.1, List.mem_cons_of_mem _ z.2.2⟩) (each_of t h2))
theorem vals_each {us : List Value} {zs : List (V × PyData)} (h : EachIs (fun (u : Value) (b : V × PyData) => RelV b.1 u) us zs) : Vals (zs.map Prod.fst) us := by
  induction h with
  | nil => exact .nil
  | cons a _ ih => exact .cons a ih
theorem each_reads {h : Heap} : ∀ {us : List Value} {ds : List PyData} {as : List Addr}, ReadsAll h us ds as → EachIs (fun v d => ∃ as, Reads h v d as) us ds
  | [], _, _, .nil => .nil
  | _ :: _, _, _, .cons a r => .cons ⟨_, a⟩ (each_reads r)
/-- sorted(xs): the data in their order, equal ones as they stood; zs: the items beside their data -/
def rSortD (K : PySem.W.Frag) : List V → Hp → VK → Prop := fun vs H Q => ∃ (a : Addr) (xs : List V) (ds : List PyData), vs = [V.ref a] ∧ SqL K H a xs ∧ DpAll K H xs ds ∧ AllAlike ds ∧ Sortable ds ∧ (∀ d ∈ ds, d.depth ≤ 50) ∧
  ∀ (zs : List (V × PyData)) p, zs.Perm (xs.zip ds) → zs.map Prod.snd = ds.mergeSort leD → H p = none → Q (.ref p) (upd H p (.lst (zs.map Prod.fst)))
theorem cr_sortD {X : Cx} (hu : X.A.units + 64 < cLine) : CallR X (.builtin "sorted") (rSortD X.K) := by
  intro pins s σ H vs us Q I r h
  obtain ⟨a, xs, ds, rfl, hs, hd, al, so, dp, q⟩ := h
  obtain ⟨its, rv, hl, hz⟩ := I.list hs
  rw [Vals.ref1 r]
  obtain ⟨as, hr⟩ := Dp.readsAll I ds xs its hd rv
  have len : its.length = ds.length := by rw [← rv.length, dps_len hd]
  have hr2 : ReadsAll (PySem.W.sortingHeap (PySem.W.copyHeap s.heap its) (s.heap.objs.size + 1) its) its ds as := PyProof.Rows.ReadsAll.keeps (fun b o e => PySem.W.sorting_copy_old e) hr
  refine PySem.W.sorted_vals (κ := dataKind (PySem.W.sortingHeap (PySem.W.copyHeap s.heap its) (s.heap.objs.size + 1) its) ds) hl.isList (PySem.W.SortsAt.data (each_reads hr2) al so fun d hd => ?_) (by rw [← rv.length]; exact hz) ?_
  · have := dp d hd
    show X.A.units + 1 + 1 + d.depth < cLine
    omega
  · have e1 := each_of rv hr2
    have hk : EachIs (fun (v : Value) (b : V × PyData) => (dataKind (PySem.W.sortingHeap (PySem.W.copyHeap s.heap its) (s.heap.objs.size + 1) its) ds).keyOf v = some (keyToks b.2)) its (xs.zip ds) :=
      EachIs.mono (fun u b z => by
        obtain ⟨_, ⟨as, h2⟩, h3⟩ := z
        exact PySem.W.dataKind_some al h3 h2) e1
    have e2 : EachIs (fun (u : Value) (b : V × PyData) => RelV b.1 u) its (xs.zip ds) := EachIs.mono (fun u b z => z.1) e1
    have e3 := PySem.W.sortVals_each (κ := dataKind (PySem.W.sortingHeap (PySem.W.copyHeap s.heap its) (s.heap.objs.size + 1) its) ds) (rev := false) (ks := its) (fun b : V × PyData => keyToks b.2) e2 hk
    have hn : H (s.heap.objs.size + 1) = none := I.hok.fresh (Nat.le_succ _)
    have hv := vals_each e3
    have pm : ((xs.zip ds).mergeSort (sortLe (dataKind (PySem.W.sortingHeap (PySem.W.copyHeap s.heap its) (s.heap.objs.size + 1) its) ds).toKeyOrd false fun b : V × PyData => keyToks b.2)).Perm (xs.zip ds) := List.mergeSort_perm _ _
    obtain ⟨n, hat⟩ := sortedAll_at s.heap its (PySem.W.sortVals (dataKind (PySem.W.sortingHeap (PySem.W.copyHeap s.heap its) (s.heap.objs.size + 1) its) ds) false its its).toArray
    refine ⟨.ref (s.heap.objs.size + 1), upd H (s.heap.objs.size + 1) (.lst (((xs.zip ds).mergeSort (sortLe (dataKind (PySem.W.sortingHeap (PySem.W.copyHeap s.heap its) (s.heap.objs.size + 1) its) ds).toKeyOrd false fun b : V × PyData => keyToks b.2)).map Prod.fst)),
      I.laid (t' := s.toks) (fun b o e => sortedAll_old e) (Nat.le_succ _) ⟨?_, _, n, hv, hat⟩, rfl, q _ _ pm ?_ hn⟩
    · rw [List.length_map, pm.length_eq, List.length_zip]
      have := dps_len hd
      have := rv.length
      omega
    · exact (PySem.W.sort_maps (s := leD) Prod.snd fun p _ q _ => rfl).trans (by rw [List.map_snd_zip (by have := dps_len hd; omega)])
end Ag

set_option Elab.async false
set_option linter.all false
set_option maxRecDepth 100000
set_option maxHeartbeats 1000000
/-! Texts split and joined, as data. -/
namespace Ag
open PySem PySem.Spec PyProof.Rows L2
section
variable {K : PySem.W.Frag} {σ : L2.St} {F : Addr → Prop} {H : Hp} {to te : TE} {a b : Str}
theorem ed_split (ho : ED K to σ F H (.str a)) (he : ED K te σ F H (.str b)) (hb : (b.length == 0) = false) (ha : a.length ≤ 100000) :
    ED K (tM1 (fun x xs H Q => ∃ a b, x = .str a ∧ xs = [.str b] ∧ (b.length == 0) = false ∧ a.length + 2 ≤ sizeLine ∧ rNewStrs (Txt.split a b) H Q) to te) σ F H (.list ((Txt.split a b).map .str)) := fun H1 s Q q =>
  ho H1 s _ fun v H2 s2 hv => by
    cases hv
    refine ⟨⟨a, rfl⟩, he H2 (s.trans s2) _ fun u H3 s3 hu => ?_⟩
    cases hu
    refine ⟨a, b, rfl, rfl, hb, Nat.le_trans (Nat.add_le_add_right ha 2) (by decide), fun p hp => ?_⟩
    have s23 := s2.trans s3
    exact q _ _ (s23.trans (Same.newA hp)) (.lst (.inl ⟨.inl upd_same, .inr (s23.freshA hp)⟩) (dfs_strs _))
theorem ed_join {ys : List Str} {e : PyData} (ho : ED K to σ F H (.str a)) (he : ED K te σ F H e) (h : e = .list (ys.map .str) ∨ e = .tuple (ys.map .str)) (hl : (ys.map (·.length)).sum + ys.length * a.length ≤ 16777216) :
    ED K (tM1 (fun x xs H Q => ∃ a p, ∃ ys : List Str, x = .str a ∧ xs = [.ref p] ∧ (SqL K H p (ys.map V.str) ∨ SqT K H p (ys.map V.str)) ∧ (ys.map (·.length)).sum + ys.length * a.length ≤ 16777216 ∧ Q (.str (Txt.join a ys)) H) to te) σ F H (.str (Txt.join a ys)) := fun H1 s Q q =>
  ho H1 s _ fun v H2 s2 hv => by
    cases hv
    refine ⟨⟨a, rfl⟩, he H2 (s.trans s2) _ fun u H3 s3 hu => ?_⟩
    have hq : ∃ p, u = .ref p ∧ (SqL K H3 p (ys.map V.str) ∨ SqT K H3 p (ys.map V.str)) := by
      rcases h with rfl | rfl
      · cases hu with
        | lst h r => rw [strs_dps (dfs_dps r)] at h; exact ⟨_, rfl, .inl (h.imp (fun z => z.1) id)⟩
      · cases hu with
        | tup h r => rw [strs_dps (dfs_dps r)] at h; exact ⟨_, rfl, .inr h⟩
    obtain ⟨p, rfl, hs⟩ := hq
    exact ⟨a, p, ys, rfl, rfl, hs, hl, q _ _ (s2.trans s3) (.str _)⟩
end
end Ag

set_option Elab.async false
set_option linter.all false
set_option maxRecDepth 100000
set_option maxHeartbeats 1000000
/-! repr of data, where nothing is being shown. -/
namespace Ag
open PySem PySem.Spec PyProof.Rows L2
/-- data, or an empty dict -/
def Dx (K : PySem.W.Frag) (H : Hp) (v : V) (d : PyData) : Prop := Dp K H v d ∨ (d = .dict [] ∧ ∃ a, v = .ref a ∧ H a = some (.dK []))
theorem Dx.mono {K : PySem.W.Frag} {H H' : Hp} {v : V} {d : PyData} (e : Same H H') (h : Dx K H v d) : Dx K H' v d := h.imp (dp_mono e) fun ⟨a, b, c, q⟩ => ⟨a, b, c, e _ _ q⟩
theorem Dx.dp {K : PySem.W.Frag} {H : Hp} {v : V} {d : PyData} (h : Dp K H v d) : Dx K H v d := .inl h
theorem Dx.reads {X : Cx} {pins : List (Addr × Obj)} {σ : L2.St} {H : Hp} {s : Shared} (I : Inv X pins σ H s) {d : PyData} {v : V} {u : Value} (h : Dx X.K H v d) (r : RelV v u) : ∃ as, Reads s.heap u d as ∧ (d.hasDict = true → sysModules ∉ as) := by
  rcases h with h | ⟨rfl, a, rfl, h⟩
  · obtain ⟨as, q⟩ := Dp.reads I d v u h r
    refine ⟨as, q, fun z => ?_⟩
    have nd : d.hasDict = false := by
      have key : ∀ (d : PyData) (v : V), Dp X.K H v d → d.hasDict = false := by
        intro d v h
        exact Dp.rec (motive_1 := fun _ d _ => d.hasDict = false) (motive_2 := fun _ ds _ => PyData.hasDictAll ds = false) (by simp [PyData.hasDict]) (fun _ => by simp [PyData.hasDict]) (fun _ => by simp [PyData.hasDict]) (fun _ => by simp [PyData.hasDict])
          (fun _ _ ih => by simp only [PyData.hasDict]; exact ih) (fun _ _ ih => by simp only [PyData.hasDict]; exact ih) (by simp [PyData.hasDictAll]) (fun _ _ i1 i2 => by simp only [PyData.hasDictAll]; rw [i1, i2]; rfl) h
      exact key d v h
    rw [nd] at z; cases z
  · cases r
    obtain ⟨_, ns, vs, kv, o, es, ep, e1, ⟨c1, _⟩, e3, e4, e5, _⟩ := I.hok a _ h
    cases kv
    have ez : es.toList = [] := by
      cases q : es.toList with
      | nil => rfl
      | cons x r => rw [q] at e5; cases e5
    refine ⟨_, .dict e1 c1 e3 (by rw [ez]; exact .nil) (by rw [ez]; exact .nil), fun _ m => ?_⟩
    have m : sysModules = a := by simpa using m
    rw [m] at ns; simp at ns
def rRepr (K : PySem.W.Frag) : List V → Hp → VK → Prop := fun vs H Q => ∃ x d, vs = [x] ∧ Dx K H x d ∧ d.showable = true ∧ d.depth ≤ 50 ∧ d.shown.length ≤ sizeLine ∧ Q (.str d.shown) H
theorem cr_repr {X : Cx} (hg : X.A.guards = some []) (hu : X.A.units + 64 < cLine) : CallR X (.builtin "repr") (rRepr X.K) := by
  intro pins s σ H vs us Q I r h
  obtain ⟨x, d, rfl, hd, sh, dp, sz, q⟩ := h
  obtain ⟨u, rfl, ru⟩ := r.one
  obtain ⟨as, hr, hsm⟩ := Dx.reads I hd ru
  cases hr with
  | none => exact PySem.P.repr_of_none ⟨.str _, H, I.tok _, ⟨_, rfl⟩, q⟩
  | bool b => exact PySem.P.repr_of_bool ⟨.str _, H, I.tok _, ⟨_, rfl⟩, q⟩
  | int i t => exact PySem.P.repr_of_int (by simpa [PyData.showable] using sh) ⟨.str _, H, I.tok _, ⟨_, rfl⟩, q⟩
  | str x t => exact PySem.P.repr_of_str ⟨.str _, H, I.tok _, ⟨_, rfl⟩, q⟩ sz
  | list h1 h2 h3 h4 => exact PySem.repr_of_reads' (.list h1 h2 h3 h4) sh hsm hg (by omega) (fun _ _ e => e) (fun h' u tk hk => ⟨.str _, H, I.kept hk, ⟨_, rfl⟩, q⟩) sz
  | tuple h1 h2 h3 h4 => exact PySem.repr_of_reads' (.tuple h1 h2 h3 h4) sh hsm hg (by omega) (fun _ _ e => e) (fun h' u tk hk => ⟨.str _, H, I.kept hk, ⟨_, rfl⟩, q⟩) sz
  | dict h1 h2 h3 h4 h5 => exact PySem.repr_of_reads' (.dict h1 h2 h3 h4 h5) sh hsm hg (by omega) (fun _ _ e => e) (fun h' u tk hk => ⟨.str _, H, I.kept hk, ⟨_, rfl⟩, q⟩) sz
theorem ed_repr {K : PySem.W.Frag} {σ : L2.St} {F : Addr → Prop} {H : Hp} {ta : TE} {d : PyData} (ha : ED K ta σ F H d) (h1 : d.showable = true) (h2 : d.depth ≤ 50) (h3 : d.shown.length ≤ sizeLine) : ED K (tCB (rRepr K) (tCons ta tNil)) σ F H (.str d.shown) :=
  ed_cb (ea_cons ha ea_nil) fun F vs H1 hv Q q => by
    cases hv with
    | cons a r => cases r; exact ⟨_, d, rfl, .inl (df_dp a), h1, h2, h3, q _ _ (Same.refl _) (.str _)⟩
end Ag

set_option Elab.async false
set_option linter.all false
set_option maxRecDepth 100000
set_option maxHeartbeats 1000000
/-! What stays where the pen is drawn and tables of code objects grow. -/
namespace Ag
open PySem PySem.Spec PyProof.Rows L2 LamX
/-- all but the pen and the tables is kept -/
def Kp (p : Addr) (H H' : Hp) : Prop := ∀ a o, a ≠ p → (∀ ps, o ≠ .tbl ps) → H a = some o → H' a = some o
theorem Kp.refl (p : Addr) (H : Hp) : Kp p H H := fun _ _ _ _ h => h
theorem Kp.trans {p : Addr} {H H1 H2 : Hp} (a : Kp p H H1) (b : Kp p H1 H2) : Kp p H H2 := fun x o n t h => b x o n t (a x o n t h)
theorem Kp.but {p : Addr} {H H1 : Hp} (b : But p H H1) : Kp p H H1 := fun x o n _ h => b x o n h
theorem Kp.of {p : Addr} {H H1 : Hp} (b : Same H H1) : Kp p H H1 := fun x o _ _ h => b x o h
theorem Kp.ext {p : Addr} {H H1 : Hp} (b : ExtN H H1) : Kp p H H1 := fun x o _ t h => b x o h t
section
variable {K : PySem.W.Frag} {p c : Addr} {n : Nat} {H H' : Hp}
theorem Pen.rdK {a : Addr} {u : HO} (h : Pen p c n H) (b : Kp p H H') (r : Rd H a u) (no : ∀ kvs, u ≠ .dK kvs) (nt : ∀ ps, u ≠ .tbl ps) : Rd H' a u := by
  rcases r with r | ⟨o, r⟩
  · exact .inl (b _ _ (h.ne r no) nt r)
  · exact .inr ⟨o, b _ _ (h.ne r (fun _ z => nomatch z)) (fun _ z => nomatch z) r⟩
theorem Pen.slK {a : Addr} {xs : List V} (h : Pen p c n H) (b : Kp p H H') (r : SqL K H a xs) : SqL K H' a xs := r.imp (fun z => h.rdK b z (fun _ z => nomatch z) (fun _ z => nomatch z)) id
theorem Pen.stK {a : Addr} {xs : List V} (h : Pen p c n H) (b : Kp p H H') (r : SqT K H a xs) : SqT K H' a xs := r.imp (fun z => h.rdK b z (fun _ z => nomatch z) (fun _ z => nomatch z)) id
mutual
theorem Pen.dpK (h : Pen p c n H) (b : Kp p H H') : ∀ {v : V} {d : PyData}, Dp K H v d → Dp K H' v d
  | _, _, .non => .non
  | _, _, .bl b => .bl b
  | _, _, .int i => .int i
  | _, _, .str x => .str x
  | _, _, .lst q r => .lst (h.slK b q) (Pen.dpsK h b r)
  | _, _, .tup q r => .tup (h.stK b q) (Pen.dpsK h b r)
theorem Pen.dpsK (h : Pen p c n H) (b : Kp p H H') : ∀ {vs : List V} {ds : List PyData}, DpAll K H vs ds → DpAll K H' vs ds
  | _, _, .nil => .nil
  | _, _, .cons q r => .cons (Pen.dpK h b q) (Pen.dpsK h b r)
end
theorem Pen.ext (h : Pen p c n H) (b : ExtN H H') : Pen p c n H' := by
  obtain ⟨cells, a, d, k, f, hp, hc, r⟩ := h
  refine ⟨cells, a, d, k, f, b _ _ hp (fun _ z => nomatch z), ?_, r⟩
  rcases hc with hc | ⟨o, hc⟩
  · exact .inl (b _ _ hc (fun _ z => nomatch z))
  · exact .inr ⟨o, b _ _ hc (fun _ z => nomatch z)⟩
/-- the tables stand where but the pen is changed -/
theorem tabs_but {T : List (Addr × Str)} (h : Pen p c n H) (b : But p H H') (t : Tabs T H) : Tabs T H' := fun q hq => by
  obtain ⟨ps, e, tr, co⟩ := t q hq
  refine ⟨ps, b _ _ (h.ne e (fun _ z => nomatch z)) e, tr, fun pos cv hcv => ?_⟩
  obtain ⟨cc, rfl, hc⟩ := co pos cv hcv
  exact ⟨cc, rfl, b _ _ (h.ne hc (fun _ z => nomatch z)) hc⟩
end
end Ag

set_option Elab.async false
set_option linter.all false
set_option maxRecDepth 100000
set_option maxHeartbeats 1000000
/-! The order of alike data over the layer. -/
namespace Ag
open PySem PySem.Spec PyProof.Rows L2
open PySem.W (alike alikeAll dataLt)
def rLtD (K : PySem.W.Frag) : R2 := fun x y H Q => ∃ d e, Dp K H x d ∧ Dp K H y e ∧ alike d e = true ∧ d ≠ .none ∧ min d.depth e.depth ≤ 50 ∧ Q (.bl (dataLt d e)) H
def rGtD (K : PySem.W.Frag) : R2 := fun x y H Q => ∃ d e, Dp K H x d ∧ Dp K H y e ∧ alike d e = true ∧ d ≠ .none ∧ min d.depth e.depth ≤ 50 ∧ Q (.bl (dataLt e d)) H
theorem op_ltD {X : Cx} (hu : X.A.units + 64 < cLine) : OpR X (compareOp .Lt) (rLtD X.K) := by
  intro pins s σ H x y v u Q I rx ry h
  obtain ⟨d, e, hd, he, al, nn, dp, q⟩ := h
  obtain ⟨as, r1⟩ := Dp.reads I d x v hd rx
  obtain ⟨bs, r2⟩ := Dp.reads I e y u he ry
  exact PySem.W.lt_data r1 r2 al nn (by omega) ⟨.bl _, H, I, rfl, q⟩
theorem op_gtD {X : Cx} (hu : X.A.units + 64 < cLine) : OpR X (compareOp .Gt) (rGtD X.K) := by
  intro pins s σ H x y v u Q I rx ry h
  obtain ⟨d, e, hd, he, al, nn, dp, q⟩ := h
  obtain ⟨as, r1⟩ := Dp.reads I d x v hd rx
  obtain ⟨bs, r2⟩ := Dp.reads I e y u he ry
  exact PySem.W.gt_data r1 r2 al nn (by omega) ⟨.bl _, H, I, rfl, q⟩
theorem alike_strs : ∀ (xs ys : List Str), alikeAll (xs.map .str) (ys.map .str) = true
  | [], _ => by simp [alikeAll]
  | _ :: _, [] => by simp [alikeAll]
  | x :: xs, y :: ys => by
    simp only [List.map_cons, alikeAll, Bool.and_eq_true]
    exact ⟨by simp [alike], alike_strs xs ys⟩
section
variable {K : PySem.W.Frag} {σ : L2.St} {F : Addr → Prop} {H : Hp} {ta tb : TE} {d e : PyData}
theorem ed_ltD (ha : ED K ta σ F H d) (hb : ED K tb σ F H e) (h1 : alike d e = true) (h2 : d ≠ .none) (h3 : min d.depth e.depth ≤ 50) : ED K (tOp (rLtD K) ta tb) σ F H (.bool (dataLt d e)) :=
  ed_op ha hb fun F x y H1 hx hy Q q => ⟨d, e, df_dp hx, df_dp hy, h1, h2, h3, q _ _ (Same.refl _) (.bl _)⟩
theorem ed_gtD (ha : ED K ta σ F H d) (hb : ED K tb σ F H e) (h1 : alike d e = true) (h2 : d ≠ .none) (h3 : min d.depth e.depth ≤ 50) : ED K (tOp (rGtD K) ta tb) σ F H (.bool (dataLt e d)) :=
  ed_op ha hb fun F x y H1 hx hy Q q => ⟨d, e, df_dp hx, df_dp hy, h1, h2, h3, q _ _ (Same.refl _) (.bl _)⟩
end
theorem strs_depth : ∀ (xs : List Str), PyData.depthAll (xs.map .str) ≤ 1
  | [] => by simp [PyData.depthAll]
  | x :: xs => by
    have := strs_depth xs
    simp only [List.map_cons, PyData.depthAll, PyData.depth]
    omega
end Ag

set_option Elab.async false
set_option linter.all false
set_option maxRecDepth 100000
set_option maxHeartbeats 1000000
/-! Either of two promises; the empty dict asked for its kind. -/
namespace Ag
open PySem PySem.Spec PyProof.Rows L2
/-- a promise that holds where one of two does -/
def spOr (sp sp' : Sp) : Sp := fun vs H Q E => sp vs H Q E ∨ sp' vs H Q E
theorem fn_or {P : Program} {w : World} {K : PySem.W.Frag} {mg : Str → Option Value} {base : Heap} {CX : CXT} {k : Nat} {f : Addr} {fd : FuncData} {ps : List Str} {sp sp' : Sp} (F : FnOk P w K mg base CX k f fd ps sp) (G : FnOk P w K mg base CX k f fd ps sp') :
    FnOk P w K mg base CX k f fd ps (spOr sp sp') :=
  ⟨fun vs H Q E q => q.elim (F.len vs H Q E) (G.len vs H Q E), fun A outer s H args us vs Q E hr he hb hv hs => hs.elim (fun z => F.run A outer s H args us vs Q E hr he hb hv z) (fun z => G.run A outer s H args us vs Q E hr he hb hv z)⟩
section
variable {K : PySem.W.Frag} {σ : L2.St} {F : Addr → Prop} {H : Hp}
theorem kit_dict {T : String} (hT : T = "str" ∨ T = "tuple" ∨ T = "list" ∨ T = "int" ∨ T = "bool") : PySem.W.kitOne K (.type "dict") (.type T) = some false := by
  rcases hT with rfl | rfl | rfl | rfl | rfl
  · exact kit_ty (show kitB "dict" "str" = some false by decide +kernel)
  · exact kit_ty (show kitB "dict" "tuple" = some false by decide +kernel)
  · exact kit_ty (show kitB "dict" "list" = some false by decide +kernel)
  · exact kit_ty (show kitB "dict" "int" = some false by decide +kernel)
  · exact kit_ty (show kitB "dict" "bool" = some false by decide +kernel)
theorem ed_isiE {i : Nat} {a : Addr} {T : String} (h : σ[i]? = some (some (.ref a))) (ha : H a = some (.dK [])) (hT : T = "str" ∨ T = "tuple" ∨ T = "list" ∨ T = "int" ∨ T = "bool") :
    ED K (tCB (rIsi K) (tCons (tVar i) (tCons (tC (.ty T)) tNil))) σ F H (.bool false) := fun H1 s Q q =>
  ⟨_, h, .ref a, .ty T, _, _, _, rfl, .ty T, .base (.dK (s _ _ ha)), kit_dict hT, q _ _ (Same.refl _) (.bl _)⟩
theorem dp_strsF {v : V} {xs : List Str} (h : Dp K H v (.tuple (xs.map .str))) : Df K F H v (.tuple (xs.map .str)) := by
  cases h with
  | tup hs r => have := strs_dps r; subst this; exact .tup hs (dfs_strs xs)
end
end Ag

set_option Elab.async false
set_option linter.all false
set_option maxRecDepth 100000
set_option maxHeartbeats 1000000
/-! Texts of plain signs and how long they may be; lists of texts, made and joined anew. -/
namespace Ag
open PySem PySem.Spec PyProof.Rows L2
/-- plain signs, at most n of them -/
def As (n : Nat) (x : Str) : Prop := (∀ c ∈ x.cps.toList, c < 128) ∧ x.length ≤ n
theorem As.more {m n : Nat} {x : Str} (h : As m x) (l : m ≤ n) : As n x := ⟨h.1, Nat.le_trans h.2 l⟩
theorem as_cat {m n : Nat} {x y : Str} (h : As m x) (k : As n y) : As (m + n) (x ++ y) := by
  refine ⟨fun c hc => ?_, by rw [Str.length_append]; exact Nat.add_le_add h.2 k.2⟩
  have e : (x ++ y).cps.toList = x.cps.toList ++ y.cps.toList := TL.tl_append x y
  rw [e] at hc
  exact (List.mem_append.mp hc).elim (h.1 c) (k.1 c)
theorem as_cut {n : Nat} {x : Str} {lo hi : Option Int} (h : As n x) : As n (cutS x lo hi) := by
  have e : (cutS x lo hi).cps.toList = (x.cps.toList.drop (HT.sIx x.length 0 lo)).take (HT.sIx x.length x.length hi - HT.sIx x.length 0 lo) := by
    unfold cutS; simp
  refine ⟨fun c hc => h.1 c ?_, ?_⟩
  · rw [e] at hc; exact List.mem_of_mem_drop (List.mem_of_mem_take hc)
  · show (cutS x lo hi).cps.size ≤ n
    rw [← Array.length_toList, e, List.length_take, List.length_drop, Array.length_toList]
    have : x.cps.size ≤ n := h.2
    omega
theorem up1_lt : ∀ c, c < 128 → PyProof.Rows.up1 c < 128 := by decide +kernel
theorem as_upper {n : Nat} {x : Str} (h : As n x) : As n (Txt.upper x) := by
  rw [PyProof.Rows.upper_ascii h.1]
  refine ⟨fun c hc => ?_, ?_⟩
  · have hc : c ∈ (x.cps.map PyProof.Rows.up1).toList := hc
    rw [Array.toList_map] at hc
    obtain ⟨b, hb, rfl⟩ := List.mem_map.mp hc
    exact up1_lt b (h.1 b hb)
  · show (x.cps.map PyProof.Rows.up1).size ≤ n
    rw [Array.size_map]; exact h.2
/-- a checked text -/
def asB (n : Nat) (x : Str) : Bool := x.cps.toList.all (fun c => decide (c < 128)) && decide (x.length ≤ n)
theorem as_of {n : Nat} {x : Str} (h : asB n x = true) : As n x := by
  unfold asB at h
  obtain ⟨h1, h2⟩ := Bool.and_eq_true_iff.mp h
  exact ⟨fun c hc => of_decide_eq_true (List.all_eq_true.mp h1 c hc), of_decide_eq_true h2⟩
theorem as_join {s : Str} {n m : Nat} (hs : As m s) : ∀ {xs : List Str}, (∀ x ∈ xs, As n x) → As (xs.length * (n + m)) (Str.join s xs)
  | [], _ => ⟨fun c hc => absurd hc (List.not_mem_nil), (Nat.zero_le _)⟩
  | [x], h => ((h x List.mem_cons_self).more (by simp))
  | x :: y :: r, h => by
    have i := as_join hs (xs := y :: r) fun z hz => h z (List.mem_cons_of_mem _ hz)
    have e : Str.join s (x :: y :: r) = x ++ s ++ Str.join s (y :: r) := rfl
    rw [e]
    refine (as_cat (as_cat (h x List.mem_cons_self) hs) i).more ?_
    simp only [List.length_cons, Nat.add_mul, Nat.one_mul]; omega
section
variable {K : PySem.W.Frag} {σ : L2.St} {F : Addr → Prop} {H : Hp} {te ta tb : TE} {d e : PyData}
theorem ed_slS {x : Str} {tl th : TO} {lo hi : Option Int} (h : ED K te σ F H (.str x)) (hx : x.length ≤ 100000) (hl : EO tl σ H lo) (hh : EO th σ H hi) : ED K (tSl rSlS te tl th) σ F H (.str (cutS x lo hi)) := fun H1 s Q q =>
  h H1 s _ fun v H2 s2 hv => by
    cases hv
    refine hl H2 (s.trans s2) _ fun H3 s3 => hh H3 ((s.trans s2).trans s3) _ fun H4 s4 => ?_
    exact ⟨x, rfl, small5 hx, q _ _ ((s2.trans s3).trans s4) (.str _)⟩
theorem ed_upper {x : Str} (h : ED K te σ F H (.str x)) (hx : x.length ≤ 100000) : ED K (tM0 (fun x xs H Q => ∃ a, x = .str a ∧ xs = [] ∧ a.length ≤ 5592405 ∧ Q (.str (Txt.upper a)) H) te) σ F H (.str (Txt.upper x)) := fun H1 s Q q =>
  h H1 s _ fun v H2 s2 hv => by
    cases hv
    exact ⟨⟨x, rfl⟩, x, rfl, rfl, by omega, q _ _ s2 (.str _)⟩
/-- gives a list of these texts -/
def EL (te : TE) (σ : L2.St) (H : Hp) (xs : List Str) : Prop := ∀ H1, Same H H1 → ∀ Q : VK, (∀ p H2, Same H1 H2 → H2 p = some (.lst (xs.map V.str)) → Q (.ref p) H2) → te σ H1 Q
theorem EL.mono {H' : Hp} {xs : List Str} (s : Same H H') (h : EL te σ H xs) : EL te σ H' xs := fun H1 a Q q => h H1 (s.trans a) Q q
theorem el_var {i : Nat} {p : Addr} {xs : List Str} (h : σ[i]? = some (some (.ref p))) (hp : H p = some (.lst (xs.map V.str))) : EL (tVar i) σ H xs := fun H1 s Q q => ⟨_, h, q p H1 (Same.refl _) (s _ _ hp)⟩
theorem el_cat {xs ys : List Str} (ha : EL ta σ H xs) (hb : EL tb σ H ys) (hl : xs.length + ys.length ≤ 100000) : EL (tOp rCat ta tb) σ H (xs ++ ys) := fun H1 s Q q =>
  ha H1 s _ fun p H2 s2 hp => hb H2 (s.trans s2) _ fun b H3 s3 hb3 =>
    ⟨p, b, _, _, rfl, rfl, s3 _ _ hp, hb3, by rw [List.length_map, List.length_map]; exact small5 hl, fun l hn => q l _ ((s2.trans s3).trans (Same.newA hn)) (by rw [upd_same, List.map_append])⟩
theorem el_lst {t : TA} {xs : List Str} (h : EA K t σ F H (xs.map .str)) (hl : xs.length ≤ 100000) : EL (tLst t) σ H xs := fun H1 s Q q =>
  h H1 s _ fun vs H2 s2 hv => by
    have e := strs_dps (dfs_dps hv)
    subst e
    exact ⟨by rw [List.length_map]; exact small5 hl, fun p hp => q p _ (s2.trans (Same.newA hp)) upd_same⟩
def cutW (xs : List Str) (lo hi : Option Int) : List Str := (xs.drop (HT.sIx xs.length 0 lo)).take (HT.sIx xs.length xs.length hi - HT.sIx xs.length 0 lo)
theorem cutW_map (xs : List Str) (lo hi : Option Int) : cutV (xs.map V.str) lo hi = (cutW xs lo hi).map V.str := by
  unfold cutV cutW; rw [List.length_map, List.map_take, List.map_drop]
theorem cutW_mem {xs : List Str} {lo hi : Option Int} {x : Str} (h : x ∈ cutW xs lo hi) : x ∈ xs := List.mem_of_mem_drop (List.mem_of_mem_take h)
theorem cutW_len {xs : List Str} {lo hi : Option Int} : (cutW xs lo hi).length ≤ xs.length := by
  unfold cutW; rw [List.length_take, List.length_drop]; omega
theorem el_slice {xs : List Str} {tl th : TO} {lo hi : Option Int} (h : EL te σ H xs) (hl : EO tl σ H lo) (hh : EO th σ H hi) : EL (tSl (rSlL K) te tl th) σ H (cutW xs lo hi) := fun H1 s Q q =>
  h H1 s _ fun p H2 s2 hp => hl H2 (s.trans s2) _ fun H3 s3 => hh H3 ((s.trans s2).trans s3) _ fun H4 s4 =>
    ⟨p, _, rfl, .inl (.inl (s4 _ _ (s3 _ _ hp))), fun l hn => q l _ (((s2.trans s3).trans s4).trans (Same.newA hn)) (by rw [upd_same, cutW_map])⟩
theorem el_rep2 {xs : List Str} {tb : TE} (ha : EL ta σ H xs) (hb : ED K tb σ F H (.int 2)) (hl : xs.length ≤ 50000) : EL (tOp rRep ta tb) σ H (xs ++ xs) := fun H1 s Q q =>
  ha H1 s _ fun p H2 s2 hp => hb H2 (s.trans s2) _ fun b H3 s3 hb3 => by
    cases hb3
    refine ⟨p, 2, _, rfl, rfl, s3 _ _ hp, by decide, by decide, ?_, fun l hn => q l _ ((s2.trans s3).trans (Same.newA hn)) ?_⟩
    · rw [List.length_map]; refine small5 ?_
      show xs.length * 2 ≤ _
      omega
    · rw [upd_same]
      show some (HO.lst (List.replicate 2 (xs.map V.str)).flatten) = _
      rw [List.map_append]; simp [List.replicate]
theorem el_if {t : TT} {b : Bool} {xs ys : List Str} (h : ET t σ H b) (h1 : b = true → EL ta σ H xs) (h2 : b = false → EL tb σ H ys) : EL (tIf t ta tb) σ H (if b then xs else ys) := fun H1 s Q q => h H1 s _ fun H2 s2 => by
  cases b with
  | true => exact h1 rfl H2 (s.trans s2) _ fun p H3 s3 hp => q p H3 (s2.trans s3) hp
  | false => exact h2 rfl H2 (s.trans s2) _ fun p H3 s3 hp => q p H3 (s2.trans s3) hp
end
end Ag

set_option Elab.async false
set_option linter.all false
set_option maxRecDepth 100000
set_option maxHeartbeats 1000000
set_option pp.maxSteps 300
/-! Short ways through readings: values, pairs of arguments, loops. -/
namespace Ag
open PySem PySem.Spec PyProof.Rows L2 LamX
theorem ite2 {c : Prop} [Decidable c] {A B : Prop} (h1 : c → A) (h2 : ¬ c → B) : if c then A else B := by
  by_cases h : c
  · rw [if_pos h]; exact h1 h
  · rw [if_neg h]; exact h2 h
section
variable {K : PySem.W.Frag} {σ : L2.St} {F : Addr → Prop} {H : Hp} {te ta tb : TE} {d e : PyData}
theorem dfs_ints : ∀ (xs : List Int), DfAll K F H (xs.map V.int) (xs.map .int)
  | [] => .nil
  | x :: xs => .cons (.int x) (dfs_ints xs)
theorem ed_val {v : V} (hd : Df K F H v d) : ED K (tC v) σ F H d := fun H1 s Q q => q v H1 (Same.refl _) (df_mono s Fr.base hd)
theorem run_edc {tr : TA} {Q : List V → Hp → Prop} (h : ED K te σ F H d) (k : ∀ v H1, Same H H1 → Df K (Fr F H) H1 v d → tr σ H1 fun vs H2 => Q (v :: vs) H2) : tCons te tr σ H Q := h H (Same.refl _) _ k
theorem run_catT {v y : V} {xs ys : List PyData} {Q : VK} (hv : Df K F H v (.tuple xs)) (hy : Df K F H y (.tuple ys)) (hl : xs.length + ys.length ≤ 100000) (k : ∀ z H1, Same H H1 → Df K (Fr F H) H1 z (.tuple (xs ++ ys)) → Q z H1) : rCatA K v y H Q :=
  ed_catT (σ := []) (ed_val hv) (ed_val hy) hl H (Same.refl _) Q k
theorem run_el1 {xs : List Str} {tr : TA} {Q : List V → Hp → Prop} (h : EL te σ H xs) (k : ∀ p H1, Same H H1 → H1 p = some (.lst (xs.map V.str)) → tr σ H1 fun vs H2 => Q (V.ref p :: vs) H2) : tCons te tr σ H Q := h H (Same.refl _) _ k
/-- while, and what follows -/
theorem run_while {c : TT} {tb tz : TS} {D : Ends} {W : Nat → L2.St → Hp → Prop} {m0 : Nat} (h0 : W m0 σ H)
    (hs : ∀ m σ H, W m σ H → ∃ b, ET c σ H b ∧ (b = true → ∀ H1, Same H H1 → ∃ N : L2.St → Hp → Prop, (∀ σ' H', N σ' H' → ∃ m', m' < m ∧ W m' σ' H') ∧ tb { D with nx := N, ct := N, bk := tz D } σ H1) ∧ (b = false → ∀ H1, Same H H1 → tz D σ H1)) :
    tSeq (tWhile c tb) tz D σ H := ⟨W, ⟨m0, h0⟩, fun m σ H w => by
  obtain ⟨b, hc, h1, h2⟩ := hs m σ H w
  refine hc H (Same.refl _) _ fun H2 s2 => ?_
  cases b with
  | true => exact h1 rfl H2 s2
  | false => exact h2 rfl H2 s2⟩
end
theorem lt_int {a b : Nat} : decide ((a : Int) < (b : Int)) = decide (a < b) := by
  by_cases h : a < b
  · rw [decide_eq_true h, decide_eq_true (by omega)]
  · rw [decide_eq_false h, decide_eq_false (by omega)]
theorem take_snoc {α : Type} {l : List α} {j : Nat} {x : α} (h : l[j]? = some x) : l.take (j + 1) = l.take j ++ [x] := by rw [List.take_succ, h]; rfl
theorem zip_get {α β : Type} {xs : List α} {ys : List β} {j : Nat} {x : α} {y : β} (h1 : xs[j]? = some x) (h2 : ys[j]? = some y) : (xs.zip ys)[j]? = some (x, y) := by
  rw [List.getElem?_zip_eq_some]; exact ⟨h1, h2⟩
theorem str_at {xs : List Str} {j : Nat} {v : V} (h : (xs.map V.str)[j]? = some v) : ∃ s, xs[j]? = some s ∧ v = .str s := by
  rw [List.getElem?_map] at h
  cases e : xs[j]? with
  | none => rw [e] at h; cases h
  | some s => rw [e] at h; exact ⟨s, rfl, (Option.some.inj h).symm⟩
theorem int_at {xs : List Int} {j : Nat} {v : V} (h : (xs.map V.int)[j]? = some v) : ∃ s, xs[j]? = some s ∧ v = .int s := by
  rw [List.getElem?_map] at h
  cases e : xs[j]? with
  | none => rw [e] at h; cases h
  | some s => rw [e] at h; exact ⟨s, rfl, (Option.some.inj h).symm⟩
theorem sqt_upd {K : PySem.W.Frag} {H : Hp} {D a : Addr} {u o : HO} {xs : List V} (hD : H D = some u) (n1 : ∀ zs, u ≠ .tup zs) (n2 : ∀ x zs, u ≠ .frz x (.tup zs)) (h : SqT K H a xs) : SqT K (upd H D o) a xs := h.imp (fun z => rd_other z fun e => by
  subst e
  rcases z with z | ⟨x, z⟩
  · rw [hD] at z; exact n1 _ (Option.some.inj z)
  · rw [hD] at z; exact n2 _ _ (Option.some.inj z)) id
end Ag

set_option Elab.async false
set_option linter.all false
set_option maxRecDepth 100000
set_option maxHeartbeats 2000000
set_option pp.maxSteps 300
/-! len(o) by an own __len__; o == x by an own __eq__, whatever it answers. -/
namespace Ag
open PySem PySem.Spec PyProof.Rows L2
section
variable {X : Cx} {CX : CXT} {C f : Addr} {k : Nat} {fd : FuncData} {ps : List Str} {sp : Sp} {E : XK}
/-- an own def run by a built-in one -/
theorem run_sub {A : Around} {pins : List (Addr × Obj)} {σ : L2.St} {H : Hp} {s : Shared} {Q : VK} {us : List Value} {vs : List V} (F : FnOk X.prog X.w X.K X.mg X.base CX k f fd ps sp) (hr : Room k A) (fr : A.frames = X.A.frames) (hb : Binds X.K fd ps []) (hx : Passes CX X E)
    (I : Inv X pins σ H s) (r : Vals vs us) (h : sp vs H Q E) : wpAny (model X.prog X.w) A (call (.ref f) us) (EP X pins σ Q) X.xe s := by
  have hl : us.length = ps.length := by rw [← r.length]; exact F.len _ _ _ _ h
  have bd := hb s us I.kIn (by rw [List.append_nil]; exact hl)
  rw [List.append_nil] at bd
  have e1 := I.env0
  have e0 : Env0 X.prog X.w X.K X.mg X.base A X.stack s H := { frames := by rw [fr]; exact e1.frames, mod := e1.mod, bs := e1.bs, bsz := e1.bsz, funs := e1.funs, frf := e1.frf, hok := e1.hok, bare := e1.bare }
  refine wpAny_call (codeAny_mono (F.run A X.stack s H ⟨us, []⟩ us vs Q E hr e0 bd r h) fun z s' hq => ?_)
  cases z with
  | error e => exact hx pins σ H s e s' I hq
  | ok fl =>
    cases fl with
    | ret u => exact I.after hq
    | next => exact False.elim hq
    | brk => exact False.elim hq
    | cont => exact False.elim hq
def rLenO (C : Addr) (sp : Sp) (E : XK) : List V → Hp → VK → Prop := fun xs H Q => ∃ b dx fs, xs = [.ref b] ∧ H b = some (.ins C dx fs) ∧ sp [.ref b] H (fun v H' => ∃ n : Nat, v = .int (n : Int) ∧ n ≤ 1000000 ∧ Q (.int (n : Int)) H') E
theorem call_lenO (F : FnOk X.prog X.w X.K X.mg X.base CX k f fd ps sp) (m : Meth X.K C "__len__" f) (hr : Room (k + 1) X.A) (hb : Binds X.K fd ps []) (hx : Passes CX X E) : CallR X (.builtin "len") (rLenO C sp E) := by
  intro pins s σ H xs us Q I r h
  obtain ⟨b, dx, fs, rfl, hB, hsp⟩ := h
  obtain ⟨u, rfl, ru⟩ := r.one
  cases ru
  obtain ⟨mA, J, _⟩ := ins_get I.hok hB
  obtain ⟨od, J, _⟩ := J.look
  refine Calls.call_function_entry kind_len plain_len entry_len (args_len1 _) ?_
  unfold Builtin.«len»
  refine wpAny_bind (m := oneArg "len" _) (wpAny_pure (wpAny_bind (m := callSpecial? (.ref b) (PySem.Str.ofString "__len__")) (PySem.W.special_fn I.kIn J m.at_ (beq_iff_eq.mp m.fn) (wpAny_mono (run_sub F hr.in1 rfl hb hx I (vs := [V.ref b]) (.cons rfl .nil) hsp) (fun v s' hv => ?_) fun _ _ z => z))))
  obtain ⟨w, H', I', rw', n, rfl, hn, q⟩ := hv
  obtain ⟨t, rfl⟩ := rw'
  refine wpAny_bind (wpAny_holding (wpAny_pure (wpAny_bind (wpAny_letGo ?_))))
  show wpAny _ _ (if (n : Int) < 0 then _ else _) _ _ s'
  rw [if_neg (by omega)]
  show wpAny _ _ (if (n : Int) ≥ 2 ^ 63 then _ else _) _ _ s'
  rw [if_neg (by omega)]
  exact wpAny_bind (wpAny_mkInt (wpAny_pure ⟨_, rfl, ⟨.int n, H', I'.tok _, ⟨_, rfl⟩, q⟩⟩))
/-- what an own == may be asked about: another of the class, or a tuple -/
def Rgt (K : PySem.W.Frag) (C : Addr) (y : V) (H : Hp) : Prop := ∃ a, y = .ref a ∧ ((∃ dx fs, H a = some (.ins C dx fs)) ∨ (∃ xs, SqT K H a xs) ∧ PySem.W.subIn K (.type "tuple") (.ref C) = some false)
def rEqO (K : PySem.W.Frag) (C : Addr) (sp : Sp) (E : XK) : R2 := fun x y H Q => ∃ b dx fs, x = .ref b ∧ H b = some (.ins C dx fs) ∧ Rgt K C y H ∧ sp [.ref b, y] H (fun v H' => ∃ c, v = .bl c ∧ Q (.bl c) H') E
theorem op_eqO (F : FnOk X.prog X.w X.K X.mg X.base CX k f fd ps sp) (m : Meth X.K C "__eq__" f) (hr : Room k X.A) (hb : Binds X.K fd ps []) (hx : Passes CX X E) : OpR X (compareOp .Eq) (rEqO X.K C sp E) := by
  intro pins s σ H x y v u Q I rx ry h
  obtain ⟨b, dx, fs, rfl, hB, ⟨a, rfl, hy⟩, hsp⟩ := h
  cases rx; cases ry
  obtain ⟨mA, J, _⟩ := ins_get I.hok hB
  obtain ⟨od, J, _⟩ := J.look
  obtain ⟨mF, hF⟩ := I.fr
  have run : wpAny (model X.prog X.w) X.A (call (.ref f) [.ref b, .ref a]) (PySem.W.CmpBack (EP X pins σ Q)) X.xe s := by
    refine wpAny_mono (run_sub F hr rfl hb hx I (vs := [V.ref b, V.ref a]) (.cons rfl (.cons rfl .nil)) hsp) (fun z s' hz => ?_) fun _ _ z => z
    obtain ⟨w, H', I', rw', c, rfl, q⟩ := hz
    cases rw'
    exact ⟨.bl c, H', I', rfl, q⟩
  show wpAny (model X.prog X.w) X.A (richCompare .Eq (.ref b) (.ref a)) (EP X pins σ Q) X.xe s
  rcases hy with ⟨dy, gs, hA⟩ | ⟨⟨ys, hA⟩, hn⟩
  · obtain ⟨mB, J2, _⟩ := ins_get I.hok hA
    obtain ⟨od2, J2, _⟩ := J2.look
    exact PySem.W.cmp_K (op := .Eq) (tb := .ref C) hr.units0 hF I.ok.mod.kin J J2.type (by simp [PySem.W.notFirst]) m.at_ m.fn run
  · obtain ⟨its, rv, ⟨o, ho, hc, _⟩, _⟩ := I.tuple hA
    exact PySem.W.cmp_K (op := .Eq) (tb := .type "tuple") hr.units0 hF I.ok.mod.kin J (fun A Q E s k z => wpAny_typeOf_ref (k _ _ ho) (by rw [hc]; exact z)) (by unfold PySem.W.notFirst; rw [hn]; rfl) m.at_ m.fn run
end
end Ag

set_option Elab.async false
set_option linter.all false
set_option maxRecDepth 100000
set_option maxHeartbeats 2000000
set_option pp.maxSteps 300
/-! x in o by an own __contains__. -/
namespace Ag
open PySem PySem.Spec PyProof.Rows L2
section
variable {X : Cx} {CX : CXT} {C f : Addr} {k : Nat} {fd : FuncData} {ps : List Str} {sp : Sp} {E : XK}
def rInO (neg : Bool) (C : Addr) (sp : Sp) (E : XK) : R2 := fun x y H Q => ∃ b dx fs, y = .ref b ∧ H b = some (.ins C dx fs) ∧ sp [.ref b, x] H (fun v H' => ∃ c, v = .bl c ∧ Q (.bl (if neg = true then !c else c)) H') E
theorem op_inO (F : FnOk X.prog X.w X.K X.mg X.base CX k f fd ps sp) (m : Meth X.K C "__contains__" f) (hr : Room k X.A) (hb : Binds X.K fd ps []) (hx : Passes CX X E) : OpR X (compareOp .In) (rInO false C sp E) := by
  intro pins s σ H x y v u Q I rx ry h
  obtain ⟨b, dx, fs, rfl, hB, hsp⟩ := h
  cases ry
  obtain ⟨mA, J, _⟩ := ins_get I.hok hB
  obtain ⟨od, J, _⟩ := J.look
  obtain ⟨mF, hF⟩ := I.fr
  refine PySem.W.in_K hF I.ok.mod.kin J m.at_ m.fn ?_
  refine wpAny_mono (run_sub F hr rfl hb hx I (vs := [V.ref b, x]) (.cons rfl (.cons rx .nil)) hsp) (fun z s' hz => ?_) fun _ _ z => z
  obtain ⟨w, H', I', rw', c, rfl, q⟩ := hz
  cases rw'
  exact wpAny_truthy_bool ⟨.bl c, H', I', rfl, q⟩
theorem op_notInO (F : FnOk X.prog X.w X.K X.mg X.base CX k f fd ps sp) (m : Meth X.K C "__contains__" f) (hr : Room k X.A) (hb : Binds X.K fd ps []) (hx : Passes CX X E) : OpR X (compareOp .NotIn) (rInO true C sp E) := by
  intro pins s σ H x y v u Q I rx ry h
  obtain ⟨b, dx, fs, rfl, hB, hsp⟩ := h
  cases ry
  obtain ⟨mA, J, _⟩ := ins_get I.hok hB
  obtain ⟨od, J, _⟩ := J.look
  obtain ⟨mF, hF⟩ := I.fr
  refine PySem.W.notIn_K hF I.ok.mod.kin J m.at_ m.fn ?_
  refine wpAny_mono (run_sub F hr rfl hb hx I (vs := [V.ref b, x]) (.cons rfl (.cons rx .nil)) hsp) (fun z s' hz => ?_) fun _ _ z => z
  obtain ⟨w, H', I', rw', c, rfl, q⟩ := hz
  cases rw'
  exact wpAny_truthy_bool ⟨.bl (!c), H', I', rfl, q⟩
end
end Ag

set_option Elab.async false
set_option linter.all false
set_option maxRecDepth 100000
set_option maxHeartbeats 2000000
set_option pp.maxSteps 300
/-! a + b, a - b, a | b by an own __add__, __sub__, __or__ that hands back an object; == asked of any data. -/
namespace Ag
open PySem PySem.Spec PyProof.Rows L2
abbrev tyNames : List String := ["NoneType", "bool", "int", "str", "list", "tuple"]
theorem ty_mem {K : PySem.W.Frag} {H : Hp} {x : V} {d : PyData} (h : Dp K H x d) : tyName d ∈ tyNames := by cases h <;> simp [tyName, tyNames]
theorem looks_ty {X : Cx} {pins : List (Addr × Obj)} {σ : L2.St} {H : Hp} {s : Shared} {M : Model} {x : V} {u : Value} {d : PyData} (I : Inv X pins σ H s) (rx : RelV x u) (h : Dp X.K H x d) : PySem.W.Looks M s.heap (typeOf u) (.type (tyName d)) := by
  cases h with
  | non => cases (show u = Value.none from rx); exact PySem.W.Looks.of_pure rfl
  | bl y => cases (show u = Value.bool y from rx); exact PySem.W.Looks.of_pure rfl
  | int i => obtain ⟨t, q⟩ := (show ∃ t, u = Value.int i t from rx); cases q; exact PySem.W.Looks.of_pure rfl
  | str y => obtain ⟨t, q⟩ := (show ∃ t, u = Value.str y t from rx); cases q; exact PySem.W.Looks.of_pure rfl
  | lst q r =>
    cases rx
    obtain ⟨its, rv, ⟨o, n, ho, hc, _⟩, _⟩ := I.list q
    exact fun A Q E s k z => wpAny_typeOf_ref (k _ _ ho) (by rw [hc]; exact z)
  | tup q r =>
    cases rx
    obtain ⟨its, rv, ⟨o, ho, hc, _⟩, _⟩ := I.tuple q
    exact fun A Q E s k z => wpAny_typeOf_ref (k _ _ ho) (by rw [hc]; exact z)
section
open PySem.W
variable {prog : Program} {w : World} {A : Around} {E : Value → Shared → Prop} {s : Shared} {K : Frag} {x C L f : Addr} {h₀ : Heap} {m : Str → Option Value} {ox : Obj} {od : Option Obj}
theorem bin_any {T : String} {op : Operator} {b : Value} {fo ro rc : Option Value} {Q : Value → Shared → Prop} (F : PyProof.Rows.Fr h₀ L s.heap m) (X₀ : K.In h₀) (I : InstAt s.heap x ox C od) (hb : Looks (model prog w) s.heap (typeOf b) (.type T)) (hc : selfFirst K C = true)
    (hs : findIn K (.ref C) (PySem.dunder op.info.2) = some (some (.ref f))) (hf : isFn K (.ref f) = true) (hr : findIn K (.ref C) (dunderR op.info.2) = some rc) (hp : rc = none ∨ ∃ g : Addr, rc = some (.ref g))
    (h1 : findIn K (.type T) (PySem.dunder op.info.2) = some fo) (h2 : findIn K (.type T) (dunderR op.info.2) = some ro) (hsub : subIn K (.type T) (.ref C) = some false)
    (h : wpAny (model prog w) A (call (.ref f) [.ref x, b]) (PySem.W.CmpBack Q) E s) : wpAny (model prog w) A (binaryOp op (.ref x) b) Q E s := by
  have X := X₀.keeps F.keep
  obtain ⟨cd, rest, hcd, hm⟩ := ksp_first hc
  rcases hi : op.info with ⟨sym, nm'⟩
  rw [hi] at hs hr h1 h2
  dsimp only at hs hr h1 h2
  have one := ksp_try X I hs hf h
  obtain ⟨hh, g, d, tt, os⟩ := s
  have L1 : Looks (model prog w) hh (typeOf (.ref x)) (.ref C) := I.type
  have L2 : Looks (model prog w) hh (typeOf b) (.type T) := hb
  have L3 : Looks (model prog w) hh (fillsNumberSlot (.ref C) nm') true := fills_K X hcd hm hs
  have L4 : Looks (model prog w) hh (fillsNumberSlot (.type T) nm') ((fo.isSome && !isSeqSlot fo) || (ro.isSome && !isSeqSlot ro)) := ksp_fillsT X h1 h2
  have L5 : Looks (model prog w) hh (isSubtype (.type T) (.ref C)) false := looks_subIn X hsub
  have L6 : Looks (model prog w) hh (numberSlotInPython (.ref C) nm') true := ksp_inPy X hs hr hp
  have L7 : Looks (model prog w) hh (numberSlotInPython (.type T) nm') false := Looks.of_pure rfl
  have L8 : Looks (model prog w) hh (typeLookup (.type T) (dunderR nm')) ro := looks_findIn X h2
  generalize ((fo.isSome && !isSeqSlot fo) || (ro.isSome && !isSeqSlot ro)) = right at L4
  have hne : (Value.ref C == Value.type T) = false := Bool.eq_false_iff.mpr fun q => by cases beq_iff_eq.mp q
  simp only [binaryOp, hi]
  refine wpAny_holding (wpAny_bind ?_)
  unfold binaryOp1
  refine wpAny_bind (L1.at (wpAny_bind (L2.at (wpAny_bind (L3.at ?_)))))
  simp only [hne, Bool.false_eq_true, if_false]
  cases right with
  | false =>
    ksp_lk
    refine wpAny_mono one (fun r s' hr' => ?_) fun _ _ e => e
    obtain ⟨v, rfl, hq⟩ := hr'
    ksp_lk
    exact hq
  | true =>
    ksp_lk
    refine wpAny_mono one (fun r s' hr' => ?_) fun _ _ e => e
    obtain ⟨v, rfl, hq⟩ := hr'
    ksp_lk
    exact hq
end
/-- what the class tells of an operator, and what the built-in types tell of it -/
structure OpC (K : PySem.W.Frag) (C : Addr) (op : Operator) : Prop where
  first : PySem.W.selfFirst K C = true
  refl : ∃ rc, PySem.W.findIn K (.ref C) (PySem.dunderR op.info.2) = some rc ∧ (rc = none ∨ ∃ g : Addr, rc = some (.ref g))
  tys : ∀ T, T ∈ tyNames → ∃ fo ro, PySem.W.findIn K (.type T) (PySem.dunder op.info.2) = some fo ∧ PySem.W.findIn K (.type T) (PySem.dunderR op.info.2) = some ro ∧ PySem.W.subIn K (.type T) (.ref C) = some false
abbrev NotSub (K : PySem.W.Frag) (C : Addr) : Prop := ∀ T, T ∈ tyNames → PySem.W.subIn K (.type T) (.ref C) = some false
abbrev NotKit (K : PySem.W.Frag) (C : Addr) : Prop := ∀ T, T ∈ tyNames → PySem.W.kitOne K (.type T) (.ref C) = some false
theorem dund_add : PySem.dunder (Operator.info .Add).2 = ("__add__" : Str) := by decide +kernel
theorem dund_sub : PySem.dunder (Operator.info .Sub).2 = ("__sub__" : Str) := by decide +kernel
theorem dund_or : PySem.dunder (Operator.info .BitOr).2 = ("__or__" : Str) := by decide +kernel
/-- an op's right side: another of the class, or any datum -/
def RgtD (K : PySem.W.Frag) (C : Addr) (y : V) (H : Hp) : Prop := (∃ a dx fs, y = .ref a ∧ H a = some (.ins C dx fs)) ∨ ∃ d, Dp K H y d
section
variable {X : Cx} {CX : CXT} {C f : Addr} {k : Nat} {fd : FuncData} {ps : List Str} {sp : Sp} {E : XK} {op : Operator}
def rBinO (K : PySem.W.Frag) (C : Addr) (sp : Sp) (E : XK) : R2 := fun x y H Q => ∃ b dx fs, x = .ref b ∧ H b = some (.ins C dx fs) ∧ RgtD K C y H ∧ sp [.ref b, y] H (fun v H' => ∃ a, v = .ref a ∧ Q v H') E
theorem op_binO (F : FnOk X.prog X.w X.K X.mg X.base CX k f fd ps sp) (c : OpC X.K C op) {nm : Str} (m : Meth X.K C nm f) (en : PySem.dunder op.info.2 = nm) (hr : Room k X.A) (hb : Binds X.K fd ps []) (hx : Passes CX X E) : OpR X (binaryOp op) (rBinO X.K C sp E) := by
  intro pins s σ H x y v u Q I rx ry h
  obtain ⟨b, dx, fs, rfl, hB, hy, hsp⟩ := h
  cases rx
  obtain ⟨mA, J, _⟩ := ins_get I.hok hB
  obtain ⟨od, J, _⟩ := J.look
  obtain ⟨mF, hF⟩ := I.fr
  have run : wpAny (model X.prog X.w) X.A (call (.ref f) [.ref b, u]) (PySem.W.CmpBack (EP X pins σ Q)) X.xe s := by
    refine wpAny_mono (run_sub F hr rfl hb hx I (vs := [V.ref b, y]) (.cons rfl (.cons ry .nil)) hsp) (fun z s' hz => ?_) fun _ _ z => z
    obtain ⟨w, H', I', rw', a, rfl, q⟩ := hz
    cases rw'
    exact ⟨.ref a, H', I', rfl, q⟩
  show wpAny (model X.prog X.w) X.A (binaryOp op (.ref b) u) (EP X pins σ Q) X.xe s
  rcases hy with ⟨a, dy, gs, rfl, hA⟩ | ⟨d, hd⟩
  · cases ry
    obtain ⟨mB, J2, _⟩ := ins_get I.hok hA
    obtain ⟨od2, J2, _⟩ := J2.look
    exact PySem.W.binop_K hF I.ok.mod.kin J J2.type c.first (en ▸ m.at_) m.fn run
  · obtain ⟨rc, h1, h2⟩ := c.refl
    obtain ⟨fo, ro, h3, h4, h5⟩ := c.tys _ (ty_mem hd)
    exact bin_any hF I.ok.mod.kin J (looks_ty I ry hd) c.first (en ▸ m.at_) m.fn h1 h2 h3 h4 h5 run
def rEqA (K : PySem.W.Frag) (C : Addr) (sp : Sp) (E : XK) : R2 := fun x y H Q => ∃ b dx fs, x = .ref b ∧ H b = some (.ins C dx fs) ∧ RgtD K C y H ∧ sp [.ref b, y] H (fun v H' => ∃ c, v = .bl c ∧ Q (.bl c) H') E
theorem op_eqA (F : FnOk X.prog X.w X.K X.mg X.base CX k f fd ps sp) (m : Meth X.K C "__eq__" f) (sb : NotSub X.K C) (hr : Room k X.A) (hb : Binds X.K fd ps []) (hx : Passes CX X E) : OpR X (compareOp .Eq) (rEqA X.K C sp E) := by
  intro pins s σ H x y v u Q I rx ry h
  obtain ⟨b, dx, fs, rfl, hB, hy, hsp⟩ := h
  cases rx
  obtain ⟨mA, J, _⟩ := ins_get I.hok hB
  obtain ⟨od, J, _⟩ := J.look
  obtain ⟨mF, hF⟩ := I.fr
  have run : wpAny (model X.prog X.w) X.A (call (.ref f) [.ref b, u]) (PySem.W.CmpBack (EP X pins σ Q)) X.xe s := by
    refine wpAny_mono (run_sub F hr rfl hb hx I (vs := [V.ref b, y]) (.cons rfl (.cons ry .nil)) hsp) (fun z s' hz => ?_) fun _ _ z => z
    obtain ⟨w, H', I', rw', c, rfl, q⟩ := hz
    cases rw'
    exact ⟨.bl c, H', I', rfl, q⟩
  show wpAny (model X.prog X.w) X.A (richCompare .Eq (.ref b) u) (EP X pins σ Q) X.xe s
  rcases hy with ⟨a, dy, gs, rfl, hA⟩ | ⟨d, hd⟩
  · cases ry
    obtain ⟨mB, J2, _⟩ := ins_get I.hok hA
    obtain ⟨od2, J2, _⟩ := J2.look
    exact PySem.W.cmp_K (op := .Eq) (tb := .ref C) hr.units0 hF I.ok.mod.kin J J2.type (by simp [PySem.W.notFirst]) m.at_ m.fn run
  · exact PySem.W.cmp_K (op := .Eq) (tb := .type (tyName d)) hr.units0 hF I.ok.mod.kin J (looks_ty I ry hd) (by unfold PySem.W.notFirst; rw [sb _ (ty_mem hd)]; rfl) m.at_ m.fn run
end
/-- isinstance(x, C), C a class of the text, x any datum -/
theorem ed_isiC {K : PySem.W.Frag} {σ : L2.St} {F : Addr → Prop} {H : Hp} {i : Nat} {x : V} {C : Addr} {d : PyData} (h : σ[i]? = some (some x)) (hd : Dp K H x d) (nk : NotKit K C) : ED K (tCB (rIsi K) (tCons (tVar i) (tCons (tC (.ref C)) tNil))) σ F H (.bool false) :=
  fun H1 s1 Q1 q1 => ⟨x, h, x, .ref C, .type (tyName d), _, false, rfl, .own _, tyx_of (dp_mono s1 hd), nk _ (ty_mem hd), q1 _ _ (Same.refl _) (.bl _)⟩
/-- .. and x of the class -/
theorem ed_isiO {K : PySem.W.Frag} {σ : L2.St} {F : Addr → Prop} {H : Hp} {i : Nat} {x : V} {t : Value} {C : Addr} {b : Bool} (h : σ[i]? = some (some x)) (ty : ∀ H1, Same H H1 → TyX K H1 x t) (kt : PySem.W.kitOne K t (.ref C) = some b) : ED K (tCB (rIsi K) (tCons (tVar i) (tCons (tC (.ref C)) tNil))) σ F H (.bool b) :=
  fun H1 s1 Q1 q1 => ⟨x, h, x, .ref C, t, _, b, rfl, .own _, ty H1 s1, kt, q1 _ _ (Same.refl _) (.bl _)⟩
end Ag

set_option Elab.async false
set_option linter.all false
set_option maxRecDepth 100000
set_option maxHeartbeats 1000000
namespace Ag
open PySem PySem.Spec PyProof.Rows L2
/-! ### the text by places -/
def top (i : Nat) : Stmt := PySem.Challenge.pw_againnotes_k18_whole_servers_in_any_orde.main.body.getD i (.Pass ⟨0, 0, 0, 0⟩)
abbrev s_wall : Stmt := top 0
abbrev s_BadRow___init__ : Stmt := inClass (top 3) 0
abbrev s_ascending : Stmt := top 5
abbrev s_is_name : Stmt := top 9
abbrev s_is_row : Stmt := top 11
abbrev s_need_rows : Stmt := top 12
abbrev s_Server___init__ : Stmt := inClass (top 13) 0
abbrev s_Server___eq__ : Stmt := inClass (top 13) 1
abbrev s_Server___len__ : Stmt := inClass (top 13) 2
abbrev s_Server___contains__ : Stmt := inClass (top 13) 3
abbrev s_Server___add__ : Stmt := inClass (top 13) 4
abbrev s_Server___sub__ : Stmt := inClass (top 13) 5
abbrev s_Server___or__ : Stmt := inClass (top 13) 6
abbrev s_Server_answers : Stmt := inClass (top 13) 7
abbrev s_Server_known : Stmt := inClass (top 13) 8
abbrev s_Server_halls : Stmt := inClass (top 13) 9
abbrev s_Server_calls : Stmt := inClass (top 13) 10
abbrev s_Server_doubts : Stmt := inClass (top 13) 11
abbrev s_law_pen : Stmt := top 15
abbrev s_law_draw : Stmt := top 16
abbrev s_law_pick : Stmt := top 17
abbrev s_law_shuffled : Stmt := top 18
abbrev s_law_some : Stmt := top 19
abbrev s_law_name : Stmt := top 20
abbrev s_law_names : Stmt := top 21
abbrev s_law_mixed : Stmt := top 22
abbrev s_law_same : Stmt := top 23
abbrev s_law_tight : Stmt := top 24
abbrev s_law_some_machine : Stmt := top 25
abbrev s_law_turn_machine : Stmt := top 26
abbrev s_law_goal : Stmt := top 27
abbrev s_law_server_of : Stmt := top 28
abbrev s_law_made_server : Stmt := top 29
abbrev s_law_scene : Stmt := top 30
abbrev s_law_told : Stmt := top 31
abbrev s_law : Stmt := top 32
structure DefAt (K : PySem.W.Frag) (mg : Str → Option Value) (x : Str) (st : Stmt) (ps : List Str) (a : Addr) (fd : FuncData) : Prop where
  fn : Fun K x x st a fd
  mg : mg x = some (.ref a)
  bd : Binds K fd ps []
structure MethAt (K : PySem.W.Frag) (x qual : Str) (st : Stmt) (ps : List Str) (a : Addr) (fd : FuncData) : Prop where
  fn : Fun K x qual st a fd
  bd : Binds K fd ps []
structure DefAtD (K : PySem.W.Frag) (mg : Str → Option Value) (x : Str) (st : Stmt) (ps : List Str) (dvs : List V) (a : Addr) (fd : FuncData) : Prop where
  fn : FunD K x x (defArgs st) (defBody st) (defScope st) dvs [] a fd
  mg : mg x = some (.ref a)
  bd : Binds K fd ps []
structure MethAtD (K : PySem.W.Frag) (x qual : Str) (st : Stmt) (ps : List Str) (dvs : List V) (a : Addr) (fd : FuncData) : Prop where
  fn : FunD K x qual (defArgs st) (defBody st) (defScope st) dvs [] a fd
  bd : Binds K fd ps []
theorem bt_tuple : bootBuiltins ("tuple" : Str) = some (.type "tuple") := by decide +kernel
theorem bt_all : bootBuiltins ("all" : Str) = some (.builtin "all") := by decide +kernel
theorem bt_range : bootBuiltins ("range" : Str) = some (.type "range") := by decide +kernel
theorem bt_isinstance : bootBuiltins ("isinstance" : Str) = some (.builtin "isinstance") := by decide +kernel
theorem bt_int : bootBuiltins ("int" : Str) = some (.type "int") := by decide +kernel
theorem bt_len : bootBuiltins ("len" : Str) = some (.builtin "len") := by decide +kernel
theorem bt_enumerate : bootBuiltins ("enumerate" : Str) = some (.type "enumerate") := by decide +kernel
theorem bt_sorted : bootBuiltins ("sorted" : Str) = some (.builtin "sorted") := by decide +kernel
theorem bt_dict : bootBuiltins ("dict" : Str) = some (.type "dict") := by decide +kernel
theorem bt_list : bootBuiltins ("list" : Str) = some (.type "list") := by decide +kernel
theorem bt_str : bootBuiltins ("str" : Str) = some (.type "str") := by decide +kernel
theorem bt_set : bootBuiltins ("set" : Str) = some (.type "set") := by decide +kernel
theorem bt_bool : bootBuiltins ("bool" : Str) = some (.type "bool") := by decide +kernel
theorem bt_repr : bootBuiltins ("repr" : Str) = some (.builtin "repr") := by decide +kernel
theorem bt_min : bootBuiltins ("min" : Str) = some (.builtin "min") := by decide +kernel
theorem bt_zip : bootBuiltins ("zip" : Str) = some (.type "zip") := by decide +kernel
structure Txt (w : World) (K : PySem.W.Frag) (mg : Str → Option Value) where
  C_AgainError : Addr
  g_AgainError : mg "AgainError" = some (.ref C_AgainError)
  ox_AgainError : OexC K C_AgainError
  xf_AgainError : XfC K C_AgainError
  sb_AgainError : PySem.W.subIn K (.ref C_AgainError) (.ref C_AgainError) = some true
  C_BadRow : Addr
  g_BadRow : mg "BadRow" = some (.ref C_BadRow)
  a_BadRow___init__ : Addr
  d_BadRow___init__ : FuncData
  D_BadRow___init__ : MethAt K "__init__" "BadRow.__init__" s_BadRow___init__ ["self", "what", "row"] a_BadRow___init__ d_BadRow___init__
  na_BadRow_what : NoAttr K C_BadRow "what"
  na_BadRow_row : NoAttr K C_BadRow "row"
  ox_BadRow : OexC K C_BadRow
  xf_BadRow : XfC K C_BadRow
  sb_BadRow : PySem.W.subIn K (.ref C_BadRow) (.ref C_BadRow) = some true
  ic_BadRow : PySem.W.findIn K (.ref C_BadRow) "__init__" = some (some (.ref a_BadRow___init__))
  ti_BadRow : PySem.W.typeIn K (.ref a_BadRow___init__) = some (.type "function")
  C_Server : Addr
  g_Server : mg "Server" = some (.ref C_Server)
  a_Server___init__ : Addr
  d_Server___init__ : FuncData
  D_Server___init__ : MethAt K "__init__" "Server.__init__" s_Server___init__ ["self", "rows"] a_Server___init__ d_Server___init__
  a_Server___eq__ : Addr
  d_Server___eq__ : FuncData
  D_Server___eq__ : MethAt K "__eq__" "Server.__eq__" s_Server___eq__ ["self", "other"] a_Server___eq__ d_Server___eq__
  a_Server___len__ : Addr
  d_Server___len__ : FuncData
  D_Server___len__ : MethAt K "__len__" "Server.__len__" s_Server___len__ ["self"] a_Server___len__ d_Server___len__
  a_Server___contains__ : Addr
  d_Server___contains__ : FuncData
  D_Server___contains__ : MethAt K "__contains__" "Server.__contains__" s_Server___contains__ ["self", "row"] a_Server___contains__ d_Server___contains__
  a_Server___add__ : Addr
  d_Server___add__ : FuncData
  D_Server___add__ : MethAt K "__add__" "Server.__add__" s_Server___add__ ["self", "row"] a_Server___add__ d_Server___add__
  a_Server___sub__ : Addr
  d_Server___sub__ : FuncData
  D_Server___sub__ : MethAt K "__sub__" "Server.__sub__" s_Server___sub__ ["self", "row"] a_Server___sub__ d_Server___sub__
  a_Server___or__ : Addr
  d_Server___or__ : FuncData
  D_Server___or__ : MethAt K "__or__" "Server.__or__" s_Server___or__ ["self", "other"] a_Server___or__ d_Server___or__
  a_Server_answers : Addr
  d_Server_answers : FuncData
  D_Server_answers : MethAt K "answers" "Server.answers" s_Server_answers ["self", "hall", "call"] a_Server_answers d_Server_answers
  a_Server_known : Addr
  d_Server_known : FuncData
  D_Server_known : MethAt K "known" "Server.known" s_Server_known ["self", "hall"] a_Server_known d_Server_known
  a_Server_halls : Addr
  d_Server_halls : FuncData
  D_Server_halls : MethAt K "halls" "Server.halls" s_Server_halls ["self"] a_Server_halls d_Server_halls
  a_Server_calls : Addr
  d_Server_calls : FuncData
  D_Server_calls : MethAt K "calls" "Server.calls" s_Server_calls ["self"] a_Server_calls d_Server_calls
  a_Server_doubts : Addr
  d_Server_doubts : FuncData
  D_Server_doubts : MethAt K "doubts" "Server.doubts" s_Server_doubts ["self"] a_Server_doubts d_Server_doubts
  na_Server_rows : NoAttr K C_Server "rows"
  na_Server__answers : NoAttr K C_Server "_answers"
  na_Server__known : NoAttr K C_Server "_known"
  cl_Server : Cls K C_Server
  mk_Server : Mk K C_Server a_Server___init__
  mt_Server___eq__ : Meth K C_Server "__eq__" a_Server___eq__
  mt_Server___len__ : Meth K C_Server "__len__" a_Server___len__
  mt_Server___contains__ : Meth K C_Server "__contains__" a_Server___contains__
  mt_Server___add__ : Meth K C_Server "__add__" a_Server___add__
  mt_Server___sub__ : Meth K C_Server "__sub__" a_Server___sub__
  mt_Server___or__ : Meth K C_Server "__or__" a_Server___or__
  mt_Server_answers : Meth K C_Server "answers" a_Server_answers
  mt_Server_known : Meth K C_Server "known" a_Server_known
  mt_Server_halls : Meth K C_Server "halls" a_Server_halls
  mt_Server_calls : Meth K C_Server "calls" a_Server_calls
  mt_Server_doubts : Meth K C_Server "doubts" a_Server_doubts
  ki_Server_Server : PySem.W.kitOne K (.ref C_Server) (.ref C_Server) = some true
  ty_Server : ∀ (H : Hp) (a dx : Addr) (fs : List (Str × V)), H a = some (.ins C_Server dx fs) → TyOf K H (.ref a) (.ref C_Server)
  oc_Server_Add : OpC K C_Server .Add
  oc_Server_Sub : OpC K C_Server .Sub
  oc_Server_BitOr : OpC K C_Server .BitOr
  ns_Server : NotSub K C_Server
  nk_Server : NotKit K C_Server
  om_Server : PySem.W.mroIn K C_Server (.type "object") = some true
  on_Server : PySem.W.findIn K (.ref C_Server) "__ne__" = some (some (.builtin "object.__ne__"))
  a_wall : Addr
  d_wall : FuncData
  D_wall : DefAt K mg "_wall" s_wall ["k"] a_wall d_wall
  a_ascending : Addr
  d_ascending : FuncData
  D_ascending : DefAt K mg "ascending" s_ascending ["names"] a_ascending d_ascending
  a_is_name : Addr
  d_is_name : FuncData
  D_is_name : DefAt K mg "is_name" s_is_name ["value"] a_is_name d_is_name
  a_is_row : Addr
  d_is_row : FuncData
  D_is_row : DefAt K mg "is_row" s_is_row ["value"] a_is_row d_is_row
  a_need_rows : Addr
  d_need_rows : FuncData
  D_need_rows : DefAt K mg "need_rows" s_need_rows ["rows"] a_need_rows d_need_rows
  a_law_pen : Addr
  d_law_pen : FuncData
  D_law_pen : DefAt K mg "_law_pen" s_law_pen ["script"] a_law_pen d_law_pen
  a_law_draw : Addr
  d_law_draw : FuncData
  D_law_draw : DefAt K mg "_law_draw" s_law_draw ["pen", "many"] a_law_draw d_law_draw
  a_law_pick : Addr
  d_law_pick : FuncData
  D_law_pick : DefAt K mg "_law_pick" s_law_pick ["pen", "some"] a_law_pick d_law_pick
  a_law_shuffled : Addr
  d_law_shuffled : FuncData
  D_law_shuffled : DefAt K mg "_law_shuffled" s_law_shuffled ["pen", "some"] a_law_shuffled d_law_shuffled
  a_law_some : Addr
  d_law_some : FuncData
  D_law_some : DefAt K mg "_law_some" s_law_some ["pen", "some", "most"] a_law_some d_law_some
  a_law_name : Addr
  d_law_name : FuncData
  D_law_name : DefAt K mg "_law_name" s_law_name ["pen", "index"] a_law_name d_law_name
  a_law_names : Addr
  d_law_names : FuncData
  D_law_names : DefAt K mg "_law_names" s_law_names ["pen", "many"] a_law_names d_law_names
  a_law_mixed : Addr
  d_law_mixed : FuncData
  D_law_mixed : DefAt K mg "_law_mixed" s_law_mixed ["pen", "some"] a_law_mixed d_law_mixed
  a_law_same : Addr
  d_law_same : FuncData
  D_law_same : DefAt K mg "_law_same" s_law_same ["told", "due"] a_law_same d_law_same
  a_law_tight : Addr
  d_law_tight : FuncData
  D_law_tight : DefAt K mg "_law_tight" s_law_tight ["calls", "rows", "marks"] a_law_tight d_law_tight
  a_law_some_machine : Addr
  d_law_some_machine : FuncData
  D_law_some_machine : DefAt K mg "_law_some_machine" s_law_some_machine ["pen", "calls", "many"] a_law_some_machine d_law_some_machine
  a_law_turn_machine : Addr
  d_law_turn_machine : FuncData
  D_law_turn_machine : DefAt K mg "_law_turn_machine" s_law_turn_machine ["pen", "calls", "many"] a_law_turn_machine d_law_turn_machine
  a_law_goal : Addr
  d_law_goal : FuncData
  D_law_goal : DefAt K mg "_law_goal" s_law_goal ["pen"] a_law_goal d_law_goal
  a_law_server_of : Addr
  d_law_server_of : FuncData
  D_law_server_of : DefAt K mg "_law_server_of" s_law_server_of ["rows"] a_law_server_of d_law_server_of
  a_law_made_server : Addr
  d_law_made_server : FuncData
  D_law_made_server : DefAt K mg "_law_made_server" s_law_made_server ["pen", "server"] a_law_made_server d_law_made_server
  a_law_scene : Addr
  d_law_scene : FuncData
  D_law_scene : DefAt K mg "_law_scene" s_law_scene ["pen"] a_law_scene d_law_scene
  a_law_told : Addr
  d_law_told : FuncData
  D_law_told : DefAt K mg "_law_told" s_law_told ["call"] a_law_told d_law_told
  a_law : Addr
  d_law : FuncData
  D_law : DefAt K mg "law" s_law ["script"] a_law d_law
  t_FIGURES : Tok
  g_FIGURES : mg "FIGURES" = some (.str "0123456789" t_FIGURES)
  t_LETTERS : Tok
  g_LETTERS : mg "LETTERS" = some (.str "abcdefghijklmnopqrstuvwxyz" t_LETTERS)
  b_tuple : mg "tuple" = none
  b_all : mg "all" = none
  b_range : mg "range" = none
  b_isinstance : mg "isinstance" = none
  b_int : mg "int" = none
  b_len : mg "len" = none
  b_enumerate : mg "enumerate" = none
  b_sorted : mg "sorted" = none
  b_dict : mg "dict" = none
  b_list : mg "list" = none
  b_str : mg "str" = none
  b_set : mg "set" = none
  b_bool : mg "bool" = none
  b_repr : mg "repr" = none
  b_min : mg "min" = none
  b_zip : mg "zip" = none
theorem sc_wall : FnScope ["k"] ["k"] (defScope s_wall) := ⟨rfl, rfl, rfl, by decide +kernel, rfl, by decide +kernel, by decide +kernel⟩
theorem sc_BadRow___init__ : FnScope ["self", "what", "row"] ["self", "what", "row"] (defScope s_BadRow___init__) := ⟨rfl, rfl, rfl, by decide +kernel, rfl, by decide +kernel, by decide +kernel⟩
theorem sc_ascending : FnScope ["names"] ["names"] (defScope s_ascending) := ⟨rfl, rfl, rfl, by decide +kernel, rfl, by decide +kernel, by decide +kernel⟩
theorem sc_is_name : FnScope ["value", "sign"] ["value"] (defScope s_is_name) := ⟨rfl, rfl, rfl, by decide +kernel, rfl, by decide +kernel, by decide +kernel⟩
theorem sc_is_row : FnScope ["value", "part"] ["value"] (defScope s_is_row) := ⟨rfl, rfl, rfl, by decide +kernel, rfl, by decide +kernel, by decide +kernel⟩
theorem sc_need_rows : FnScope ["rows", "row"] ["rows"] (defScope s_need_rows) := ⟨rfl, rfl, rfl, by decide +kernel, rfl, by decide +kernel, by decide +kernel⟩
theorem sc_Server___init__ : FnScope ["self", "rows", "told", "hall", "call", "other", "known"] ["self", "rows"] (defScope s_Server___init__) := ⟨rfl, rfl, rfl, by decide +kernel, rfl, by decide +kernel, by decide +kernel⟩
theorem sc_Server___eq__ : FnScope ["self", "other"] ["self", "other"] (defScope s_Server___eq__) := ⟨rfl, rfl, rfl, by decide +kernel, rfl, by decide +kernel, by decide +kernel⟩
theorem sc_Server___len__ : FnScope ["self"] ["self"] (defScope s_Server___len__) := ⟨rfl, rfl, rfl, by decide +kernel, rfl, by decide +kernel, by decide +kernel⟩
theorem sc_Server___contains__ : FnScope ["self", "row"] ["self", "row"] (defScope s_Server___contains__) := ⟨rfl, rfl, rfl, by decide +kernel, rfl, by decide +kernel, by decide +kernel⟩
theorem sc_Server___add__ : FnScope ["self", "row"] ["self", "row"] (defScope s_Server___add__) := ⟨rfl, rfl, rfl, by decide +kernel, rfl, by decide +kernel, by decide +kernel⟩
theorem sc_Server___sub__ : FnScope ["self", "row", "one"] ["self", "row"] (defScope s_Server___sub__) := ⟨rfl, rfl, rfl, by decide +kernel, rfl, by decide +kernel, by decide +kernel⟩
theorem sc_Server___or__ : FnScope ["self", "other"] ["self", "other"] (defScope s_Server___or__) := ⟨rfl, rfl, rfl, by decide +kernel, rfl, by decide +kernel, by decide +kernel⟩
theorem sc_Server_answers : FnScope ["self", "hall", "call"] ["self", "hall", "call"] (defScope s_Server_answers) := ⟨rfl, rfl, rfl, by decide +kernel, rfl, by decide +kernel, by decide +kernel⟩
theorem sc_Server_known : FnScope ["self", "hall"] ["self", "hall"] (defScope s_Server_known) := ⟨rfl, rfl, rfl, by decide +kernel, rfl, by decide +kernel, by decide +kernel⟩
theorem sc_Server_halls : FnScope ["self", "row"] ["self"] (defScope s_Server_halls) := ⟨rfl, rfl, rfl, by decide +kernel, rfl, by decide +kernel, by decide +kernel⟩
theorem sc_Server_calls : FnScope ["self", "row"] ["self"] (defScope s_Server_calls) := ⟨rfl, rfl, rfl, by decide +kernel, rfl, by decide +kernel, by decide +kernel⟩
theorem sc_Server_doubts : FnScope ["self"] ["self"] (defScope s_Server_doubts) := ⟨rfl, rfl, rfl, by decide +kernel, rfl, by decide +kernel, by decide +kernel⟩
theorem sc_law_pen : FnScope ["script", "fold", "cell"] ["script"] (defScope s_law_pen) := ⟨rfl, rfl, rfl, by decide +kernel, rfl, by decide +kernel, by decide +kernel⟩
theorem sc_law_draw : FnScope ["pen", "many", "cell", "digit", "blend"] ["pen", "many"] (defScope s_law_draw) := ⟨rfl, rfl, rfl, by decide +kernel, rfl, by decide +kernel, by decide +kernel⟩
theorem sc_law_pick : FnScope ["pen", "some"] ["pen", "some"] (defScope s_law_pick) := ⟨rfl, rfl, rfl, by decide +kernel, rfl, by decide +kernel, by decide +kernel⟩
theorem sc_law_shuffled : FnScope ["pen", "some", "left", "found", "lap"] ["pen", "some"] (defScope s_law_shuffled) := ⟨rfl, rfl, rfl, by decide +kernel, rfl, by decide +kernel, by decide +kernel⟩
theorem sc_law_some : FnScope ["pen", "some", "most"] ["pen", "some", "most"] (defScope s_law_some) := ⟨rfl, rfl, rfl, by decide +kernel, rfl, by decide +kernel, by decide +kernel⟩
theorem sc_law_name : FnScope ["pen", "index", "word", "spot", "place"] ["pen", "index"] (defScope s_law_name) := ⟨rfl, rfl, rfl, by decide +kernel, rfl, by decide +kernel, by decide +kernel⟩
theorem sc_law_names : FnScope ["pen", "many", "index"] ["pen", "many"] (defScope s_law_names) := ⟨rfl, rfl, rfl, by decide +kernel, rfl, by decide +kernel, by decide +kernel⟩
theorem sc_law_mixed : FnScope ["pen", "some"] ["pen", "some"] (defScope s_law_mixed) := ⟨rfl, rfl, rfl, by decide +kernel, rfl, by decide +kernel, by decide +kernel⟩
theorem sc_law_same : FnScope ["told", "due", "one", "two"] ["told", "due"] (defScope s_law_same) := ⟨rfl, rfl, rfl, by decide +kernel, rfl, by decide +kernel, by decide +kernel⟩
theorem sc_law_tight : FnScope ["calls", "rows", "marks", "many", "kind", "call", "state", "lap", "later", "names", "one", "order", "least", "at", "told", "found", "number"] ["calls", "rows", "marks"] (defScope s_law_tight) := ⟨rfl, rfl, rfl, by decide +kernel, rfl, by decide +kernel, by decide +kernel⟩
theorem sc_law_some_machine : FnScope ["pen", "calls", "many", "rows", "marks", "state", "call"] ["pen", "calls", "many"] (defScope s_law_some_machine) := ⟨rfl, rfl, rfl, by decide +kernel, rfl, by decide +kernel, by decide +kernel⟩
theorem sc_law_turn_machine : FnScope ["pen", "calls", "many", "word", "rows", "marks", "spot", "state", "row", "call"] ["pen", "calls", "many"] (defScope s_law_turn_machine) := ⟨rfl, rfl, rfl, by decide +kernel, rfl, by decide +kernel, by decide +kernel⟩
theorem sc_law_goal : FnScope ["pen", "calls", "kind", "inner", "many", "rows", "row", "call", "names", "marks", "state", "later"] ["pen"] (defScope s_law_goal) := ⟨rfl, rfl, rfl, by decide +kernel, rfl, by decide +kernel, by decide +kernel⟩
theorem sc_law_server_of : FnScope ["rows", "answers", "places", "place", "call", "other", "one"] ["rows"] (defScope s_law_server_of) := ⟨rfl, rfl, rfl, by decide +kernel, rfl, by decide +kernel, by decide +kernel⟩
theorem sc_law_made_server : FnScope ["pen", "server"] ["pen", "server"] (defScope s_law_made_server) := ⟨rfl, rfl, rfl, by decide +kernel, rfl, by decide +kernel, by decide +kernel⟩
theorem sc_law_scene : FnScope ["pen", "machine", "places", "rows", "known", "at", "place", "call"] ["pen"] (defScope s_law_scene) := ⟨rfl, rfl, rfl, by decide +kernel, rfl, by decide +kernel, by decide +kernel⟩
theorem sc_law_told : FnScope ["call", "found", "error"] ["call"] (defScope s_law_told) := ⟨rfl, rfl, rfl, by decide +kernel, rfl, by decide +kernel, by decide +kernel⟩
theorem sc_law : FnScope ["script", "pen", "machine", "server", "rows", "made", "handed", "again", "parts", "row", "place", "whole", "less", "odd", "value", "at", "other"] ["script"] (defScope s_law) := ⟨rfl, rfl, rfl, by decide +kernel, rfl, by decide +kernel, by decide +kernel⟩
end Ag

set_option Elab.async false
set_option linter.all false
set_option maxRecDepth 100000
set_option maxHeartbeats 1000000
namespace Ag
open PySem PySem.Spec PyProof.Rows L2
theorem rd_but {H : Hp} {p : Addr} {o : HO} : But p H (upd H p o) := fun a u n h => by rw [upd_ne n]; exact h
theorem rd_upd {H : Hp} {p c : Addr} {o : HO} {xs : List V} {kvs : List (Key × V)} (hp : H p = some (.dK kvs)) (h : Rd H c (.lst xs)) : Rd (upd H p o) c (.lst xs) := by
  rcases h with h | ⟨u, h⟩
  · exact .inl (by rw [upd_ne (ne_of h hp (fun z => nomatch z))]; exact h)
  · exact .inr ⟨u, by rw [upd_ne (ne_of h hp (fun z => nomatch z))]; exact h⟩
section
variable {P : Program} {w : World} {K : PySem.W.Frag} {mg : Str → Option Value} {base : Heap} (T : Txt w K mg)
theorem ok_draw : FnOk P w K mg base CX0 1 T.a_law_draw T.d_law_draw ["pen", "many"] spDraw := by
  refine T.D_law_draw.fn.ok sc_law_draw (fun vs H Q E h => ?_) (fun cdv A outer s H vs Q E hr h => ?_)
  · obtain ⟨p, c, many, n, rfl, _⟩ := h; rfl
  · obtain ⟨p, c, many, n, rfl, hP, m0, m1, n1, k⟩ := h
    refine ⟨_, (pss_cons (ps_dput (hu_of hr) (pv 0) pe_str (pe_op op_add (pe_dget (hu_of hr) (pv 0) pe_str (fun _ _ => rfl)) pe_int) rfl)
      (C8.pss_cut (ps_if (PW.pt (pw_and (pt_cmpR op_eq (pe_dget (hu_of hr) (pv 0) pe_str (fun _ _ => rfl)) pe_int (nomark _)) (pw_and1 (pt_cmpR op_lt (pe_dget (hu_of hr) (pv 0) pe_str (fun _ _ => rfl)) (pe_callB call_len (by rfl) T.b_len bt_len (pa_cons (pe_dget (hu_of hr) (pv 0) pe_str (fun _ _ => rfl)) pa_nil)) (nomark _))))) (pss_cons (ps_set (i := 2) sc_law_draw.nd rfl (by first | exact Or.inl rfl | exact Or.inr rfl) (pe_ix (r := rIx K) ix_seq (pe_dget (hu_of hr) (pv 0) pe_str (fun _ _ => rfl)) (pe_dget (hu_of hr) (pv 0) pe_str (fun _ _ => rfl)) (fun _ _ => rfl)))
      (pss_cons (ps_dput (hu_of hr) (pv 0) pe_str (pe_op op_add (pe_dget (hu_of hr) (pv 0) pe_str (fun _ _ => rfl)) pe_int) rfl)
      (pss_one (ps_if (pt_cmpR op_ge (pv 2) (pe_op op_pow pe_int pe_int) (nomark _)) (pss_one (ps_dput (hu_of hr) (pv 0) pe_str (pe_op op_sub (pv 2) (pe_op op_pow pe_int pe_int)) rfl)) (pss_one (ps_dput (hu_of hr) (pv 0) pe_str (pe_op op_mod (pe_callTy call_int1 (by rfl) T.b_int bt_int (pa_cons (pe_op op_add (pe_op op_mul (pe_dget (hu_of hr) (pv 0) pe_str (fun _ _ => rfl)) pe_int) (pv 2)) pa_nil)) pe_int) rfl)))))) pss_nil)
      (pss_cons (ps_if (pt_cmpR op_gt (pe_dget (hu_of hr) (pv 0) pe_str (fun _ _ => rfl)) pe_int (nomark _)) (pss_cons (ps_set (i := 3) sc_law_draw.nd rfl (by first | exact Or.inl rfl | exact Or.inr rfl) (pe_op op_mod (pe_callTy call_int1 (by rfl) T.b_int bt_int (pa_cons (pe_dget (hu_of hr) (pv 0) pe_str (fun _ _ => rfl)) pa_nil)) (pv 1)))
      (pss_cons (ps_dput (hu_of hr) (pv 0) pe_str (pe_op op_fdiv (pe_dget (hu_of hr) (pv 0) pe_str (fun _ _ => rfl)) (pv 1)) rfl)
      (pss_one (ps_ret (pv 3))))) pss_nil)
      (pss_cons (ps_set (i := 4) sc_law_draw.nd rfl (by first | exact Or.inl rfl | exact Or.inr rfl) (pe_op op_add (pe_op op_add (pe_dget (hu_of hr) (pv 0) pe_str (fun _ _ => rfl)) (pe_op op_mul (pe_dget (hu_of hr) (pv 0) pe_str (fun _ _ => rfl)) pe_int)) pe_int))
      (pss_one (ps_ret (pe_op op_mod (pe_op op_fdiv (pe_callTy call_int1 (by rfl) T.b_int bt_int (pa_cons (pe_op op_mod (pe_op op_pow (pv 4) pe_int) pe_int) pa_nil)) pe_int) (pv 1)))))))), ?_⟩
    obtain ⟨cells, a, d, cn, f, hp, hc, a0, d0, c0, cnn, f0, f1⟩ := hP
    -- pen["count"] = pen["count"] + 1
    refine ⟨_, rfl, p, _, rfl, pg_cnt hp, _, _, rfl, rfl, _, rfl, p, _, rfl, pp_cnt hp, ?_⟩
    have b1 : But p H (upd H p (.dK (penKV c a d (cn + 1) f))) := rd_but
    have c1 := rd_upd (o := .dK (penKV c a d (cn + 1) f)) hp hc
    have p1 : (upd H p (.dK (penKV c a d (cn + 1) f))) p = some (.dK (penKV c a d (cn + 1) f)) := upd_same
    generalize upd H p (.dK (penKV c a d (cn + 1) f)) = H1 at b1 c1 p1
    refine ⟨fun σ' H' => ∃ (a' d' f' : Int) (o : Option V), σ' = [some (.ref p), some (.int many), o, none, none] ∧ 0 ≤ a' ∧ 0 ≤ d' ∧ 0 ≤ f' ∧ f' < 2147483648 ∧ H' p = some (.dK (penKV c a' d' (cn + 1) f')) ∧ Rd H' c (.lst (cells.map V.int)) ∧ But p H H', ?_, ?_⟩
    · -- if pen["digits"] == 0 and pen["at"] < len(pen["cells"]):
      refine ⟨_, rfl, p, _, rfl, pg_dig p1, rfl, _, rfl, ?_⟩
      refine ite2 (fun hz => ?_) (fun hz => ?_)
      · refine ⟨_, rfl, p, _, rfl, pg_at p1, _, rfl, p, _, rfl, pg_cells p1, _, _, rfl, .inl ⟨_, .inl c1, rfl⟩, _, _, rfl, rfl, _, rfl, ?_⟩
        refine ite2 (fun hl => ?_) (fun hl => ?_)
        · -- the next cell
          have hl := of_decide_eq_true hl
          obtain ⟨x, hx⟩ : ∃ x, cells[a.toNat]? = some x := ⟨_, List.getElem?_eq_getElem (by rw [List.length_map] at hl; omega)⟩
          have hx' : (cells.map V.int)[a.toNat]? = some (V.int x) := by rw [List.getElem?_map, hx]; rfl
          have ea : ((a.toNat : Nat) : Int) = a := by omega
          refine ⟨_, rfl, p, _, rfl, pg_cells p1, _, rfl, p, _, rfl, pg_at p1, .inl ⟨_, _, _, _, rfl, rfl, .inl c1, by rw [← ea]; exact atI_nat hx', ?_⟩⟩
          refine ⟨_, rfl, p, _, rfl, pg_at p1, _, _, rfl, rfl, _, rfl, p, _, rfl, pp_at p1, ?_⟩
          have b2 : But p H (upd H1 p (.dK (penKV c (a + 1) d (cn + 1) f))) := b1.trans rd_but
          have c2 := rd_upd (o := .dK (penKV c (a + 1) d (cn + 1) f)) p1 c1
          have p2 : (upd H1 p (.dK (penKV c (a + 1) d (cn + 1) f))) p = some (.dK (penKV c (a + 1) d (cn + 1) f)) := upd_same
          generalize upd H1 p (.dK (penKV c (a + 1) d (cn + 1) f)) = H2 at b2 c2 p2
          refine ⟨_, rfl, _, _, rfl, rfl, ⟨by decide, by decide, by decide⟩, _, _, rfl, rfl, _, rfl, ?_⟩
          refine ite2 (fun hg => ?_) (fun hg => ?_)
          · refine ⟨_, rfl, _, _, rfl, rfl, ⟨by decide, by decide, by decide⟩, _, _, rfl, rfl, _, rfl, p, _, rfl, pp_dig p2, ?_⟩
            exact ⟨a + 1, _, f, _, rfl, by omega, by have := of_decide_eq_true hg; omega, f0, f1, upd_same, rd_upd p2 c2, b2.trans rd_but⟩
          · refine ⟨_, rfl, p, _, rfl, pg_fold p2, _, _, rfl, rfl, .inl ⟨by omega, by omega⟩, _, rfl, _, _, rfl, rfl, .inl ⟨_, rfl, _, _, rfl, rfl, (by show (0 : Int) < 2147483269; decide), _, rfl, p, _, rfl, pp_fold p2, ?_⟩⟩
            exact ⟨a + 1, d, _, _, rfl, by omega, d0, Int.emod_nonneg _ (by decide), Int.lt_trans (Int.emod_lt_of_pos _ (by decide)) (by decide), upd_same, rd_upd p2 c2, b2.trans rd_but⟩
        · exact ⟨a, d, f, _, rfl, a0, d0, f0, f1, p1, c1, b1⟩
      · exact ⟨a, d, f, _, rfl, a0, d0, f0, f1, p1, c1, b1⟩
    · rintro σ' H' ⟨a', d', f', o, rfl, a0, d0, f0, f1, p1, c1, b1⟩
      refine ⟨_, rfl, p, _, rfl, pg_dig p1, _, _, rfl, rfl, _, rfl, ?_⟩
      refine ite2 (fun hg => ?_) (fun hg => ?_)
      · -- a digit
        refine ⟨_, rfl, p, _, rfl, pg_dig p1, .inl ⟨_, rfl, _, rfl, _, _, rfl, rfl, m0, ?_⟩⟩
        refine ⟨_, rfl, p, _, rfl, pg_dig p1, _, rfl, _, _, rfl, rfl, ⟨m0, by omega⟩, _, rfl, p, _, rfl, pp_dig p1, ?_⟩
        refine ⟨_, rfl, ?_⟩
        exact k _ _ (Int.emod_nonneg _ (by omega)) (Int.emod_lt_of_pos _ m0) (b1.trans rd_but) ⟨cells, a', _, cn + 1, f', upd_same, rd_upd p1 c1, a0, Int.ediv_nonneg d0 (by omega), by omega, by omega, f0, f1⟩
      · -- the mix
        refine ⟨_, rfl, p, _, rfl, pg_fold p1, _, rfl, p, _, rfl, pg_cnt p1, _, _, rfl, rfl, .inr ⟨by decide, by decide⟩, _, _, rfl, rfl, _, _, rfl, rfl, ?_⟩
        refine ⟨_, rfl, _, _, rfl, rfl, ⟨by decide, by decide, by omega⟩, _, _, rfl, rfl, (by show (0 : Int) < 2305843009213693951; decide), .inl ⟨_, rfl, _, _, rfl, rfl, ⟨by decide, by decide⟩, _, rfl, _, _, rfl, rfl, m0, ?_⟩⟩
        exact k _ _ (Int.emod_nonneg _ (by omega)) (Int.emod_lt_of_pos _ m0) b1 ⟨cells, a', d', cn + 1, f', p1, c1, a0, d0, by omega, by omega, f0, f1⟩
end
end Ag

set_option Elab.async false
set_option linter.all false
set_option maxRecDepth 100000
set_option maxHeartbeats 1000000
set_option pp.maxSteps 300
/-! A tuple whose very object is known: its methods. -/
namespace Ag
open PySem PySem.Spec PyProof.Rows L2
/-- a tuple without a dict -/
def FzT (H : Hp) (a : Addr) (xs : List V) : Prop := ∃ o : Obj, H a = some (.frz o (.tup xs)) ∧ o.dict = none
theorem FzT.st {K : PySem.W.Frag} {H : Hp} {a : Addr} {xs : List V} (h : FzT H a xs) : SqT K H a xs := let ⟨o, e, _⟩ := h; .inl (.inr ⟨o, e⟩)
theorem FzT.same {H H' : Hp} {a : Addr} {xs : List V} (s : Same H H') (h : FzT H a xs) : FzT H' a xs := let ⟨o, e, d⟩ := h; ⟨o, s _ _ e, d⟩
/-- tuple(list) -/
def rTupF (K : PySem.W.Frag) : List V → Hp → VK → Prop := fun xs H Q => ∃ p ys, xs = [.ref p] ∧ SqL K H p ys ∧ ∀ l o, H l = none → o.dict = none → Q (.ref l) (upd H l (.frz o (.tup ys)))
theorem call_tupleF {X : Cx} : CallR X (.type "tuple") (rTupF X.K) := by
  intro pins s σ H xs us Q I r h
  obtain ⟨p, ys, rfl, hq, q⟩ := h
  obtain ⟨u, rfl, rx⟩ := r.one
  cases rx
  obtain ⟨its, rv, pl, hz⟩ := I.list hq
  have ln := rv.length
  refine call_tuple_list pl.isList (fun h' kp => ?_) (by simp only [List.size_toArray]; omega)
  have I1 : Inv X pins σ H { s with heap := h' } := I.kept (t' := s.toks) kp
  have I2 : Inv X pins σ (upd H h'.objs.size (.frz { cls := .type "tuple", data := .seq its.toArray } (.tup ys))) { s with heap := h'.push { cls := .type "tuple", data := .seq its.toArray } } :=
    I1.laid (t' := s.toks) (fun b o e => Heap.get?_push_of_some _ e) (Nat.le_refl _) ⟨Heap.get?_push_size _ rfl, hz, its, rv, IsTup.new _ _⟩
  exact ⟨.ref h'.objs.size, _, I2, rfl, q _ _ (I1.hok.fresh (Nat.le_refl _)) rfl⟩
def tBMT (r : V → List V → Hp → VK → Prop) (to : TE) (t : TA) : TE := fun σ H Q => to σ H fun x H1 => (∃ a xs, x = .ref a ∧ FzT H1 a xs) ∧ t σ H1 fun vs H2 => r x vs H2 Q
theorem pe_bmT {X : Cx} {name : Str} {id : String} {r : V → List V → Hp → VK → Prop} {o e : Expr} {es : List Expr} {to : TE} {t : TA} {apos cpos : Pos} (slot : Slot "tuple" name id) (hty : typeOf (.builtin id) = pure (.type "method_descriptor")) (hm : MtR X id r) (ho : PE X o to) (ha : PA X (e :: es) t)
    (b0 : attributeBase o name X.env (eval o X.env) = eval o X.env := by rfl) (f0 : ((backTo cpos (starEach (e :: es) X.env)).all (fun x => !x.1) && (backToKw cpos (keywordEach [] X.env)).all (fun x => x.1.isSome) && decide ((e :: es).length + ([] : List Keyword).length + (if ([] : List Keyword).isEmpty then 0 else 1) < 30)) = true := by rfl) (l0 : (apos.endLine == cpos.line) = true := by rfl) (t0 : starEach (e :: es) X.env = (false, eval e X.env) :: starEach es X.env := by rfl) (p0 : (backTo cpos (starEach es X.env)).any (·.1) = false := by rfl) :
    PE X (.Call (.Attribute o name apos) (e :: es) [] cpos) (tBMT r to t) := by
  refine ⟨fun pins s σ H Q I h => wpAny_Call_method_late b0 f0 l0 rfl (thn (ho.run pins s σ H _ I h) fun v z ⟨x, H1, I1, rx, ⟨a, xs, ex, ob, ea, ed⟩, q1⟩ => ?_)⟩
  subst ex
  obtain rfl : v = Value.ref a := rx
  obtain ⟨g, _, its, _, o2, g2, cl, _⟩ := (show ObjOk X.prog X.w H1 z.heap a (.frz ob (.tup xs)) from I1.hok a _ ea)
  refine ⟨"tuple", id, PySem.F.plainAttrs_tuple, slot, hty, ⟨o2, g2, cl⟩, fun b eb => ?_, ?_⟩
  · cases eb; exact ⟨ob, g, ed⟩
  have hA := ha.run cpos pins z σ H1 _ I1 q1
  rw [t0] at hA ⊢
  refine Calls.callWith_builtin (by show (false || (backTo cpos (starEach es X.env)).any (·.1)) = false; rw [p0]; rfl) (Calls.evalArgs_plain (thn hA fun us s2 ⟨vs, H2, I2, r2, q2⟩ => hm pins s2 σ H2 (.ref a) vs (.ref a) us Q I2 rfl r2 q2))
end Ag

set_option Elab.async false
set_option linter.all false
set_option maxRecDepth 100000
set_option maxHeartbeats 1000000
set_option exponentiation.threshold 2000
namespace Ag
open PySem PySem.Spec PyProof.Rows L2
theorem atI_int {α : Type} {xs : List α} {i : Int} {v : α} (h0 : 0 ≤ i) (h : xs[i.toNat]? = some v) : atI xs i = some v := by
  obtain ⟨k, rfl⟩ : ∃ k : Nat, i = k := ⟨i.toNat, by omega⟩
  exact atI_nat h

/-! ### names, as texts -/
abbrev S (l : List Nat) : Str := SX.S l
def Digs (i : Nat) : List Nat := (Str.ofString (toString (i : Int))).cps.toList
theorem digs_ok : ∀ i, i < 32 → 1 ≤ (Digs i).length ∧ (Digs i).length ≤ 2 ∧ ∀ c ∈ Digs i, 48 ≤ c ∧ c ≤ 57 := by decide +kernel
theorem digs_inj : ∀ i, i < 32 → ∀ j, j < 32 → Digs i = Digs j → i = j := by decide +kernel
def Nm (i : Nat) (s : Str) : Prop := ∃ a b : List Nat, s = S (a ++ Digs i ++ b) ∧ 1 ≤ a.length ∧ a.length + b.length ≤ 8 ∧ ∀ c ∈ a ++ b, 97 ≤ c ∧ c ≤ 122
theorem nm_filter {i : Nat} {a b : List Nat} (hi : i < 32) (h : ∀ c ∈ a ++ b, 97 ≤ c ∧ c ≤ 122) : (a ++ Digs i ++ b).filter (fun c => decide (c ≤ 57)) = Digs i := by
  have ha : a.filter (fun c => decide (c ≤ 57)) = [] := List.filter_eq_nil_iff.mpr fun c hc => by have := h c (List.mem_append_left _ hc); simp; omega
  have hb : b.filter (fun c => decide (c ≤ 57)) = [] := List.filter_eq_nil_iff.mpr fun c hc => by have := h c (List.mem_append_right _ hc); simp; omega
  have hd : (Digs i).filter (fun c => decide (c ≤ 57)) = Digs i := List.filter_eq_self.mpr fun c hc => by have := (digs_ok i hi).2.2 c hc; simp; omega
  rw [List.filter_append, List.filter_append, ha, hb, hd]; simp
theorem nm_inj {i j : Nat} {s : Str} (hi : i < 32) (hj : j < 32) (h1 : Nm i s) (h2 : Nm j s) : i = j := by
  obtain ⟨a, b, e1, _, _, h⟩ := h1
  obtain ⟨a', b', e2, _, _, h'⟩ := h2
  have e : a ++ Digs i ++ b = a' ++ Digs j ++ b' := SX.S_inj (e1.symm.trans e2)
  have q := congrArg (List.filter (fun c => decide (c ≤ 57))) e
  rw [nm_filter hi h, nm_filter hj h'] at q
  exact digs_inj i hi j hj q
/-- the names of the indices below m, in some order -/
def Nms (m : Nat) (ns : List Str) : Prop := ∃ ms : List Str, ms.length = m ∧ (∀ j s, ms[j]? = some s → Nm j s) ∧ ns.Perm ms
theorem nms_nodup {m : Nat} {ns : List Str} (hm : m ≤ 32) (h : Nms m ns) : ns.Nodup := by
  obtain ⟨ms, hl, hn, hp⟩ := h
  refine hp.nodup_iff.mpr (List.nodup_iff_pairwise_ne.mpr (List.pairwise_iff_getElem.mpr fun i j hi hj hij e => ?_))
  have h1 := hn i _ (List.getElem?_eq_getElem hi)
  have h2 := hn j _ (List.getElem?_eq_getElem hj)
  rw [e] at h1
  have := nm_inj (by omega) (by omega) h1 h2
  omega
theorem nms_mem {m : Nat} {ns : List Str} (h : Nms m ns) {s : Str} (hs : s ∈ ns) : ∃ j, j < m ∧ Nm j s := by
  obtain ⟨ms, hl, hn, hp⟩ := h
  obtain ⟨j, hj, e⟩ := List.getElem_of_mem (hp.mem_iff.mp hs)
  exact ⟨j, by omega, hn j s (by rw [List.getElem?_eq_getElem hj, e])⟩
theorem nms_len {m : Nat} {ns : List Str} (h : Nms m ns) : ns.length = m := by
  obtain ⟨ms, hl, hn, hp⟩ := h; rw [hp.length_eq, hl]
theorem cut_take (l : List Nat) (k : Nat) (h : k ≤ l.length) : cutS (S l) none (some (k : Int)) = S (l.take k) := by
  unfold cutS
  rw [HT.sIx_none, HT.sIx_nat, SX.S_len, Nat.min_eq_left h]
  simp [SX.S]
theorem cut_drop (l : List Nat) (k : Nat) (h : k ≤ l.length) : cutS (S l) (some (k : Int)) none = S (l.drop k) := by
  unfold cutS
  rw [HT.sIx_none, HT.sIx_nat, SX.S_len, Nat.min_eq_left h]
  have e : (l.drop k).take (l.length - k) = l.drop k := List.take_of_length_le (by rw [List.length_drop]; exact Nat.le_refl _)
  simp [SX.S, e]
theorem cut_takeI (l : List Nat) (k : Int) (h0 : 0 ≤ k) (h : k ≤ l.length) : cutS (S l) none (some k) = S (l.take k.toNat) := by
  obtain ⟨j, rfl⟩ : ∃ j : Nat, k = j := ⟨k.toNat, by omega⟩
  exact cut_take l j (by omega)
theorem cut_dropI (l : List Nat) (k : Int) (h0 : 0 ≤ k) (h : k ≤ l.length) : cutS (S l) (some k) none = S (l.drop k.toNat) := by
  obtain ⟨j, rfl⟩ : ∃ j : Nat, k = j := ⟨k.toNat, by omega⟩
  exact cut_drop l j (by omega)
theorem letters_at : ∀ d, d < 26 → ("abcdefghijklmnopqrstuvwxyz" : Str).cps.toList[d]? = some (97 + d) := by decide +kernel
theorem S_one (c : Nat) : (⟨#[c]⟩ : Str) = S [c] := rfl
theorem letters_short : ("abcdefghijklmnopqrstuvwxyz" : Str).length ≤ sizeLine := by decide +kernel

/-! ### promises -/
def spPick (K : PySem.W.Frag) : Sp := fun vs H Q _ => ∃ (p c a : Addr) (xs : List V) (n : Nat), vs = [.ref p, .ref a] ∧ Pen p c n H ∧ (SqL K H a xs ∨ SqT K H a xs) ∧ 0 < xs.length ∧ xs.length < 100000 ∧ n < 1000000000000 ∧
  ∀ (i : Nat) v H', xs[i]? = some v → But p H H' → Pen p c (n + 1) H' → Q v H'
def spShuf (K : PySem.W.Frag) : Sp := fun vs H Q _ => ∃ (p c a : Addr) (xs : List V) (n : Nat), vs = [.ref p, .ref a] ∧ Pen p c n H ∧ (SqL K H a xs ∨ SqT K H a xs) ∧ xs.length < 100000 ∧ n + 100000 < 1000000000000 ∧
  ∀ (l : Addr) (ys : List V) H', ys.Perm xs → H l = none → H' l = some (.lst ys) → But p H H' → Pen p c (n + xs.length) H' → Q (.ref l) H'
def spName : Sp := fun vs H Q _ => ∃ (p c : Addr) (i n : Nat), vs = [.ref p, .int (i : Int)] ∧ Pen p c n H ∧ i < 32 ∧ n + 100000 < 1000000000000 ∧
  ∀ (s : Str) H', Nm i s → But p H H' → Pen p c (n + 10) H' → Q (.str s) H'
def spNames (K : PySem.W.Frag) : Sp := fun vs H Q _ => ∃ (p c : Addr) (m n : Nat), vs = [.ref p, .int (m : Int)] ∧ Pen p c n H ∧ m ≤ 31 ∧ n + 200000 < 1000000000000 ∧
  ∀ (l : Addr) (ns : List Str) H', Nms m ns → H l = none → H' l = some (.lst (ns.map V.str)) → But p H H' → Pen p c (n + 400) H' → Q (.ref l) H'
/-- tuple(sorted(names)) -/
def spCalls (K : PySem.W.Frag) : Sp := fun vs H Q _ => ∃ (p c : Addr) (m n : Nat), vs = [.ref p, .int (m : Int)] ∧ Pen p c n H ∧ m ≤ 31 ∧ n + 200000 < 1000000000000 ∧
  ∀ (l : Addr) (ns : List Str) H', Nms m ns → sortedS ns = true → FzT H' l (ns.map V.str) → But p H H' → Pen p c (n + 400) H' → Q (.ref l) H'

theorem seq_at {n : Nat} {i : Int} (h0 : 0 ≤ i) (h1 : i < n) : seqIndex? i n = some i.toNat := (ixN_seq (by unfold ixN; rw [if_pos h0, if_pos h1])).1

section
variable {P : Program} {w : World} {K : PySem.W.Frag} {mg : Str → Option Value} {base : Heap} (T : Txt w K mg)
theorem ok_pick : FnOk P w K mg base CX0 2 T.a_law_pick T.d_law_pick ["pen", "some"] (spPick K) := by
  have G_law_draw := ok_draw (P := P) (base := base) T
  refine T.D_law_pick.fn.ok sc_law_pick (fun vs H Q E h => ?_) (fun cdv A outer s H vs Q E hr h => ?_)
  · obtain ⟨p, c, a, xs, n, rfl, _⟩ := h; rfl
  · obtain ⟨p, c, a, xs, n, rfl, hP, hs, x0, x1, n1, k⟩ := h
    refine ⟨_, (pss_one (ps_ret (pe_ix (r := rIx K) ix_seq (pv 1) (pe_call (G_law_draw) (hr.mono (by omega)) (by rfl) T.D_law_draw.mg T.D_law_draw.fn.kp T.D_law_draw.bd .nil pass0 (pa_cons (pv 0) (pa_cons (pe_callB call_len (by rfl) T.b_len bt_len (pa_cons (pv 1) pa_nil)) pa_nil))) (fun _ _ => rfl)))), ?_⟩
    have hl : LenV K (.ref a) H xs.length := hs.elim (fun z => .inl ⟨_, z, rfl⟩) fun z => .inr ⟨_, z, rfl⟩
    refine ⟨_, rfl, _, rfl, _, rfl, _, _, rfl, hl, p, c, _, n, rfl, hP, by omega, by omega, n1, fun d H1 d0 d1 b1 P1 => ?_⟩
    have hd : d.toNat < xs.length := by omega
    have ed : ((d.toNat : Nat) : Int) = d := by omega
    have hx : xs[d.toNat]? = some xs[d.toNat] := List.getElem?_eq_getElem hd
    rcases hs with hs | hs
    · exact .inl ⟨_, _, _, _, rfl, rfl, hP.sl b1 hs, atI_int d0 hx, k _ _ _ hx b1 P1⟩
    · exact .inr (.inl ⟨_, _, _, _, rfl, rfl, hP.st b1 hs, atI_int d0 hx, k _ _ _ hx b1 P1⟩)

theorem ok_shuf : FnOk P w K mg base CX0 2 T.a_law_shuffled T.d_law_shuffled ["pen", "some"] (spShuf K) := by
  have G_law_draw := ok_draw (P := P) (base := base) T
  refine T.D_law_shuffled.fn.ok sc_law_shuffled (fun vs H Q E h => ?_) (fun cdv A outer s H vs Q E hr h => ?_)
  · obtain ⟨p, c, a, xs, n, rfl, _⟩ := h; rfl
  · obtain ⟨p, c, a, xs, n, rfl, hP, hs, x1, n1, k⟩ := h
    refine ⟨_, (pss_cons (ps_par (i := 2) (j := 3) (by rfl) sc_law_shuffled.nd rfl rfl (by decide) rfl rfl (pa_cons (pe_callTy call_list_of (by rfl) T.b_list bt_list (pa_cons (pv 1) pa_nil)) (pa_cons (pe_lst pa_nil) pa_nil)) (by rfl))
      (pss_cons (ps_for PassesOwn.never rfl (pi_range1 (by rfl) T.b_range (pa_cons (pe_callB call_len (by rfl) T.b_len bt_len (pa_cons (pv 1) pa_nil)) pa_nil)) (pg_name (i := 4) sc_law_shuffled.nd rfl (by first | exact Or.inl rfl | exact Or.inr rfl)) (pss_one (ps_expr (pe_bm PySem.F.plainAttrs_list PySem.F.slot_list_append PySem.F.type_list_append mt_append (pv 3) (pa_cons (pe_bm PySem.F.plainAttrs_list PySem.F.slot_list_pop PySem.F.type_list_pop mt_popAt (pv 2) (pa_cons (pe_call (G_law_draw) (hr.mono (by omega)) (by rfl) T.D_law_draw.mg T.D_law_draw.fn.kp T.D_law_draw.bd .nil pass0 (pa_cons (pv 0) (pa_cons (pe_callB call_len (by rfl) T.b_len bt_len (pa_cons (pv 2) pa_nil)) pa_nil))) pa_nil)) pa_nil)))))
      (pss_one (ps_ret (pv 3))))), ?_⟩
    refine ⟨_, rfl, _, _, rfl, hs, fun l1 hl1 => ⟨Nat.zero_le _, fun l2 hl2 => ⟨_, _, rfl, ?_⟩⟩⟩
    have n12 : l1 ≠ l2 := fun z => by rw [z, upd_same] at hl2; cases hl2
    have hl2' : H l2 = none := by rw [upd_ne (Ne.symm n12)] at hl2; exact hl2
    have s1 : Same H (upd (upd H l1 (.lst xs)) l2 (.lst [])) := (Same.newA hl1).trans (Same.newA hl2)
    have e1 : (upd (upd H l1 (.lst xs)) l2 (.lst [])) l1 = some (.lst xs) := by rw [upd_ne n12]; exact upd_same
    have e2 : (upd (upd H l1 (.lst xs)) l2 (.lst [])) l2 = some (.lst []) := upd_same
    generalize upd (upd H l1 (.lst xs)) l2 (.lst []) = H1 at s1 e1 e2
    have hs1 : SqL K H1 a xs ∨ SqT K H1 a xs := hs.imp s1.slA s1.stA
    have hl : LenV K (.ref a) H1 xs.length := hs1.elim (fun z => .inl ⟨_, z, rfl⟩) fun z => .inr ⟨_, z, rfl⟩
    refine ⟨_, rfl, _, _, rfl, hl, _, rfl, by omega, by omega, for_range (n := xs.length) (fun i σ' H' => ∃ (ls fs : List V) (o : Option V), σ' = [some (.ref p), some (.ref a), some (.ref l1), some (.ref l2), o] ∧
      H' l1 = some (.lst ls) ∧ H' l2 = some (.lst fs) ∧ fs.length = i ∧ (fs ++ ls).Perm xs ∧ But p H H' ∧ Pen p c (n + i) H') ⟨xs, [], none, rfl, e1, e2, rfl, .refl _, .of s1, hP.same s1⟩ ?_ ?_⟩
    · rintro i σ' H' hi ⟨ls, fs, o, rfl, f1, f2, fl, pm, b1, P1⟩
      have tot := pm.length_eq
      rw [List.length_append] at tot
      refine ⟨_, rfl, .inl ⟨rfl, _, SqL.of f2⟩, _, rfl, .inl ⟨rfl, _, SqL.of f1⟩, _, rfl, _, rfl, _, _, rfl, .inl ⟨_, SqL.of f1, rfl⟩, p, c, _, n + i, rfl, P1, by omega, by omega, by omega, fun d H2 d0 d1 b2 P2 => ?_⟩
      have g1 : H2 l1 = some (.lst ls) := b2 _ _ (P1.ne f1 (fun _ z => nomatch z)) f1
      have g2 : H2 l2 = some (.lst fs) := b2 _ _ (P1.ne f2 (fun _ z => nomatch z)) f2
      have hd : d.toNat < ls.length := by omega
      refine ⟨_, _, _, _, _, rfl, rfl, g1, by omega, by omega, seq_at d0 (by omega), List.getElem?_eq_getElem hd, ?_⟩
      refine ⟨_, _, _, rfl, rfl, by rw [upd_ne (Ne.symm n12)]; exact g2, by rw [fl]; exact lt5 (by omega), ?_⟩
      refine ⟨ls.eraseIdx d.toNat, fs ++ [ls[d.toNat]], some (.int (0 + (i : Int))), rfl, ?_, upd_same, by rw [List.length_append, fl]; rfl, ?_, ?_, ?_⟩
      · rw [upd_ne n12]; exact upd_same
      · refine List.Perm.trans ?_ pm
        rw [List.append_assoc]
        exact List.Perm.append_left fs (erase_perm _ _ _ (List.getElem?_eq_getElem hd))
      · intro b u nb e
        rw [upd_ne (ne_of_none e hl2'), upd_ne (ne_of_none e hl1)]
        exact b2 _ _ nb (b1 _ _ nb e)
      · exact (P2.upd (hP.ne_p hl1) (hP.ne_c hl1)).upd (hP.ne_p hl2') (hP.ne_c hl2')
    · rintro σ' H' ⟨ls, fs, o, rfl, f1, f2, fl, pm, b1, P1⟩
      have tot := pm.length_eq
      rw [List.length_append] at tot
      have : ls = [] := List.length_eq_zero_iff.mp (by omega)
      subst this
      rw [List.append_nil] at pm
      exact ⟨_, rfl, k _ _ _ pm hl2' f2 b1 P1⟩

theorem ok_name : FnOk P w K mg base CX0 2 T.a_law_name T.d_law_name ["pen", "index"] spName := by
  have G_law_draw := ok_draw (P := P) (base := base) T
  refine T.D_law_name.fn.ok sc_law_name (fun vs H Q E h => ?_) (fun cdv A outer s H vs Q E hr h => ?_)
  · obtain ⟨p, c, i, n, rfl, _⟩ := h; rfl
  · obtain ⟨p, c, ix, n, rfl, hP, hi, n1, k⟩ := h
    refine ⟨_, (pss_cons (ps_set (i := 2) sc_law_name.nd rfl (by first | exact Or.inl rfl | exact Or.inr rfl) pe_str)
      (pss_cons (ps_for PassesOwn.never rfl (pi_range1 (by rfl) T.b_range (pa_cons (pe_op op_add pe_int (pe_call (G_law_draw) (hr.mono (by omega)) (by rfl) T.D_law_draw.mg T.D_law_draw.fn.kp T.D_law_draw.bd .nil pass0 (pa_cons (pv 0) (pa_cons pe_int pa_nil)))) pa_nil)) (pg_name (i := 3) sc_law_name.nd rfl (by first | exact Or.inl rfl | exact Or.inr rfl)) (pss_one (ps_set (i := 2) sc_law_name.nd rfl (by first | exact Or.inl rfl | exact Or.inr rfl) (pe_op op_add_str (pv 2) (pe_ix (r := rIx K) ix_seq pe_str (pe_call (G_law_draw) (hr.mono (by omega)) (by rfl) T.D_law_draw.mg T.D_law_draw.fn.kp T.D_law_draw.bd .nil pass0 (pa_cons (pv 0) (pa_cons pe_int pa_nil))) (fun _ _ => rfl))))))
      (pss_cons (ps_set (i := 4) sc_law_name.nd rfl (by first | exact Or.inl rfl | exact Or.inr rfl) (pe_op op_add pe_int (pe_call (G_law_draw) (hr.mono (by omega)) (by rfl) T.D_law_draw.mg T.D_law_draw.fn.kp T.D_law_draw.bd .nil pass0 (pa_cons (pv 0) (pa_cons (pe_callB call_len (by rfl) T.b_len bt_len (pa_cons (pv 2) pa_nil)) pa_nil)))))
      (pss_one (ps_ret (pe_op op_add_str (pe_op op_add_str (pe_slice sl_str (pv 2) po_none (po_some (pv 4))) (pe_callTy call_str_int (by rfl) T.b_str bt_str (pa_cons (pv 1) pa_nil))) (pe_slice sl_str (pv 2) (po_some (pv 4)) po_none))))))), ?_⟩
    refine ⟨_, rfl, p, c, 8, n, rfl, hP, by decide, by decide, by omega, fun d H1 d0 d1 b1 P1 => ?_⟩
    refine ⟨_, _, rfl, rfl, _, rfl, by omega, by omega, for_range (n := (1 + d).toNat) (fun i σ' H' => ∃ (cs : List Nat) (o : Option V), σ' = [some (.ref p), some (.int (ix : Int)), some (.str (S cs)), o, none] ∧
      cs.length = i ∧ (∀ x ∈ cs, 97 ≤ x ∧ x ≤ 122) ∧ But p H H' ∧ Pen p c (n + 1 + i) H') ⟨[], none, rfl, rfl, (fun x hx => by cases hx), b1, P1⟩ ?_ ?_⟩
    · rintro i σ' H' hi ⟨cs, o, rfl, hc, hx, b2, P2⟩
      refine ⟨_, rfl, _, rfl, p, c, 26, _, rfl, P2, by decide, by decide, by omega, fun d2 H2 e0 e1 b3 P3 => ?_⟩
      have ed : ((d2.toNat : Nat) : Int) = d2 := by omega
      refine .inr (.inr ⟨_, _, _, rfl, rfl, letters_short, atI_int e0 (letters_at d2.toNat (by omega)), ?_⟩)
      refine ⟨_, _, rfl, rfl, ?_, ?_⟩
      · rw [SX.S_len]; refine small5 ?_
        show cs.length + 1 ≤ _
        omega
      · refine ⟨cs ++ [97 + d2.toNat], some (.int (0 + (i : Int))), ?_, by rw [List.length_append, hc]; rfl, fun x hx' => ?_, b2.trans b3, P3⟩
        · rw [S_one, SX.S_cat]; rfl
        · rcases List.mem_append.mp hx' with h | h
          · exact hx x h
          · rw [List.mem_singleton.mp h]; omega
    · rintro σ' H' ⟨cs, o, rfl, hc, hx, b2, P2⟩
      refine ⟨_, rfl, _, rfl, _, _, rfl, ⟨by rw [SX.S_len]; exact small5 (by omega), rfl⟩, p, c, _, _, rfl, P2, by rw [SX.S_len]; omega, by rw [SX.S_len]; omega, by omega, fun d2 H2 e0 e1 b3 P3 => ?_⟩
      rw [SX.S_len] at e1
      have lc : cs.length = (1 + d).toNat := hc
      have ct := cut_takeI cs (1 + d2) (by omega) (by omega)
      have cd := cut_dropI cs (1 + d2) (by omega) (by omega)
      have lg : (ix : Int).natAbs.log2 < 1920 := by
        have : (ix : Int).natAbs < 2 ^ 1920 := Nat.lt_of_lt_of_le (by omega : (ix : Int).natAbs < 32) (by decide)
        by_cases z : (ix : Int).natAbs = 0
        · rw [z]; decide
        · exact (Nat.log2_lt z).mpr this
      have eS : cutS (S cs) none (some (1 + d2)) ++ Str.ofString (toString (ix : Int)) ++ cutS (S cs) (some (1 + d2)) none = S (cs.take (1 + d2).toNat ++ Digs ix ++ cs.drop (1 + d2).toNat) := by
        rw [ct, cd, ← SX.S_tl (Str.ofString (toString (ix : Int))), SX.S_cat, SX.S_cat]; rfl
      have l1 : (cutS (S cs) none (some (1 + d2))).length + (Str.ofString (toString (ix : Int))).length ≤ 100000 := by
        rw [ct, SX.S_len, List.length_take, ← SX.S_tl (Str.ofString (toString (ix : Int))), SX.S_len]
        have := (digs_ok ix hi).2.1
        show _ + (Digs ix).length ≤ _
        omega
      have l2 : (cutS (S cs) none (some (1 + d2)) ++ Str.ofString (toString (ix : Int))).length + (cutS (S cs) (some (1 + d2)) none).length ≤ 100000 := by
        rw [ct, cd, ← SX.S_tl (Str.ofString (toString (ix : Int))), SX.S_cat, SX.S_len, SX.S_len, List.length_append, List.length_take, List.length_drop]
        have := (digs_ok ix hi).2.1
        show _ + (Digs ix).length + _ ≤ _
        omega
      refine ⟨_, _, rfl, rfl, _, rfl, _, rfl, _, rfl, _, rfl, by rw [SX.S_len]; exact small5 (by omega), _, rfl, _, rfl, lg, _, _, rfl, rfl, small5 l1, ?_⟩
      refine ⟨_, rfl, _, rfl, _, rfl, _, rfl, by rw [SX.S_len]; exact small5 (by omega), _, _, rfl, rfl, small5 l2, ?_⟩
      refine k _ _ ⟨cs.take (1 + d2).toNat, cs.drop (1 + d2).toNat, eS, ?_, ?_, fun x h => hx x ?_⟩ (b2.trans b3) (P3.more (by omega))
      · rw [List.length_take]; omega
      · rw [List.length_take, List.length_drop]; omega
      · rw [List.take_append_drop] at h; exact h
end
end Ag

set_option Elab.async false
set_option linter.all false
set_option maxRecDepth 100000
set_option maxHeartbeats 1000000
namespace Ag
open PySem PySem.Spec PyProof.Rows L2
theorem vstr_perm {ys : List V} {ms : List Str} (h : ys.Perm (ms.map V.str)) : ∃ ns : List Str, ns.Perm ms ∧ ys = ns.map V.str := by
  have hm : ∀ y ∈ ys, ∃ s, y = V.str s := fun y hy => by
    obtain ⟨s, _, e⟩ := List.mem_map.mp (h.mem_iff.mp hy); exact ⟨s, e.symm⟩
  let f : V → Str := fun v => match v with | .str s => s | _ => Str.empty
  refine ⟨ys.map f, ?_, ?_⟩
  · have := h.map f
    rw [List.map_map] at this
    have e : ms.map (f ∘ V.str) = ms := by
      have q : ms.map (f ∘ V.str) = ms.map id := List.map_congr_left fun s _ => rfl
      rw [q, List.map_id]
    rw [e] at this; exact this
  · rw [List.map_map]
    have e : ys.map (V.str ∘ f) = ys.map id := List.map_congr_left fun y hy => by
      obtain ⟨s, rfl⟩ := hm y hy; rfl
    rw [e, List.map_id]
section
variable {P : Program} {w : World} {K : PySem.W.Frag} {mg : Str → Option Value} {base : Heap} (T : Txt w K mg)
theorem ok_names : FnOk P w K mg base CX0 3 T.a_law_names T.d_law_names ["pen", "many"] (spNames K) := by
  have G_law_name := ok_name (P := P) (base := base) T
  have G_law_shuffled := ok_shuf (P := P) (base := base) T
  refine T.D_law_names.fn.ok sc_law_names (fun vs H Q E h => ?_) (fun cdv A outer s H vs Q E hr h => ?_)
  · obtain ⟨p, c, m, n, rfl, _⟩ := h; rfl
  · obtain ⟨p, c, m, n, rfl, hP, m31, n1, k⟩ := h
    refine ⟨_, (pss_one (ps_ret (pe_call (G_law_shuffled) (hr.mono (by omega)) (by rfl) T.D_law_shuffled.mg T.D_law_shuffled.fn.kp T.D_law_shuffled.bd .nil pass0 (pa_cons (pv 0) (pa_cons (pe_lc (own := [("index", 2)]) rfl sc_law_names.nd (pi_range1 (by rfl) T.b_range (pa_cons (pv 1) pa_nil)) (blkOk_by (own := [("index", 2)]) (N := ["pen", "many", "index"]) (sc := defScope s_law_names) (by decide +kernel)) (fun _ _ _ _ _ => (pg_name (i := 2) sc_law_names.nd rfl (by first | exact Or.inl rfl | exact Or.inr rfl))) (fun _ _ _ _ _ => pts_nil) (fun _ _ _ _ _ => (pe_call (G_law_name) (hr.mono (by omega)) (by rfl) T.D_law_name.mg T.D_law_name.fn.kp T.D_law_name.bd .nil pass0 (pa_cons (pv 0) (pa_cons (pv 2) pa_nil))))) pa_nil))))), ?_⟩
    refine ⟨_, rfl, _, rfl, _, rfl, by omega, by omega, fun D hD => lc_range (lo := 0) (n := m) (fun i H' => ∃ ms : List Str, H' D = some (.lst (ms.map V.str)) ∧ ms.length = i ∧ (∀ j s, ms[j]? = some s → Nm j s) ∧ But p H H' ∧ Pen p c (n + 10 * i) H')
      ⟨[], upd_same, rfl, fun j s e => by simp at e, .of (Same.newA hD), hP.upd (hP.ne_p hD) (hP.ne_c hD)⟩ ?_ ?_⟩
    · rintro i H' hi ⟨ms, e1, ml, hm, b1, P1⟩
      refine ⟨rfl, ?_⟩
      refine ⟨_, rfl, _, rfl, p, c, i, n + 10 * i, ?_, P1, by omega, by omega, fun s H2 hs b2 P2 => ?_⟩
      · show [V.ref p, V.int (0 + (i : Int))] ++ [] = _
        rw [Int.zero_add]; rfl
      have e2 : H2 D = some (.lst (ms.map V.str)) := b2 _ _ (hP.ne_p hD) e1
      refine ⟨_, e2, lt5 (by rw [List.length_map]; omega), ms ++ [s], ?_, by rw [List.length_append, ml]; rfl, fun j t e => ?_, ?_, ?_⟩
      · rw [List.map_append]; exact upd_same
      · rw [List.getElem?_append] at e
        split at e
        · exact hm j t e
        · have : j - ms.length = 0 := by
            cases z : j - ms.length with
            | zero => rfl
            | succ q => rw [z] at e; simp at e
          rw [this] at e
          have ej : j = i := by omega
          simp at e
          rw [← e, ej]; exact hs
      · intro b u nb e
        rw [upd_ne (ne_of_none e hD)]
        exact b2 _ _ nb (b1 _ _ nb e)
      · exact (P2.more (by omega)).upd (hP.ne_p hD) (hP.ne_c hD)
    · rintro H' ⟨ms, e1, ml, hm, b1, P1⟩
      refine ⟨p, c, D, ms.map V.str, _, rfl, P1, .inl (SqL.of e1), by rw [List.length_map]; omega, by omega, fun l ys H2 pm hl e2 b2 P2 => ?_⟩
      obtain ⟨ns, pn, rfl⟩ := vstr_perm pm
      exact k l ns H2 ⟨ms, ml, hm, pn⟩ (b1.free hl (P1.ne_p hl)) e2 (b1.trans b2) (P2.more (by rw [List.length_map, ml]; omega))
end
end Ag

set_option Elab.async false
set_option linter.all false
set_option maxRecDepth 100000
set_option maxHeartbeats 1000000
namespace Ag
open PySem PySem.Spec PyProof.Rows L2

/-! ### good data -/
mutual
def gd : PyData → Bool
  | .none | .bool _ | .int _ => true
  | .str x => x.cps.all (· < 0x110000) && decide (x.length ≤ 1000)
  | .list xs => gds xs && decide (xs.length ≤ 1000)
  | .tuple xs => gds xs && decide (xs.length ≤ 1000)
  | .dict _ => false
def gds : List PyData → Bool
  | [] => true
  | x :: xs => gd x && gds xs
end
theorem gds_all : ∀ {xs : List PyData}, gds xs = true → ∀ x ∈ xs, gd x = true
  | [], _, _, h => by cases h
  | x :: xs, h, y, hy => by
    simp only [gds, Bool.and_eq_true] at h
    rcases List.mem_cons.mp hy with rfl | hy
    · exact h.1
    · exact gds_all h.2 y hy
theorem gds_of : ∀ {xs : List PyData}, (∀ x ∈ xs, gd x = true) → gds xs = true
  | [], _ => by simp [gds]
  | x :: xs, h => by
    simp only [gds, Bool.and_eq_true]
    exact ⟨h x List.mem_cons_self, gds_of fun y hy => h y (List.mem_cons_of_mem _ hy)⟩
mutual
theorem gd_lay : ∀ {d : PyData}, gd d = true → d.canLay0 = true
  | .none, _ => by simp [PyData.canLay0]
  | .bool _, _ => by simp [PyData.canLay0]
  | .int _, _ => by simp [PyData.canLay0]
  | .str x, h => by
    simp only [gd, Bool.and_eq_true] at h
    simp only [PyData.canLay0]; exact h.1
  | .list xs, h => by
    simp only [gd, Bool.and_eq_true] at h
    simp only [PyData.canLay0]; exact gds_lay h.1
  | .tuple xs, h => by
    simp only [gd, Bool.and_eq_true] at h
    simp only [PyData.canLay0]; exact gds_lay h.1
  | .dict _, h => by simp [gd] at h
theorem gds_lay : ∀ {ds : List PyData}, gds ds = true → PyData.canLayAll0 ds = true
  | [], _ => by simp [PyData.canLayAll0]
  | x :: xs, h => by
    simp only [gds, Bool.and_eq_true] at h
    simp only [PyData.canLayAll0, Bool.and_eq_true]
    exact ⟨gd_lay h.1, gds_lay h.2⟩
end

/-! ### names -/
def letter (c : Nat) : Bool := decide (97 ≤ c ∧ c ≤ 122)
def figure (c : Nat) : Bool := decide (48 ≤ c ∧ c ≤ 57)
theorem letters_list : ("abcdefghijklmnopqrstuvwxyz" : Str).cps.toList = List.range' 97 26 := by decide +kernel
theorem figures_list : ("0123456789" : Str).cps.toList = List.range' 48 10 := by decide +kernel
theorem both_list : ("abcdefghijklmnopqrstuvwxyz0123456789" : Str).cps.toList = List.range' 97 26 ++ List.range' 48 10 := by decide +kernel
theorem mem_letters (c : Nat) : decide (c ∈ ("abcdefghijklmnopqrstuvwxyz" : Str).cps.toList) = letter c := by
  rw [letters_list]; unfold letter; congr 1; rw [List.mem_range'_1]; apply propext; omega
theorem mem_figures (c : Nat) : decide (c ∈ ("0123456789" : Str).cps.toList) = figure c := by
  rw [figures_list]; unfold figure; congr 1; rw [List.mem_range'_1]; apply propext; omega
theorem mem_both (c : Nat) : decide (c ∈ ("abcdefghijklmnopqrstuvwxyz0123456789" : Str).cps.toList) = (letter c || figure c) := by
  rw [both_list, ← mem_letters, ← mem_figures, letters_list, figures_list]
  by_cases h1 : c ∈ List.range' 97 26 <;> by_cases h2 : c ∈ List.range' 48 10 <;> simp [h1, h2]
def nameB (s : Str) : Bool := decide (1 ≤ (s.length : Int)) && decide ((s.length : Int) ≤ 12) && (match s.cps.toList with | [] => false | c :: _ => letter c) && s.cps.toList.all fun c => letter c || figure c
def isName : PyData → Bool | .str s => nameB s | _ => false
theorem nm_name {i : Nat} {s : Str} (hi : i < 32) (h : Nm i s) : nameB s = true := by
  obtain ⟨a, b, rfl, h1, h2, h3⟩ := h
  obtain ⟨d1, d2, d3⟩ := digs_ok i hi
  have hl : (S (a ++ Digs i ++ b)).length = a.length + (Digs i).length + b.length := by rw [SX.S_len, List.length_append, List.length_append]
  have hc : (S (a ++ Digs i ++ b)).cps.toList = a ++ Digs i ++ b := rfl
  unfold nameB
  rw [hl, hc]
  simp only [Bool.and_eq_true, decide_eq_true_eq, List.all_eq_true, Bool.or_eq_true]
  refine ⟨⟨⟨by omega, by omega⟩, ?_⟩, fun c hc => ?_⟩
  · cases a with
    | nil => simp at h1
    | cons x r =>
      have := h3 x (by simp)
      show letter x = true
      unfold letter; simp; omega
  · rcases List.mem_append.mp hc with hc | hc
    · rcases List.mem_append.mp hc with hc | hc
      · have := h3 c (List.mem_append_left _ hc); left; unfold letter; simp; omega
      · have := d3 c hc; right; unfold figure; simp; omega
    · have := h3 c (List.mem_append_right _ hc); left; unfold letter; simp; omega

/-- a def that answers a Bool of one datum -/
def spB (K : PySem.W.Frag) (pre : PyData → Prop) (f : PyData → Bool) : Sp := fun vs H Q _ => ∃ v d, vs = [v] ∧ Dp K H v d ∧ pre d ∧ ∀ H', Same H H' → Q (.bl (f d)) H'
theorem rdc_spB {K : PySem.W.Frag} {E : XK} {pre : PyData → Prop} {f : PyData → Bool} {d : PyData} (hp : pre d) : RDC K (fun vs H Q => spB K pre f vs H Q E) [d] (.bool (f d)) := fun F vs H1 hv Q q => by
  cases hv with
  | cons a r => cases r; exact ⟨_, d, rfl, df_dp a, hp, fun H' s => q _ H' s (.bl _)⟩
theorem all_signs {p : Nat → Bool} (g : PyData → Bool) (hg : ∀ c, g (.str ⟨#[c]⟩) = p c) (x : Str) : ((signs x).map g).all id = x.cps.toList.all p := by
  unfold signs
  rw [List.map_map, List.all_map]
  congr 1; funext c; exact hg c
section
variable {P : Program} {w : World} {K : PySem.W.Frag} {mg : Str → Option Value} {base : Heap} (T : Txt w K mg)
def sgn : PyData → Nat | .str x => x.cps.toList.headD 0 | _ => 0
theorem ok_is_name : FnOk P w K mg base CX0 1 T.a_is_name T.d_is_name ["value"] (spB K (fun d => gd d = true) isName) := by
  refine T.D_is_name.fn.ok sc_is_name (fun vs H Q E h => ?_) (fun cdv A outer s H vs Q E hr h => ?_)
  · obtain ⟨v, d, rfl, _⟩ := h; rfl
  · obtain ⟨v, d, rfl, hv, hd, k⟩ := h
    refine ⟨_, (pss_cons (ps_if (PW.pt (pw_or (pt_not (pt_val (pe_callB call_isi (by rfl) T.b_isinstance bt_isinstance (pa_cons (pv 0) (pa_cons (pe_bltn (v := .ty "str") (by rfl) T.b_str bt_str rfl) pa_nil))))) (pw_or (pt_not (pt_chain op_le op_le pe_int (pe_callB call_len (by rfl) T.b_len bt_len (pa_cons (pv 0) pa_nil)) pe_int)) (pw_or1 (pt_cmpR op_notIn_sign (pe_ix (r := rIx K) ix_seq (pv 0) pe_int (fun _ _ => rfl)) (pe_glob (v := .str "abcdefghijklmnopqrstuvwxyz") (by rfl) T.g_LETTERS ⟨_, rfl⟩) rfl))))) (pss_one (ps_ret pe_bl)) pss_nil)
      (pss_one (ps_ret (pe_callB (cr_all rfl) (by rfl) T.b_all bt_all (pa_cons (pe_lc (own := [("sign", 1)]) rfl sc_is_name.nd (pi_str (pv 0)) (blkOk_by (own := [("sign", 1)]) (N := ["value", "sign"]) (sc := defScope s_is_name) (by decide +kernel)) (fun _ _ _ _ _ => (pg_name (i := 1) sc_is_name.nd rfl (by first | exact Or.inl rfl | exact Or.inr rfl))) (fun _ _ _ _ _ => pts_nil) (fun _ _ _ _ _ => (pe_or (pe_cmpR op_in_sign (pv 1) (pe_glob (v := .str "abcdefghijklmnopqrstuvwxyz") (by rfl) T.g_LETTERS ⟨_, rfl⟩) rfl) (pe_one (pe_cmpR op_in_sign (pv 1) (pe_glob (v := .str "0123456789") (by rfl) T.g_FIGURES ⟨_, rfl⟩) rfl))))) pa_nil))))), ?_⟩
    have hvar : ∀ H1, Same H H1 → ED K (tVar 0) (start ["value", "sign"] [v]) (nn H) H1 d := fun H1 s1 => ed_var rfl (df_mono s1 (fun _ z => z) (dp_df hv))
    have isi := et_B (ed_isi (T := "str") (hvar H (Same.refl _)) (.inl rfl))
    cases d with
    | str x =>
      have hx : x.length ≤ 1000 := by simp only [gd, Bool.and_eq_true, decide_eq_true_eq] at hd; exact hd.2
      have h12 : ET _ _ H _ := et_not (et_test (ed_chain (r := rI0 fun i j => .bl (decide (i ≤ j))) (r' := rI0 fun i j => .bl (decide (i ≤ j))) (ed_int (i := 1)) (ed_len (hvar H (Same.refl _)) (decide_eq_true (by omega))) (ed_int (i := 12)) rd_cmp fun _ => rd_cmp))
      by_cases hb : decide (1 ≤ (x.length : Int)) && decide ((x.length : Int) ≤ 12)
      · obtain ⟨c, cs, hc⟩ : ∃ c cs, x.cps.toList = c :: cs := by
          cases hc : x.cps.toList with
          | nil => 
            have : x.length = 0 := by show x.cps.size = 0; rw [← Array.length_toList, hc]; rfl
            simp [this] at hb
          | cons c cs => exact ⟨c, cs, rfl⟩
        have hch := et_B (ed_notInS (ed_ixS (j := 0) (hvar H (Same.refl _)) ed_int (by omega) (c := c) (by rw [hc]; rfl)) (ed_str (x := "abcdefghijklmnopqrstuvwxyz")))
        refine s_if (b := !letter c) (et_is (et_or (et_not isi) fun _ => et_or h12 fun _ => hch) ?_) (fun h H1 s1 => ?_) (fun h H1 s1 => ?_)
        · rw [mem_letters]; show (!true || (!(decide (1 ≤ (x.length : Int)) && decide ((x.length : Int) ≤ 12)) || !letter c)) = _; rw [hb]; rfl
        · have := k H1 s1
          have e : isName (.str x) = false := by
            show nameB x = false
            unfold nameB; rw [hc]; simp at h; simp [h]
          rw [e] at this; exact this
        · refine s_ret (F := nn H) (ed_all (bs := (signs x).map fun s => letter (sgn s) || figure (sgn s)) (ed_is (ed_lc (f := fun _ => true) (m := fun s => .bool (letter (sgn s) || figure (sgn s))) (ei_str (hvar H1 s1)) ?_ fun F2 H2 e2 v2 d2 hm hd2 => ?_) ?_)) fun v H2 s2 hv2 => ?_
          · unfold signs; rw [List.length_map, Array.length_toList]; show x.length ≤ _; omega
          · obtain ⟨c2, hc2, rfl⟩ := List.mem_map.mp hm
            refine ⟨_, fun Q q => q, rfl, et_yes, fun _ => ed_is (ed_orV (ed_inS (ed_var rfl hd2) (ed_str (x := "abcdefghijklmnopqrstuvwxyz"))) fun _ => ed_inS (ed_var rfl hd2) (ed_str (x := "0123456789"))) ?_⟩
            rw [mem_letters, mem_figures]; rfl
          · rw [filt_tt, List.map_map]; rfl
          · cases hv2
            have := k H2 (s1.trans s2)
            have e : isName (.str x) = ((signs x).map fun s => letter (sgn s) || figure (sgn s)).all id := by
              rw [all_signs (p := fun c => letter c || figure c) _ (fun c => rfl)]
              show nameB x = _
              unfold nameB; rw [hb, hc]; simp at h; simp [h]
            rw [e] at this; exact this
      · rw [Bool.not_eq_true] at hb
        refine s_if (b := true) (et_is (et_or (b := true) (et_not isi) fun _ => et_is (et_or (b := false) h12 fun h => ?_) ?_) ?_) (fun h H1 s1 => ?_) (fun h H1 s1 => nomatch h)
        · have h := (show (!(decide (1 ≤ (x.length : Int)) && decide ((x.length : Int) ≤ 12))) = false from h)
          rw [hb] at h; cases h
        · show (!(decide (1 ≤ (x.length : Int)) && decide ((x.length : Int) ≤ 12)) || false) = true
          rw [hb]; rfl
        · rfl
        · have := k H1 s1
          have e : isName (.str x) = false := by
            show nameB x = false
            unfold nameB; rw [hb]; rfl
          rw [e] at this; exact this
    | _ =>
      refine s_if (b := true) (et_or (b := true) (et_not isi) fun h => nomatch h) (fun h H1 s1 => ?_) (fun h H1 s1 => nomatch h)
      exact k H1 s1
end
end Ag

set_option Elab.async false
set_option linter.all false
set_option maxRecDepth 100000
set_option maxHeartbeats 1000000
namespace Ag
open PySem PySem.Spec PyProof.Rows L2
section
variable {P : Program} {w : World} {K : PySem.W.Frag} {mg : Str → Option Value} {base : Heap}
def spNo : Sp := fun _ _ _ _ => False
theorem no_ok (k : Nat) {x : Str} {N : List Str} {st : Stmt} {ps : List Str} {a : Addr} {fd : FuncData} (D : DefAt K mg x st ps a fd) (S : FnScope N ps (defScope st)) : FnOk P w K mg base CX0 (k + 1) a fd ps spNo :=
  D.fn.ok S (fun vs H Q E h => h.elim) (fun cdv A outer s H vs Q E hr h => h.elim)
end
theorem merge_pen {c : Addr} {a d n f : Int} : mergeK [] [(ck "cells", V.ref c), (ck "at", .int a), (ck "digits", .int d), (ck "count", .int n), (ck "fold", .int f)] = penKV c a d n f := by
  unfold mergeK
  simp [putK, penKV, ck, sn_cells_at, sn_cells_digits, sn_cells_count, sn_cells_fold, sn_at_digits, sn_at_count, sn_at_fold, sn_digits_count, sn_digits_fold, sn_count_fold]
def spLPen (K : PySem.W.Frag) : Sp := fun vs H Q _ => ∃ (a : Addr) (ns : List Int), vs = [.ref a] ∧ SqL K H a (ns.map V.int) ∧ ns.length ≤ 63 ∧ ∀ p c H', Same H H' → Pen p c 0 H' → Q (.ref p) H'
section
variable {P : Program} {w : World} {K : PySem.W.Frag} {mg : Str → Option Value} {base : Heap} (T : Txt w K mg)
theorem ok_law_pen : FnOk P w K mg base CX0 1 T.a_law_pen T.d_law_pen ["script"] (spLPen K) := by
  refine T.D_law_pen.fn.ok sc_law_pen (fun vs H Q E h => ?_) (fun cdv A outer s H vs Q E hr h => ?_)
  · obtain ⟨a, ns, rfl, _⟩ := h; rfl
  · obtain ⟨a, ns, rfl, hs, hl, k⟩ := h
    refine ⟨_, (pss_cons (ps_set (i := 1) sc_law_pen.nd rfl (by first | exact Or.inl rfl | exact Or.inr rfl) pe_int)
      (pss_cons (ps_for PassesOwn.never rfl (pi_list (pv 0)) (pg_name (i := 2) sc_law_pen.nd rfl (by first | exact Or.inl rfl | exact Or.inr rfl)) (pss_one (ps_set (i := 1) sc_law_pen.nd rfl (by first | exact Or.inl rfl | exact Or.inr rfl) (pe_op op_mod (pe_callTy call_int1 (by rfl) T.b_int bt_int (pa_cons (pe_op op_add (pe_op op_mul (pv 1) pe_int) (pv 2)) pa_nil)) pe_int))))
      (pss_one (ps_ret (pe_disp (pps_cons pe_str (pe_callTy call_list_of (by rfl) T.b_list bt_list (pa_cons (pv 0) pa_nil)) (pps_cons pe_str pe_int (pps_cons pe_str pe_int (pps_cons pe_str pe_int (pps_cons pe_str (pv 1) pps_nil))))) (by rfl) (by rfl) (fun z => by cases z) (by decide)))))), ?_⟩
    refine ⟨_, rfl, a, rfl, ⟨_, hs⟩, for_list (K := K) (a := a) (xs := ns.map V.int) (fun i σ' H' => H' = H ∧ ∃ (f : Int) (o : Option V), σ' = [some (.ref a), some (.int f), o] ∧ 0 ≤ f ∧ f < 1000000411) ⟨rfl, 29, none, rfl, by decide, by decide⟩ (fun i σ' H' _ h => by rw [h.1]; exact hs) ?_ ?_⟩
    · rintro i y σ' H' hi ⟨rfl, f, o, rfl, f0, f1⟩
      obtain ⟨u, rfl⟩ : ∃ u, y = V.int u := by
        rw [List.getElem?_map] at hi
        cases e : ns[i]? with
        | none => rw [e] at hi; cases hi
        | some u => rw [e] at hi; exact ⟨u, (Option.some.inj hi).symm⟩
      refine ⟨_, rfl, _, _, rfl, rfl, .inl ⟨by omega, by omega⟩, _, rfl, _, _, rfl, rfl, .inl ⟨_, rfl, _, _, rfl, rfl, (by show (0 : Int) < 1000000411; decide), ?_⟩⟩
      exact ⟨rfl, _, _, rfl, Int.emod_nonneg _ (by decide), Int.emod_lt_of_pos _ (by decide)⟩
    · rintro σ' H' ⟨rfl, f, o, rfl, f0, f1⟩
      intro p hp
      refine ⟨_, rfl, _, _, rfl, .inl ((Same.newA hp).slA hs), fun c hc => ⟨_, rfl, ?_⟩⟩
      have npc : p ≠ c := ne_of_none upd_same hc
      have s2 : Same H' (upd (upd H' p (.dK [])) c (.lst (ns.map V.int))) := (Same.newA hp).trans (Same.newA hc)
      refine ⟨by rw [upd_ne npc]; exact upd_same, [(ck "cells", V.ref c), (ck "at", .int 0), (ck "digits", .int 0), (ck "count", .int 0), (ck "fold", .int f)], rfl, (by decide : 5 ≤ 15), ?_⟩
      rw [merge_pen]
      refine k p c _ (fun b o e => ?_) ⟨ns, 0, 0, 0, f, upd_same, .inl (by rw [upd_ne (Ne.symm npc)]; exact upd_same), by decide, by decide, by decide, by decide, f0, by omega⟩
      rw [upd_ne (ne_of_none e hp)]; exact s2 _ _ e
end
end Ag

set_option Elab.async false
set_option linter.all false
set_option maxRecDepth 100000
set_option maxHeartbeats 4000000
/-! set(tuple of texts). -/
namespace Ag
open PySem PySem.Spec PyProof.Rows L2
section
variable {P : Program} {w : World} {A : Around} {E : Value → Shared → Prop}
set_option maxHeartbeats 4000000 in
theorem set_of_strsT {s : Shared} {l : Addr} {items : Array Value} {xs : List Str} {Q : Value → Shared → Prop} (hh : A.handled = none) (hl : s.heap.IsTuple l items) (hi : StrsAre items.toList xs) (hb : xs.length + 1 < scanBound)
    (hQ : ∀ (h' : Heap) (tk : Nat) S m, SetAtG (PySem.strKind P w) h' s.heap.objs.size S m → m ≤ xs.length → (∀ k, S k = true ↔ k ∈ xs) → (∀ b o, s.heap.get? b = some o → h'.get? b = some o) → Q (.ref s.heap.objs.size) { s with heap := h', toks := tk }) :
    wpAny (model P w) A (call (.type "set") [.ref l]) Q E s := by
  have isz : items.size = xs.length := by rw [← StrsAre.len_eq hi, Array.length_toList]
  obtain ⟨c, tl, hmro⟩ := F.called_set.mro
  have hmade := F.called_set.made
  have hsub := F.called_set.sub
  refine wpAny_call (codeAny_of_tree ?_)
  show wpAny _ _ (callAny (.type "set") _) _ _ _
  refine wpAny_pure ⟨Code.quiet_builtin _ (by decide +kernel), codeAny_builtin F.entry_type_call ?_⟩
  rw [Around.under_plain (weight_type_call_type "set" [.ref l] []) rfl]
  have h1 := F.called_set.notType
  have h2 := F.called_set.canCreate
  have hct := F.typeCall_set_1 (.ref l)
  repeat (any_goals (first | assumption | wp_step))
  refine codeAny_mono (code_set_led1 (.ref l) (E := E) (Q₁ := fun obj s₁ => obj = .ref s.heap.objs.size ∧ s₁ = { s with heap := s.heap.push ({ cls := .type "set", dict := none, data := .set #[] 0 (.fresh 0 0 (!w.params.followText "set-order")) } : Obj) }) ⟨rfl, rfl⟩) fun r s₁ hr => ?_
  cases r with
  | error e => exact hr
  | ok fl =>
    cases fl with
    | ret obj =>
      obtain ⟨rfl, rfl⟩ := hr
      have hS : (s.heap.push ({ cls := .type "set", dict := none, data := .set #[] 0 (.fresh 0 0 (!w.params.followText "set-order")) } : Obj)).get? s.heap.objs.size = some ({ cls := .type "set", dict := none, data := .set #[] 0 (.fresh 0 0 (!w.params.followText "set-order")) } : Obj) := Heap.get?_push_size _ rfl
      have hT : Shared.TypeIs { s with heap := s.heap.push ({ cls := .type "set", dict := none, data := .set #[] 0 (.fresh 0 0 (!w.params.followText "set-order")) } : Obj) } (.ref s.heap.objs.size) "set" := ⟨_, hS, rfl⟩
      have hli := F.called_set.init.lookup
      have hbi := F.called_set.init.bind (.ref s.heap.objs.size)
      repeat (any_goals (first | assumption | wp_step))
      refine codeAny_mono (codeAny_call_builtin (R := wants (fun r s₂ => r = .none ∧ ∃ h' tk S m, s₂ = { s with heap := h', toks := tk } ∧ SetAtG (PySem.strKind P w) h' s.heap.objs.size S m ∧ m ≤ xs.length ∧ (∀ k, S k = true ↔ k ∈ xs) ∧
          (∀ b o, s.heap.get? b = some o → h'.get? b = some o)) E) F.called_set.init.plain F.entry_set_init (check_set_init_1 hT ?_)) fun r₂ s₂ hr₂ => ?_
      · obtain ⟨ol, hol, hcl, nl, hdl⟩ := hl
        obtain ⟨ocls, odict, odata, oslots⟩ := ol
        simp only at hcl hdl
        subst hcl; subst hdl
        have hol1 : (s.heap.push ({ cls := .type "set", dict := none, data := .set #[] 0 (.fresh 0 0 (!w.params.followText "set-order")) } : Obj)).get? l = some { cls := .type "tuple", dict := odict, data := .seq items nl, slots := oslots } := Heap.get?_push_of_some _ hol
        have hsls := F.sub_tuple_set
        have hslf := F.sub_tuple_frozenset
        have hne : (Value.type "tuple" == Value.type "dict") = false := by decide
        have hl1 : (s.heap.push ({ cls := .type "set", dict := none, data := .set #[] 0 (.fresh 0 0 (!w.params.followText "set-order")) } : Obj)).IsTuple l items := ⟨_, hol1, rfl, nl, rfl⟩
        unfold Builtin.«set.__init__» noKeywords Builtin.Frozenset.updateFrom
        generalize hPI : pyIter = PI
        wp_walk
        subst hPI
        refine wpAny_pyIter_tuple hl1 ?_
        refine wpAny_bind (wpAny_runValue ?_)
        have llt : l < s.heap.objs.size := Heap.lt_size hol
        have hh3 : A.in1.in1.in1.handled = none := by simp [hh]
        have z1 : (s.heap.push ({ cls := .type "set", dict := none, data := .set #[] 0 (.fresh 0 0 (!w.params.followText "set-order")) } : Obj)).objs.size = s.heap.objs.size + 1 := Heap.size_push ..
        have ne1 : l ≠ (s.heap.push ({ cls := .type "set", dict := none, data := .set #[] 0 (.fresh 0 0 (!w.params.followText "set-order")) } : Obj)).objs.size := by rw [z1]; exact Nat.ne_of_lt (Nat.lt_succ_of_lt llt)
        have hnf : s.heap.objs.size ∉ [(s.heap.push ({ cls := .type "set", dict := none, data := .set #[] 0 (.fresh 0 0 (!w.params.followText "set-order")) } : Obj)).objs.size, l] := by
          rw [z1]; intro z
          rcases List.mem_cons.mp z with z | z
          · exact Nat.ne_of_lt (Nat.lt_succ_self _) z
          · exact Nat.ne_of_gt llt (List.mem_singleton.mp z)
        have hval : ∀ (i : Nat) (v : Value), items[i]? = some v → ∃ x t, xs[i]? = some x ∧ v = .str x t := fun i v q => by
          have q2 : items.toList[i]? = some v := by rw [Array.getElem?_toList]; exact q
          obtain ⟨t, e⟩ := SS.strs_at hi i v q2
          have il : i < xs.length := by rw [← isz, ← Array.length_toList]; exact (List.getElem?_eq_some_iff.mp q2).1
          refine ⟨_, t, ?_, e⟩
          rw [List.getD_eq_getElem?_getD, List.getElem?_eq_getElem il]; rfl
        refine upd_loop ((Walks.tuple hh3 _ l ne1 items).toS) s.heap.objs.size hnf xs isz hb hval (items.size - 0) 0 _ (by omega) (Nat.zero_le _)
          ⟨⟨_, Heap.get?_push_size _ rfl, rfl, rfl⟩, (hl1.push _)⟩ ⟨_, 0, SetAtG.fresh (kd := PySem.strKind P w) (Heap.get?_push_of_some _ hS), Nat.le_refl _, fun k => (by simp)⟩ fun s' S m mv hS' hm hk => ?_
        obtain ⟨h', g2, d', tk', os'⟩ := s'
        have eg : g2 = s.gens := mv.gens
        have ed : d' = s.drawn := mv.drawn
        have eo : os' = s.os := mv.os
        subst eg; subst ed; subst eo
        show wpAny _ _ _ _ _ _
        refine wpAny_pure ?_
        show wpAny _ _ (ret Value.none) _ _ _
        refine wpAny_pure ⟨rfl, h', tk', S, m, rfl, hS', by rw [← isz]; exact hm, hk, fun b o e => mv.heap b o (fun z => ?_) (Heap.get?_push_of_some _ (Heap.get?_push_of_some _ e))⟩
        have lb := Heap.lt_size e
        rcases List.mem_cons.mp z with z | z
        · exact Nat.ne_of_lt lb z
        · exact Nat.ne_of_lt (Nat.lt_succ_of_lt lb) ((List.mem_singleton.mp z).trans z1)
      · cases r₂ with
        | error e => exact hr₂
        | ok fl₂ =>
          cases fl₂ with
          | ret r =>
            obtain ⟨rfl, h', tk, S, m, rfl, hS', hm, hk, kp⟩ := hr₂
            repeat (any_goals (first | assumption | wp_step))
            exact hQ _ _ _ _ hS' hm hk kp
          | _ => exact hr₂.elim
    | _ => exact hr.elim
end

def rSetT (K : PySem.W.Frag) (P : Program) (w : World) : List V → Hp → VK → Prop := fun vs H Q => ∃ (a : Addr) (xs : List Str), vs = [V.ref a] ∧ SqT K H a (xs.map V.str) ∧ xs.length < 4000 ∧ ∀ p, H p = none → Q (.ref p) (upd H p (StrSet P w p xs))
theorem cr_setT {X : Cx} (hc : X.calm = true) : CallR X (.type "set") (rSetT X.K X.prog X.w) := by
  intro pins s σ H vs us Q I r h
  obtain ⟨a, xs, rfl, hs, hb, q⟩ := h
  obtain ⟨its, rv, hl, _⟩ := I.tuple hs
  rw [Vals.ref1 r]
  have hn : H s.heap.objs.size = none := I.hok.fresh (Nat.le_refl _)
  refine set_of_strsT (P := X.prog) (w := X.w) (I.ok.hd hc) hl rv.strs (by unfold scanBound; omega) fun h' tk S m hS hm hk kp => ?_
  refine ⟨.ref s.heap.objs.size, upd H s.heap.objs.size (StrSet X.prog X.w s.heap.objs.size xs), I.laid (t' := tk) kp (Nat.le_refl _) ?_, rfl, q _ hn⟩
  refine ⟨⟨S, m, hS, hm, hk⟩, ?_, ?_⟩
  · obtain ⟨o, es, ep, t, R⟩ := hS
    exact ⟨o, R.at_⟩
  · rintro h1 h2 ⟨S, m, hS, hm, hk⟩ e
    exact ⟨S, m, hS.keep e, hm, hk⟩
end Ag

set_option Elab.async false
set_option linter.all false
set_option maxRecDepth 100000
set_option maxHeartbeats 4000000
/-! Tables of sets of up to 300 keys: masks up to 511. -/
namespace Ag
open PySem PySem.Spec PyProof.Rows L2
def MaskW (m : Nat) : Prop := MaskOk m ∨ m = 511
/-- the numbers that come, one behind the other -/
def orb (m : Nat) : Nat → Nat → List Nat
  | 0, _ => []
  | n + 1, x => x :: orb m n ((x * 5 + 1) % (m + 1))
theorem orb_get (m : Nat) : ∀ n a k, k < n → (orb m n (lcgN m a))[k]? = some (lcgN m (a + k))
  | 0, _, _, h => absurd h (Nat.not_lt_zero _)
  | n + 1, a, 0, _ => rfl
  | n + 1, a, k + 1, h => by
    have := orb_get m n (a + 1) k (by omega)
    rw [show a + 1 + k = a + (k + 1) by omega] at this
    exact this
theorem orb_len (m : Nat) : ∀ n x, (orb m n x).length = n
  | 0, _ => rfl
  | n + 1, x => congrArg (· + 1) (orb_len m n _)
theorem orb511 : ((List.range 512).all fun j => (orb 511 512 0).contains j) = true := by decide +kernel
theorem once511 : lcgN 511 512 = 0 := by decide +kernel
theorem meet511 {j : Nat} (h : j ≤ 511) : ∃ b, b ≤ 511 ∧ lcgN 511 b = j := by
  have q := List.all_eq_true.mp orb511 j (List.mem_range.mpr (by omega))
  obtain ⟨b, hb, e⟩ := List.getElem_of_mem (List.contains_iff_mem.mp q)
  rw [orb_len] at hb
  have g := orb_get 511 512 0 b hb
  rw [Nat.zero_add] at g
  have e2 : (orb 511 512 (lcgN 511 0))[b]? = some j := List.getElem?_eq_some_iff.mpr ⟨by rw [orb_len]; exact hb, e⟩
  exact ⟨b, by omega, Option.some.inj (g.symm.trans e2)⟩
theorem more511 : ∀ k, lcgN 511 (512 + k) = lcgN 511 k
  | 0 => once511
  | k + 1 => congrArg (fun x => (x * 5 + 1) % 512) (more511 k)
theorem from511 {i j : Nat} (hi : i ≤ 511) (hj : j ≤ 511) : ∃ k, k ≤ 511 ∧ lcgI 511 i k = j := by
  obtain ⟨a, a1, a2⟩ := meet511 hi
  obtain ⟨b, b1, b2⟩ := meet511 hj
  by_cases c : a ≤ b
  · exact ⟨b - a, by omega, by rw [← a2, lcgN_add, Nat.add_sub_cancel' c, b2]⟩
  · exact ⟨512 + b - a, by omega, by rw [← a2, lcgN_add, Nat.add_sub_cancel' (by omega), more511, b2]⟩
/-- each slot is the start of an early run -/
theorem meetsW {m : Nat} (w : MaskW m) (h : Int) {j : Nat} (l : j ≤ m) : ∃ n, n ≤ m + 12 ∧ runI m (SetTable.bits h) n = j := by
  rcases w with w | rfl
  · exact run_meets w h l
  · obtain ⟨k, k1, k2⟩ := from511 (runI_le 511 (SetTable.bits h) 12) l
    exact ⟨12 + k, by omega, (runI_tail (bits_lt h) k).trans k2⟩
theorem way_in (m : Nat) (h : Int) (k : Nat) : way m h k ≤ m := by
  have l : SetTable.bits h % (m + 1) < m + 1 := Nat.mod_lt _ (Nat.succ_pos m)
  have e := runEnd_bd (Nat.le_of_lt_succ l)
  have := nth_in (m := m) k (runAt m (SetTable.bits h % (m + 1)) (SetTable.bits h)) (by unfold runAt; dsimp only; omega)
  exact Nat.le_trans (Nat.le_add_right _ _) this
/-- a table of such a mask, each of whose keys is found by its hash -/
structure TabW (t : SetTable) (hs : List Int) : Prop where
  ris : Ris t.place.toList
  dm : t.dummies = #[]
  sz : t.place.size = hs.length
  mok : MaskW t.mask
  bd : ∀ y ∈ t.place.toList, y ≤ t.mask
  reach : ∀ (i : Nat) (g : Int) (y : Nat), hs[i]? = some g → t.place.toList[i]? = some y → ∃ c, way t.mask g c = y ∧ ∀ c', c' < c → way t.mask g c' ∈ t.place.toList
theorem maskW_odd {m : Nat} (h : MaskW m) : m % 2 = 1 := h.elim mask_odd fun e => by rw [e]
theorem maskW_le {m : Nat} (h : MaskW m) : m ≤ 511 := by rcases h with (h | h | h) | h <;> omega
/-- the first free place on a key's way -/
theorem TabW.first {t : SetTable} {hs : List Int} (T : TabW t hs) (few : hs.length ≤ t.mask) (g : Int) : ∃ c, c < 10 * SetTable.turns t.mask ∧ way t.mask g c ∉ t.place.toList ∧ ∀ d, d < c → way t.mask g d ∈ t.place.toList := by
  have z : t.place.toList.length ≤ t.mask := by rw [Array.length_toList, T.sz]; exact few
  obtain ⟨y, y1, y2⟩ := st_missing t.place.toList (t.mask + 1) (by omega)
  obtain ⟨n, n1, n2⟩ := meetsW T.mok g (Nat.le_of_lt_succ y1)
  obtain ⟨c, c1, c2⟩ := run_nth t.mask (SetTable.bits g) n
  have at_ : way t.mask g c = y := (congrArg SetTable.Probe.j c2).trans n2
  obtain ⟨d, d1, d2, d3⟩ := st_least (p := fun d => way t.mask g d ∉ t.place.toList) c (by rw [at_]; exact y2)
  exact ⟨d, by unfold SetTable.turns; omega, d2, fun e le => Decidable.of_not_not (d3 e le)⟩
theorem TabW.before {t : SetTable} {hs : List Int} (T : TabW t hs) {h : Int} {c i y : Nat} (free : way t.mask h c ∉ t.place.toList) (hi : hs[i]? = some h) (hy : t.place.toList[i]? = some y) : ∃ d, d < c ∧ way t.mask h d = y := by
  obtain ⟨d, d1, d2⟩ := T.reach i h y hi hy
  have my := List.mem_of_getElem? hy
  refine ⟨d, Nat.lt_of_not_le fun le => ?_, d1⟩
  rcases Nat.eq_or_lt_of_le le with rfl | lt
  · exact free (d1 ▸ my)
  · exact free (d2 c lt)
theorem TabW.put {t : SetTable} {hs : List Int} (T : TabW t hs) {g : Int} {c : Nat} (free : way t.mask g c ∉ t.place.toList) (all : ∀ d, d < c → way t.mask g d ∈ t.place.toList) :
    (t.put (way t.mask g c)).2 = SetTable.below t.place (way t.mask g c) ∧ SetTable.below t.place (way t.mask g c) ≤ hs.length ∧
    TabW (t.put (way t.mask g c)).1 (hs.take (SetTable.below t.place (way t.mask g c)) ++ g :: hs.drop (SetTable.below t.place (way t.mask g c))) ∧
    (t.put (way t.mask g c)).1.mask = t.mask ∧ (t.put (way t.mask g c)).1.led = t.led ∧ (t.put (way t.mask g c)).1.fill = hs.length + 1 := by
  have bd := way_in t.mask g c
  generalize hy : way t.mask g c = y at free bd ⊢
  generalize hb : SetTable.below t.place y = b
  have cut := below_cut T.ris y
  rw [hb] at cut
  have b1 : b ≤ t.place.toList.length := by rw [Array.length_toList]; exact cut.1
  have b2 : b ≤ hs.length := T.sz ▸ cut.1
  have new : (t.put y).1.place.toList = t.place.toList.take b ++ y :: t.place.toList.drop b := hb ▸ put_place t y
  have size : (t.put y).1.place.size = hs.length + 1 := by
    rw [← Array.length_toList, new, len_ins _ b1, Array.length_toList, T.sz]
  have grow : ∀ {x : Nat}, x ∈ t.place.toList → x ∈ (t.put y).1.place.toList := fun {x} m => new ▸ mem_ins.mpr (.inr m)
  have dm2 := put_dm T.dm y
  refine ⟨hb, b2, ⟨ris_insert T.ris fun e => free (List.mem_of_getElem? (Array.getElem?_toList ▸ e)), dm2, by rw [len_ins _ b2]; exact size, T.mok, fun x hx => ?_, fun i g' y' h1 h2 => ?_⟩, rfl, rfl, ?_⟩
  · rw [new] at hx
    exact (mem_ins.mp hx).elim (fun e => e ▸ bd) (T.bd x)
  · rw [tins_get hs b2] at h1
    rw [new, tins_get _ b1] at h2
    have old : ∀ k, hs[k]? = some g' → t.place.toList[k]? = some y' → ∃ c, way t.mask g' c = y' ∧ ∀ c', c' < c → way t.mask g' c' ∈ (t.put y).1.place.toList := fun k q1 q2 =>
      let ⟨d, d1, d2⟩ := T.reach k g' y' q1 q2
      ⟨d, d1, fun c' lt => grow (d2 c' lt)⟩
    by_cases e1 : i < b
    · rw [if_pos e1] at h1 h2; exact old i h1 h2
    · rw [if_neg e1] at h1 h2
      by_cases e2 : i = b
      · rw [if_pos e2] at h1 h2
        cases h1; cases h2
        exact ⟨c, hy, fun c' lt => grow (all c' lt)⟩
      · rw [if_neg e2] at h1 h2; exact old (i - 1) h1 h2
  · unfold SetTable.fill
    rw [size, dm2]; rfl
/-- the first free slot, when all is laid anew -/
theorem freeW {m : Nat} (w : MaskW m) (own : Array (Option Nat)) (g : Int) {y : Nat} (l : y ≤ m) (free : oAt own y = none) :
    ∃ c, SetTable.layClean.free m own (SetTable.turns m) (SetTable.bits g % (m + 1)) (SetTable.bits g) = some (way m g c) ∧ oAt own (way m g c) = none ∧ ∀ d, d < c → oAt own (way m g d) ≠ none := by
  obtain ⟨n, n1, n2⟩ := meetsW w g l
  have at_ : way m g (off m (SetTable.bits g % (m + 1)) (SetTable.bits g) n) = y := by
    have := nth_off m n (SetTable.bits g % (m + 1)) (SetTable.bits g)
    rw [itL_run] at this
    exact (congrArg SetTable.Probe.j this).trans n2
  obtain ⟨c, c1, c2, c3⟩ := st_least (p := fun c => oAt own (way m g c) = none) _ (by rw [at_]; exact free)
  refine ⟨c, free_spec m own (SetTable.turns m) n _ _ c (by unfold SetTable.turns; omega) c1 (fun d ld => ?_) (Option.isNone_iff_eq_none.mpr c2), c2, c3⟩
  exact Bool.eq_false_iff.mpr fun e => c3 d ld (Option.isNone_iff_eq_none.mp e)
theorem stepW {m : Nat} (w : MaskW m) {done : List Int} {own : Array (Option Nat)} (W : Own m done own) (few : done.length ≤ m) (g : Int) :
    ∃ y, SetTable.layClean.free m own (SetTable.turns m) (SetTable.bits g % (m + 1)) (SetTable.bits g) = some y ∧ Own m (done ++ [g]) (own.setIfInBounds y (some done.length)) := by
  obtain ⟨ps, p1, p2⟩ := W.ps
  obtain ⟨y0, l0, n0⟩ := st_missing ps (m + 1) (by omega)
  have f0 : oAt own y0 = none := Decidable.of_not_not fun e => n0 (p2 y0 (Nat.le_of_lt_succ l0) e)
  obtain ⟨c, c1, c2, c3⟩ := freeW w own g (Nat.le_of_lt_succ l0) f0
  have bd := way_in m g c
  refine ⟨_, c1, ?_⟩
  generalize hy : way m g c = y at c2 bd
  have self := oAt_set_self (owner := own) (j := y) (some done.length) (by rw [W.sz]; omega)
  have ne : ∀ {i : Nat}, i ≠ y → oAt (own.setIfInBounds y (some done.length)) i = oAt own i := fun e => oAt_set_ne _ e
  have keep : ∀ {i : Nat}, oAt own i ≠ none → oAt (own.setIfInBounds y (some done.length)) i ≠ none := fun {i} h => by
    by_cases e : i = y
    · rw [e, self]; exact fun z => nomatch z
    · rwa [ne e]
  refine ⟨by rw [Array.size_setIfInBounds, W.sz], fun j k lj e => ?_, fun k lk => ?_, ⟨y :: ps, by rw [List.length_cons, p1, List.length_append, List.length_singleton], fun j lj e => ?_⟩⟩
  · by_cases ej : j = y
    · subst ej
      rw [self] at e; cases e
      exact ⟨g, c, by rw [List.getElem?_append_right (Nat.le_refl _), Nat.sub_self]; rfl, hy, fun d ld => keep (c3 d ld)⟩
    · rw [ne ej] at e
      obtain ⟨g', d, d1, d2, d3⟩ := W.at_ j k lj e
      exact ⟨g', d, by rw [List.getElem?_append_left (List.getElem?_eq_some_iff.mp d1).1]; exact d1, d2, fun d' ld => keep (d3 d' ld)⟩
  · rw [List.length_append, List.length_singleton] at lk
    rcases Nat.lt_succ_iff_lt_or_eq.mp lk with lt | rfl
    · obtain ⟨j, j1, j2⟩ := W.all k lt
      exact ⟨j, j1, by rw [ne (fun e => by rw [e, c2] at j2; cases j2)]; exact j2⟩
    · exact ⟨y, bd, self⟩
  · by_cases ej : j = y
    · rw [ej]; exact List.mem_cons_self
    · rw [ne ej] at e
      exact List.mem_cons_of_mem _ (p2 j lj e)
theorem layW {m : Nat} (w : MaskW m) : ∀ (rest done : List Int) (own : Array (Option Nat)), Own m done own → done.length + rest.length ≤ m → ∃ own', rest.foldl (stepF m) (some (own, done.length)) = some (own', done.length + rest.length) ∧ Own m (done ++ rest) own'
  | [], done, own, W, _ => ⟨own, rfl, by rw [List.append_nil]; exact W⟩
  | g :: rest, done, own, W, few => by
    rw [List.length_cons] at few
    obtain ⟨y, y1, y2⟩ := stepW w W (by omega) g
    have len : (done ++ [g]).length = done.length + 1 := by rw [List.length_append, List.length_singleton]
    obtain ⟨own', o1, o2⟩ := layW w rest (done ++ [g]) _ y2 (by omega)
    rw [len] at o1
    refine ⟨own', ?_, by rw [List.append_assoc] at o2; exact o2⟩
    rw [List.foldl_cons, stepF_some y1, o1, List.length_cons, Nat.add_assoc, Nat.add_comm 1]
theorem relaidW (t : SetTable) {hs : Array Int} {wanted M : Nat} (hw : SetTable.sizeAbove wanted - 1 = M) (w : MaskW M) (few : hs.size ≤ M) :
    ∃ t' od, t.relaid hs wanted = some (t', od) ∧ od.toList.Perm (List.range hs.size) ∧ TabW t' (od.toList.map fun i => hs.getD i 0) ∧ t'.mask = M ∧ t'.led = t.led := by
  obtain ⟨own, f, W⟩ := layW w hs.toList [] _ (Own.init M) (by rw [Array.length_toList]; exact (Nat.zero_add _).symm ▸ few)
  rw [List.nil_append] at W
  have lay : SetTable.layClean M hs = some own := by rw [layClean_eq, show (0 : Nat) = ([] : List Int).length from rfl, f]; rfl
  have re : t.relaid hs wanted = some (tabOf t M own, ((liveOf M own).map (·.2)).toArray) := by rw [relaid_eq, hw, lay]; rfl
  have rs := ris_live (fun j => own.getD j none) (List.range (M + 1)) List.pairwise_lt_range
  have ris : Ris ((liveOf M own).map (·.1)) := rs.1
  have live : ∀ {j k : Nat}, (j, k) ∈ liveOf M own ↔ j ≤ M ∧ oAt own j = some k := mem_live W.sz
  have cover : ∀ k, k < hs.size → k ∈ (liveOf M own).map (·.2) := fun k lk => by
    obtain ⟨j, j1, j2⟩ := W.all k (by rw [Array.length_toList]; exact lk)
    exact List.mem_map.mpr ⟨(j, k), live.mpr ⟨j1, j2⟩, rfl⟩
  have count : (liveOf M own).length = hs.size := by
    obtain ⟨ps, p1, p2⟩ := W.ps
    have p1 : ps.length = hs.size := p1
    refine Nat.le_antisymm ?_ ?_
    · have nd : ((liveOf M own).map (·.1)).Nodup := List.Pairwise.imp (fun h => Nat.ne_of_lt h) ris
      have := nat_nodup_len ((liveOf M own).map (·.1)) ps nd fun x hx => by
        obtain ⟨⟨j, k⟩, q, rfl⟩ := List.mem_map.mp hx
        obtain ⟨j1, j2⟩ := live.mp q
        exact p2 j j1 (by rw [j2]; exact fun z => nomatch z)
      rwa [List.length_map, p1] at this
    · have := nat_nodup_len (List.range hs.size) ((liveOf M own).map (·.2)) List.nodup_range fun k hk => cover k (List.mem_range.mp hk)
      rwa [List.length_map, List.length_range] at this
  refine ⟨_, _, re, perm_range hs.size _ (by rw [List.length_map, count]) cover, ⟨ris, rfl, ?_, w, fun x hx => ?_, fun i g y h1 h2 => ?_⟩, rfl, rfl⟩
  · show ((liveOf M own).map (·.1)).toArray.size = _
    simp
  · obtain ⟨⟨j, k⟩, q, rfl⟩ := List.mem_map.mp (show x ∈ (liveOf M own).map (·.1) from hx)
    exact (live.mp q).1
  · have h1 : (((liveOf M own).map (·.2)).map fun i => hs.getD i 0)[i]? = some g := h1
    have h2 : ((liveOf M own).map (·.1))[i]? = some y := h2
    rw [List.map_map, List.getElem?_map] at h1
    rw [List.getElem?_map] at h2
    cases q : (liveOf M own)[i]? with
    | none => rw [q] at h2; cases h2
    | some z =>
      obtain ⟨y', k⟩ := z
      rw [q] at h1 h2
      cases h2
      have h1 : hs.getD k 0 = g := Option.some.inj h1
      obtain ⟨j1, j2⟩ := live.mp (List.mem_of_getElem? q)
      obtain ⟨g0, c, c1, c2, c3⟩ := W.at_ _ k j1 j2
      rw [Array.getElem?_toList] at c1
      rw [Array.getD_eq_getD_getElem?, c1] at h1
      have h1 : g0 = g := h1
      subst h1
      refine ⟨c, c2, fun d ld => ?_⟩
      obtain ⟨k2, e2⟩ := Option.ne_none_iff_exists'.mp (c3 d ld)
      exact List.mem_map.mpr ⟨(way M g0 d, k2), live.mpr ⟨way_in M g0 d, e2⟩, rfl⟩
theorem size_308 : SetTable.sizeAbove (SetTable.grown 77) = 512 := by decide +kernel
end Ag

set_option Elab.async false
set_option linter.all false
set_option maxRecDepth 100000
set_option maxHeartbeats 4000000
/-! Sets of fewer than 301 tuples whose items are numbers and texts. -/
namespace Ag
open PySem PySem.Spec PyProof.Rows L2
section
variable {P : Program} {w : World}
/-- the probe at its c-th step, and what it keeps -/
abbrev prb (m : Nat) (g : Int) (c : Nat) : SetTable.Probe := nth m (runAt m (SetTable.bits g % (m + 1)) (SetTable.bits g)) c
theorem prb_add (m : Nat) (g : Int) (c q : Nat) : nth m (prb m g c) q = prb m g (c + q) := (nth_add m c _ q).symm
theorem prb_way (m : Nat) (g : Int) (c q : Nat) : (nth m (prb m g c) q).j = way m g (c + q) := congrArg (fun z : SetTable.Probe => z.j) (prb_add m g c q)
theorem nth_dm (m : Nat) : ∀ (n : Nat) (z : SetTable.Probe), z.dummy = none → (nth m z n).dummy = none
  | 0, _, e => e
  | n + 1, z, e => nth_dm m n (adv m z) (by unfold adv; split <;> exact e)

variable {κ : Type} [DecidableEq κ] (kd : HeapKind P w κ)
/-- what a set asks of the keys it holds -/
structure KeyOk : Prop where
  old : ∀ {h h' : Heap} {k : κ} {b : Addr}, (∀ c o, h.get? c = some o → h'.get? c = some o) → kd.is h k b → kd.is h' k b
  but : ∀ {h h' : Heap} {k : κ} {b d : Addr} {o : Obj} {vs : Array (Int × Value)} {n : Nat} {t : SetTable}, kd.is h k b → h.get? d = some o → o.data = .set vs n t → Heap.SameBut d h h' → kd.is h' k b
  cls : ∀ {A : Around} {E : Value → Shared → Prop} {s : Shared} {k : κ} {b : Addr} {Q : Bool → Shared → Prop}, kd.is s.heap k b → Q false s → wpAny (model P w) A (ofAClassStatement 8 (.ref b)) Q E s
  byv : ∀ {A : Around} {E : Value → Shared → Prop} {s : Shared} {k : κ} {b : Addr} {Q : Bool → Shared → Prop}, kd.is s.heap k b → (∀ r, Q r s) → wpAny (model P w) A (hashByValue 8 (.ref b)) Q E s
/-- the entries of a table whose keys are those of L -/
def entH (L : List (Addr × κ)) : List (Int × Value) := L.map fun z => (kd.hash z.2, Value.ref z.1)
structure SetH (h : Heap) (a : Addr) (L : List (Addr × κ)) (vs : Array (Int × Value)) (n : Nat) (t : SetTable) : Prop where
  at_ : ∃ o, h.get? a = some o ∧ o.ExactSet ∧ o.data = .set vs n t
  ents : vs.toList = entH kd L
  lay : TabW t (L.map fun z => kd.hash z.2)
  once : (L.map Prod.snd).Nodup
  keys : ∀ z ∈ L, kd.is h z.2 z.1
  told : w.params.followText "set-order" = true ∨ t.led = true
  loose : L.length * 5 < t.mask * 3
  small : L.length < 301
variable {kd} {A : Around} {E : Value → Shared → Prop} {s : Shared} {a : Addr} {L : List (Addr × κ)} {vs : Array (Int × Value)} {n : Nat} {t : SetTable}
theorem ent_len {vs : Array (Int × Value)} {L : List (Addr × κ)} (e : vs.toList = entH kd L) : vs.size = L.length := by
  have := congrArg List.length e
  unfold entH at this
  rwa [Array.length_toList, List.length_map] at this
theorem ent_at {vs : Array (Int × Value)} {L : List (Addr × κ)} (e : vs.toList = entH kd L) {i : Nat} {z : Addr × κ} (hz : L[i]? = some z) : vs[i]? = some (kd.hash z.2, Value.ref z.1) := by
  have : vs.toList[i]? = some (kd.hash z.2, Value.ref z.1) := by rw [e]; unfold entH; rw [List.getElem?_map, hz]; rfl
  rwa [Array.getElem?_toList] at this
theorem fit_of {vs : Array (Int × Value)} {L : List (Addr × κ)} {t : SetTable} (e : vs.toList = entH kd L) (h1 : t.place.size = vs.size) (h2 : t.dummies = #[]) (h3 : vs.size ≤ t.mask) : t.fits vs.size = true := by
  unfold SetTable.fits SetTable.fill
  rw [h2, Bool.and_eq_true, beq_iff_eq, decide_eq_true_eq]
  exact ⟨h1, by show t.place.size + 0 ≤ t.mask; omega⟩
theorem byv_if (ok : KeyOk kd) {c : Bool} {k : κ} {b : Addr} {α : Type} {F : Bool → Sem α} {Q : α → Shared → Prop} (hb : kd.is s.heap k b) (q : ∀ r, wpAny (model P w) A (F r) Q E s) : wpAny (model P w) A (if c = true then hashByValue 8 (.ref b) >>= F else pure true >>= F) Q E s := by
  cases c with
  | true => exact wp_if_pos rfl (wpAny_bind (ok.byv hb q))
  | false => exact wp_if_neg (by decide) (wpAny_bind (wpAny_pure (q true)))
theorem SetH.plc (R : SetH kd s.heap a L vs n t) : t.place.size = L.length := by
  have := R.lay.sz
  rwa [List.length_map] at this
theorem SetH.fits (R : SetH kd s.heap a L vs n t) : t.fits vs.size = true := by
  have z := ent_len R.ents
  have r := R.loose
  exact fit_of R.ents (by rw [R.plc, z]) R.lay.dm (by omega)
/-- nothing shows when keys are looked for among keys -/
theorem unseen (ok : KeyOk kd) {k : κ} {b : Addr} {Q : Bool → Shared → Prop} (hb : kd.is s.heap k b) {ys : List Value} (all : ∀ y ∈ ys, ∃ j c, y = Value.ref c ∧ kd.is s.heap j c) (q : Q false s) :
    wpAny (model P w) A (searchCouldBeSeen (.ref b) ys) Q E s := by
  unfold searchCouldBeSeen
  refine wpAny_bind (wpAny_forIn_list _ (fun left out s1 => out.1 = none ∧ s1 = s ∧ ∀ y ∈ left, ∃ j c, y = Value.ref c ∧ kd.is s.heap j c) _ (fun y left out s1 z => ?_) (fun out s1 z => ?_) _ _ ⟨rfl, rfl, all⟩)
  · obtain ⟨e1, rfl, z⟩ := z
    obtain ⟨j, c, rfl, hc⟩ := z y List.mem_cons_self
    have z2 := fun u hu => z u (List.mem_cons_of_mem _ hu)
    dsimp only
    by_cases hv : (b == c || (carriedByValue (.ref b) && carriedByValue (.ref c))) = true
    · exact wp_if_pos hv (wpAny_pure ⟨rfl, rfl, z2⟩)
    · refine wp_if_neg hv (wpAny_bind (kd.quiet hb ?_))
      simp only [Bool.not_true, Bool.false_eq_true, if_false]
      refine wpAny_bind (kd.quiet hc ?_)
      simp only [Bool.not_true, Bool.false_eq_true, if_false]
      refine wpAny_bind (ok.cls hb ?_)
      simp only [Bool.false_eq_true, if_false]
      refine wpAny_bind (ok.cls hc ?_)
      simp only [Bool.false_eq_true, if_false]
      exact wpAny_pure ⟨rfl, rfl, z2⟩
  · obtain ⟨o1, o2⟩ := out
    obtain ⟨e1, rfl, _⟩ := z
    have e1 : o1 = none := e1
    subst e1
    exact wpAny_pure q
/-- looking for a key that is to be added, from the c-th step on; at the e-th step is the first empty slot -/
theorem look_from (ok : KeyOk kd) (R : SetH kd s.heap a L vs n t) {b : Addr} {k : κ} (hb : kd.is s.heap k b) (ro : kd.room A) {e : Nat} (e1 : e < 10 * SetTable.turns t.mask) (e2 : way t.mask (kd.hash k) e ∉ t.place.toList)
    (e3 : ∀ c, c < e → way t.mask (kd.hash k) c ∈ t.place.toList) {Q : SetFound → Shared → Prop} (yes : k ∈ L.map Prod.snd → Q (.there none) s) (no : k ∉ L.map Prod.snd → Q (.free (way t.mask (kd.hash k) e) false) s) :
    ∀ (u c : Nat) (o : Option SetTable.Probe), o.getD (t.probeStart (kd.hash k)) = prb t.mask (kd.hash k) c → c ≤ e → e < u + c →
      (∀ (i : Nat) z, L[i]? = some z → z.2 = k → ∃ d, c ≤ d ∧ d < e ∧ t.place.toList[i]? = some (way t.mask (kd.hash k) d)) → wpAny (model P w) A (setSearchFrom a (.ref b) (kd.hash k) true u o) Q E s
  | 0, c, o, _, h1, h2, _ => absurd h2 (by omega)
  | u + 1, c, o, ho, h1, h2, still => by
    obtain ⟨ob, g1, g2, g3⟩ := R.at_
    rw [setSearchFrom_succ]
    refine wpAny_bind (wpAny_setState_of g1 g3 R.fits ?_)
    dsimp only
    have ng : ¬ t.gaveWay = true := by
      unfold SetTable.gaveWay
      rw [maskW_odd R.lay.mok]; decide
    refine wp_if_neg ng ?_
    try refine wpAny_bind (wpAny_pure ?_)
    have hs : ∀ (i : Nat) z, L[i]? = some z → (fun i => (vs[i]?.map (·.1)).getD 0) i = kd.hash z.2 := fun i z hz => by
      show (vs[i]?.map (·.1)).getD 0 = _
      rw [ent_at R.ents hz]; rfl
    rcases go_spec t R.lay.ris R.lay.dm (fun i => (vs[i]?.map (·.1)).getD 0) (kd.hash k) (10 * SetTable.turns t.mask) (e - c) (prb t.mask (kd.hash k) c) (nth_dm _ _ _ rfl) (by omega) (fun q hq => by rw [prb_way]; exact e3 _ (by omega)) (by rw [prb_way, show c + (e - c) = e by omega]; exact e2) with ⟨q, i, f1, f2, f3, f4, f5⟩ | ⟨f4, f5⟩
    · -- one with the same hash
      rw [prb_way, prb_add] at f5
      rw [prb_way] at f2
      have st : t.probe (fun i => (vs[i]?.map (·.1)).getD 0) (kd.hash k) (o.getD (t.probeStart (kd.hash k))) = some (.candidate (way t.mask (kd.hash k) (c + q)) i (prb t.mask (kd.hash k) (c + (q + 1)))) := by rw [ho]; exact f5
      rw [st]
      dsimp only
      have il : i < L.length := by
        have z := (List.getElem?_eq_some_iff.mp f2).1
        rw [Array.length_toList, R.plc] at z; exact z
      obtain ⟨z, hz⟩ : ∃ z, L[i]? = some z := ⟨_, List.getElem?_eq_getElem il⟩
      have zL : z ∈ L := List.mem_of_getElem? hz
      have sl : t.slot (way t.mask (kd.hash k) (c + q)) = .live i := slot_live R.lay.ris f2
      have on : wpAny (model P w) A (searchRest a (.ref b) (kd.hash k) true u vs t (way t.mask (kd.hash k) (c + q)) i (prb t.mask (kd.hash k) (c + (q + 1)))) Q E s := by
        unfold searchRest
        rw [ent_at R.ents hz]
        dsimp only
        refine wpAny_bind (wpAny_holding (kd.eqBool ro (R.keys z zL) hb ?_))
        refine wpAny_bind (wpAny_setState_of g1 g3 R.fits ?_)
        dsimp only
        by_cases eq : z.2 = k
        · exact wp_if_pos (by rw [decide_eq_true eq]; rfl) (wpAny_pure (yes (List.mem_map.mpr ⟨z, zL, eq⟩)))
        · have fl : (true && decide (z.2 = k)) = false := by rw [decide_eq_false eq]; rfl
          refine wp_if_neg (by rw [fl]; decide) ?_
          try refine wpAny_bind (wpAny_pure ?_)
          rw [sameMem]
          dsimp only
          simp only [if_true, sl, ent_at R.ents hz]
          refine wpAny_bind (wpAny_isSame_ref_self (wpAny_bind (wpAny_pure ?_)))
          simp only [if_true]
          refine wp_if_neg (by rw [decide_eq_false eq]; decide) ?_
          refine look_from ok R hb ro e1 e2 e3 yes no u (c + (q + 1)) _ rfl (by omega) (by omega) fun i' z' hz' ek => ?_
          obtain ⟨d, d1, d2, d3⟩ := still i' z' hz' ek
          refine ⟨d, ?_, d2, d3⟩
          rcases Nat.lt_trichotomy d (c + q) with lt | rfl | gt
          · refine absurd ((hs i' z' hz').trans (congrArg kd.hash ek)) (f4 (d - c) i' (by omega) ?_)
            rw [prb_way, show c + (d - c) = d by omega]; exact d3
          · have same := slot_live R.lay.ris d3
            rw [sl] at same
            injection same with same
            rw [← same, hz] at hz'
            exact absurd ((congrArg Prod.snd (Option.some.inj hz')).trans ek) eq
          · omega
      by_cases tl : t.led = true
      · refine wp_if_neg (by rw [tl]; decide) ?_
        try refine wpAny_bind (wpAny_pure ?_)
        exact on
      · refine wp_if_pos (by rw [Bool.not_eq_true] at tl; rw [tl]; rfl) ?_
        refine wpAny_bind (unseen ok hb (fun y hy => ?_) ?_)
        · obtain ⟨y1, m1, m2⟩ := List.mem_map.mp hy
          have m3 : y1 ∈ vs.toList := by
            have : y1 ∈ vs ∧ y1.1 = kd.hash k := by simpa using m1
            simpa using this.1
          rw [R.ents] at m3
          obtain ⟨z2, hz2, m4⟩ := List.mem_map.mp m3
          exact ⟨z2.2, z2.1, by rw [← m2, ← m4], R.keys z2 hz2⟩
        · refine wp_if_neg (by decide) ?_
          try refine wpAny_bind (wpAny_pure ?_)
          exact on
    · -- the empty slot is come to
      rw [prb_way, show c + (e - c) = e by omega] at f5
      have st : t.probe (fun i => (vs[i]?.map (·.1)).getD 0) (kd.hash k) (o.getD (t.probeStart (kd.hash k))) = some (.empty (way t.mask (kd.hash k) e) none) := by rw [ho]; exact f5
      rw [st]
      dsimp only
      refine wpAny_pure (no fun hm => ?_)
      obtain ⟨z, zL, ek⟩ := List.mem_map.mp hm
      obtain ⟨i, hi, ei⟩ := List.getElem_of_mem zL
      have hz : L[i]? = some z := by rw [List.getElem?_eq_getElem hi, ei]
      obtain ⟨d, d1, d2, d3⟩ := still i z hz ek
      refine absurd ((hs i z hz).trans (congrArg kd.hash ek)) (f4 (d - c) i (by omega) ?_)
      rw [prb_way, show c + (d - c) = d by omega]; exact d3
theorem look_at (ok : KeyOk kd) (R : SetH kd s.heap a L vs n t) {b : Addr} {k : κ} (hb : kd.is s.heap k b) (ro : kd.room A) {Q : SetFound → Shared → Prop} (yes : k ∈ L.map Prod.snd → Q (.there none) s)
    (no : ∀ e, k ∉ L.map Prod.snd → way t.mask (kd.hash k) e ∉ t.place.toList → (∀ c, c < e → way t.mask (kd.hash k) c ∈ t.place.toList) → Q (.free (way t.mask (kd.hash k) e) false) s) :
    wpAny (model P w) A (setSearch a (.ref b) (kd.hash k) true) Q E s := by
  have rm := R.loose
  obtain ⟨e, e1, e2, e3⟩ := R.lay.first (by rw [List.length_map]; omega) (kd.hash k)
  have few : e < 100000 := by
    have : 10 * SetTable.turns t.mask ≤ 5260 := by
      have := maskW_le R.lay.mok
      unfold SetTable.turns
      omega
    omega
  unfold setSearch
  refine look_from ok R hb ro e1 e2 e3 yes (fun hn => no e hn e2 e3) 100000 0 none rfl (Nat.zero_le _) (by omega) fun i z hz ek => ?_
  have il : i < t.place.toList.length := by
    rw [Array.length_toList, R.plc]
    exact (List.getElem?_eq_some_iff.mp hz).1
  have hj := List.getElem?_eq_getElem il
  obtain ⟨d, d1, d2⟩ := R.lay.before e2 (h := kd.hash k) (i := i) (by rw [List.getElem?_map, hz, ← ek]; rfl) hj
  exact ⟨d, Nat.zero_le _, d1, by rw [d2]; exact hj⟩
end
end Ag

set_option Elab.async false
set_option linter.all false
set_option maxRecDepth 100000
set_option maxHeartbeats 4000000
namespace Ag
open PySem PySem.Spec PyProof.Rows L2
theorem self_pick {α : Type} : ∀ l : List α, (List.range l.length).filterMap (fun i => l[i]?) = l
  | [] => rfl
  | x :: l => by
    have e : (List.range (x :: l).length).filterMap (fun i => (x :: l)[i]?) = x :: (List.range l.length).filterMap (fun i => l[i]?) := by
      rw [List.length_cons, List.range_succ_eq_map, List.filterMap_cons_some (b := x) (by rfl), List.filterMap_map]
      congr 1
    rw [e, self_pick l]
section
variable {P : Program} {w : World} {κ : Type} [DecidableEq κ] {kd : HeapKind P w κ} {A : Around} {E : Value → Shared → Prop} {s : Shared} {a : Addr} {L : List (Addr × κ)} {vs : Array (Int × Value)} {n : Nat} {t : SetTable}
theorem picked {vs : Array (Int × Value)} {L : List (Addr × κ)} (e : vs.toList = entH kd L) : ∀ l : List Nat, (∀ i ∈ l, i < L.length) →
    l.filterMap (fun i => vs[i]?) = entH kd (l.filterMap fun i => L[i]?) ∧ ((l.filterMap fun i => L[i]?).map fun z => kd.hash z.2) = l.map fun i => (vs.map (·.1)).getD i 0
  | [], _ => ⟨rfl, rfl⟩
  | i :: l, h => by
    obtain ⟨h1, h2⟩ := picked e l fun j hj => h j (List.mem_cons_of_mem _ hj)
    have hi := h i List.mem_cons_self
    have e1 : L[i]? = some L[i] := List.getElem?_eq_getElem hi
    have e2 := ent_at e e1
    have e3 : (vs.map (·.1)).getD i 0 = kd.hash (L[i]).2 := by
      have : (vs.map (·.1))[i]? = some (kd.hash (L[i]).2) := by rw [Array.getElem?_map, e2]; rfl
      rw [Array.getD_eq_getD_getElem?, this]; rfl
    rw [List.filterMap_cons_some e2, List.filterMap_cons_some e1, h1, List.map_cons, List.map_cons, h2, e3]
    exact ⟨rfl, rfl⟩
/-- the table is laid anew, with more room -/
theorem relay_h (ok : KeyOk kd) {o : Obj} (g1 : s.heap.get? a = some o) (g2 : o.ExactSet) (g3 : o.data = .set vs n t) (e : vs.toList = entH kd L) (z : t.place.size = vs.size) (dm : t.dummies = #[]) (le : vs.size ≤ t.mask) (once : (L.map Prod.snd).Nodup)
    (keys : ∀ z ∈ L, kd.is s.heap z.2 z.1) (told : w.params.followText "set-order" = true ∨ t.led = true) (few : L.length < 301) {want M : Nat} (w1 : SetTable.sizeAbove want - 1 = M) (w2 : MaskW M) (w3 : SetTable.sizeAbove want ≤ 512)
    (w4 : L.length * 5 < M * 3) {Q : Unit → Shared → Prop} (q : ∀ h' L' vs' n' t', Heap.SameBut a s.heap h' → SetH kd h' a L' vs' n' t' → L'.Perm L → Q () { s with heap := h' }) : wpAny (model P w) A (setRelay a want) Q E s := by
  have len := ent_len e
  obtain ⟨t', od, r1, r2, r3, r4, r5⟩ := relaidW t (hs := vs.map (·.1)) (wanted := want) w1 w2 (by rw [Array.size_map, len]; omega)
  rw [Array.size_map, len] at r2
  obtain ⟨p1, p2⟩ := picked e od.toList fun i hi => List.mem_range.mp (r2.mem_iff.mp hi)
  have p3 : (od.toList.filterMap fun i => L[i]?).Perm L := by
    have := r2.filterMap fun i => L[i]?
    rwa [self_pick] at this
  have p4 : (od.filterMap (vs[·]?)).toList = entH kd (od.toList.filterMap fun i => L[i]?) := by rw [Array.toList_filterMap]; exact p1
  rw [← p2] at r3
  generalize od.toList.filterMap (fun i => L[i]?) = L' at p3 p4 r3
  have len2 := ent_len p4
  rw [p3.length_eq] at len2
  rw [setRelay_eq]
  refine wpAny_bind (wpAny_setState_of g1 g3 (fit_of e z dm le) ?_)
  dsimp only
  refine wp_if_neg (by rw [sizeLine_eq]; omega) ?_
  try refine wpAny_bind (wpAny_pure ?_)
  rw [r1]
  dsimp only
  refine wpAny_bind ?_
  refine wp_if_neg (by rw [len2, len]; simp) ?_
  try refine wpAny_bind (wpAny_pure ?_)
  refine wpAny_pure ?_
  dsimp only
  refine wpAny_storeSet_of g1 g3 ?_ (by rw [len2, sizeLine_eq]; omega)
  have sb : Heap.SameBut a s.heap (s.heap.update a (Obj.putSet (od.filterMap (vs[·]?)) t')) := Heap.SameBut.update ..
  exact q _ L' (od.filterMap (vs[·]?)) (n + 1) t' sb ⟨⟨_, store_at g1 g3, ⟨g2.1, g2.2.1, g2.2.2⟩, rfl⟩, p4, r3, (p3.map Prod.snd).nodup_iff.mpr once, fun y hy => ok.but (keys y (p3.mem_iff.mp hy)) g1 g3 sb, by rw [r5]; exact told,
    by rw [p3.length_eq, r4]; exact w4, by rw [p3.length_eq]; exact few⟩ p3
theorem grown_case {m l : Nat} (mk : MaskW m) (lt : l * 5 < m * 3) (ge : m * 3 ≤ (l + 1) * 5) (few : l + 1 < 301) : ∃ M, SetTable.sizeAbove (SetTable.grown (l + 1)) - 1 = M ∧ MaskW M ∧ SetTable.sizeAbove (SetTable.grown (l + 1)) ≤ 512 ∧ (l + 1) * 5 < M * 3 := by
  rcases mk with (rfl | rfl | rfl) | rfl
  · have : l = 4 := by omega
    subst this
    exact ⟨31, by rw [size_20], .inl (.inr (.inl rfl)), by rw [size_20]; decide, by decide⟩
  · have : l = 18 := by omega
    subst this
    exact ⟨127, by rw [size_76], .inl (.inr (.inr rfl)), by rw [size_76]; decide, by decide⟩
  · have : l = 76 := by omega
    subst this
    exact ⟨511, by rw [size_308], .inr rfl, by rw [size_308]; decide, by decide⟩
  · exact absurd ge (by omega)
/-- a key is added -/
theorem add_h (ok : KeyOk kd) (R : SetH kd s.heap a L vs n t) {b : Addr} {k : κ} (hb : kd.is s.heap k b) (ro : kd.room A) (few : L.length + 1 < 301) {Q : Bool → Shared → Prop}
    (q : ∀ r h' L' vs' n' t', Heap.SameBut a s.heap h' → SetH kd h' a L' vs' n' t' → (k ∈ L.map Prod.snd → L' = L) → (k ∉ L.map Prod.snd → L'.Perm ((b, k) :: L)) → Q r { s with heap := h' }) :
    wpAny (model P w) A (setAddHashed a (.ref b) (kd.hash k)) Q E s := by
  obtain ⟨o, g1, g2, g3⟩ := R.at_
  have len := ent_len R.ents
  have rm := R.loose
  unfold setAddHashed
  refine wpAny_holding ?_
  rw [show (100000 : Nat) = 99999 + 1 from rfl, setAddHashedIn_succ]
  refine wpAny_bind (wpAny_setState_of g1 g3 R.fits ?_)
  dsimp only
  refine wp_if_neg (by simp [byScan, Value.scannable]) ?_
  try refine wpAny_bind (wpAny_pure ?_)
  refine wpAny_bind (look_at ok R hb ro (fun yes => ?_) fun e no e2 e3 => ?_)
  · dsimp only
    exact wpAny_pure (q false s.heap L vs n t (Heap.SameBut.refl a s.heap) R (fun _ => rfl) fun no => absurd yes no)
  · dsimp only
    refine wpAny_bind (wpAny_setState_of g1 g3 R.fits ?_)
    dsimp only
    obtain ⟨q1, q2, q3, q4, q5, q9⟩ := R.lay.put e2 e3
    generalize hT : t.put (way t.mask (kd.hash k) e) = T1 at q1 q3 q4 q5 q9 ⊢
    obtain ⟨t0, j⟩ := T1
    dsimp only at q1 q3 q4 q5 q9 ⊢
    subst q1
    refine byv_if ok hb fun r0 => ?_
    generalize hT2 : (if r0 = true then t0 else { t0 with plain := false }) = t1
    obtain ⟨q3, q4, q5, q9⟩ : TabW t1 ((L.map fun z => kd.hash z.2).take (SetTable.below t.place (way t.mask (kd.hash k) e)) ++ kd.hash k :: (L.map fun z => kd.hash z.2).drop (SetTable.below t.place (way t.mask (kd.hash k) e))) ∧ t1.mask = t.mask ∧ t1.led = t.led ∧ t1.fill = (L.map fun z => kd.hash z.2).length + 1 := by
      subst hT2
      cases r0 with
      | true => exact ⟨q3, q4, q5, q9⟩
      | false => exact ⟨⟨q3.ris, q3.dm, q3.sz, q3.mok, q3.bd, q3.reach⟩, q4, q5, q9⟩
    clear hT2
    generalize hj : SetTable.below t.place (way t.mask (kd.hash k) e) = j at q2 q3 ⊢
    have p1 := put_perm L j (b, k)
    have e1 : (SetTable.insertAt vs j (kd.hash k, Value.ref b)).toList = entH kd (L.take j ++ (b, k) :: L.drop j) := by
      rw [SetTable.toList_insertAt, R.ents]
      unfold entH
      rw [List.map_append, List.map_cons, List.map_take, List.map_drop]
    have p2 : ((L.take j ++ (b, k) :: L.drop j).map fun z => kd.hash z.2) = (L.map fun z => kd.hash z.2).take j ++ kd.hash k :: (L.map fun z => kd.hash z.2).drop j := by rw [List.map_append, List.map_cons, List.map_take, List.map_drop]
    rw [← p2] at q3
    generalize SetTable.insertAt vs j (kd.hash k, Value.ref b) = v1 at e1 ⊢
    generalize L.take j ++ (b, k) :: L.drop j = L1 at p1 q3 e1
    have l1 : L1.length = L.length + 1 := p1.length_eq
    have l2 : v1.size = L.length + 1 := by rw [ent_len e1, l1]
    have once : (L1.map Prod.snd).Nodup := (p1.map Prod.snd).nodup_iff.mpr (List.nodup_cons.mpr ⟨no, R.once⟩)
    refine wpAny_bind (wpAny_storeSet_of g1 g3 ?_ (by rw [l2, sizeLine_eq]; omega))
    have sb : Heap.SameBut a s.heap (s.heap.update a (Obj.putSet v1 t1)) := Heap.SameBut.update ..
    have o1 := store_at (es' := v1) (t' := t1) g1 g3
    generalize s.heap.update a (Obj.putSet v1 t1) = h1 at sb o1 ⊢
    have keys : ∀ z ∈ L1, kd.is h1 z.2 z.1 := fun z hz => by
      rcases List.mem_cons.mp (p1.mem_iff.mp hz) with ez | hz
      · rw [ez]; exact ok.but hb g1 g3 sb
      · exact ok.but (R.keys z hz) g1 g3 sb
    have told : w.params.followText "set-order" = true ∨ t1.led = true := by rw [q5]; exact R.told
    have full : t1.tooFull = true ↔ t.mask * 3 ≤ (L.length + 1) * 5 := by
      unfold SetTable.tooFull
      rw [decide_eq_true_iff, q9, List.length_map, q4]
    by_cases tf : t1.tooFull = true
    · obtain ⟨M, w1, w2, w3, w4⟩ := grown_case R.lay.mok rm (full.mp tf) few
      first
        | (refine wpAny_bind ?_; refine wp_if_pos (by rw [tf]; rfl) ?_)
        | (refine wp_if_pos (by rw [tf]; rfl) ?_; refine wpAny_bind ?_)
      rw [len]
      refine relay_h (s := { s with heap := h1 }) ok o1 ⟨g2.1, g2.2.1, g2.2.2⟩ rfl e1 (by have := q3.sz; rw [List.length_map] at this; rw [this, l1, l2]) q3.dm (by rw [l2, q4]; rcases R.lay.mok with (m | m | m) | m <;> omega) once keys told (by rw [l1]; exact few) w1 w2 w3 (by rw [l1]; exact w4) fun h2 L2 v2 n2 t2 sb2 R2 p3 => ?_
      exact wpAny_pure (q true h2 L2 v2 n2 t2 (sb.trans sb2) R2 (fun yes => absurd yes no) fun _ => p3.trans p1)
    · have nf : ¬ t.mask * 3 ≤ (L.length + 1) * 5 := fun z => tf (full.mpr z)
      rw [Bool.not_eq_true] at tf
      first
        | refine wp_if_neg (by rw [tf]; decide) ?_
        | (refine wpAny_bind ?_; refine wp_if_neg (by rw [tf]; decide) ?_; refine wpAny_pure ?_)
      refine wpAny_pure (q true h1 L1 v1 (n + 1) t1 sb ⟨⟨_, o1, ⟨g2.1, g2.2.1, g2.2.2⟩, rfl⟩, e1, q3, once, keys, told, by rw [l1, q4]; omega, by rw [l1]; exact few⟩ (fun yes => absurd yes no) fun _ => p1)
/-- what a set has got of the first i keys -/
structure Has (ks : List (Addr × κ)) (i : Nat) (L : List (Addr × κ)) : Prop where
  of : ∀ z ∈ L, z ∈ ks.take i
  all : ∀ z ∈ ks.take i, z.2 ∈ L.map Prod.snd
  len : L.length ≤ i
theorem Has.step {ks L L' : List (Addr × κ)} {i : Nat} {z : Addr × κ} (g : Has ks i L) (h : ks[i]? = some z) (h1 : z.2 ∈ L.map Prod.snd → L' = L) (h2 : z.2 ∉ L.map Prod.snd → L'.Perm (z :: L)) : Has ks (i + 1) L' := by
  have e : ks.take (i + 1) = ks.take i ++ [z] := by rw [List.take_succ, h]; rfl
  rw [show Has ks (i + 1) L' ↔ ((∀ y ∈ L', y ∈ ks.take (i + 1)) ∧ (∀ y ∈ ks.take (i + 1), y.2 ∈ L'.map Prod.snd) ∧ L'.length ≤ i + 1) from ⟨fun x => ⟨x.of, x.all, x.len⟩, fun x => ⟨x.1, x.2.1, x.2.2⟩⟩, e]
  by_cases hz : z.2 ∈ L.map Prod.snd
  · rw [h1 hz]
    refine ⟨fun y hy => List.mem_append_left _ (g.of y hy), fun y hy => ?_, Nat.le_succ_of_le g.len⟩
    rcases List.mem_append.mp hy with m | m
    · exact g.all y m
    · rw [List.mem_singleton.mp m]; exact hz
  · have pm := h2 hz
    refine ⟨fun y hy => ?_, fun y hy => (pm.map Prod.snd).mem_iff.mpr ?_, by rw [pm.length_eq]; exact Nat.succ_le_succ g.len⟩
    · rcases List.mem_cons.mp (pm.mem_iff.mp hy) with m | m
      · rw [m]; exact List.mem_append_right _ List.mem_cons_self
      · exact List.mem_append_left _ (g.of y m)
    · rcases List.mem_append.mp hy with m | m
      · exact List.mem_cons_of_mem _ (g.all y m)
      · rw [List.mem_singleton.mp m]; exact List.mem_cons_self
theorem SetH.keep {h h' : Heap} (R : SetH kd h a L vs n t) (e : ∀ o, h.get? a = some o → h'.get? a = some o) (k : ∀ z ∈ L, kd.is h' z.2 z.1) : SetH kd h' a L vs n t := by
  obtain ⟨o, g1, g⟩ := R.at_
  exact ⟨⟨o, e o g1, g⟩, R.ents, R.lay, R.once, k, R.told, R.loose, R.small⟩
theorem setH_new {h : Heap} (g : h.get? a = some { cls := .type "set", dict := none, data := .set #[] 0 (.fresh 0 0 (!w.params.followText "set-order")) }) : SetH kd h a [] #[] 0 (.fresh 0 0 (!w.params.followText "set-order")) := by
  refine ⟨⟨_, g, ⟨rfl, rfl, rfl⟩, rfl⟩, rfl, ⟨List.Pairwise.nil, rfl, rfl, .inl (.inl rfl), fun y hy => ?_, fun i y j hi => ?_⟩, List.nodup_nil, fun z hz => ?_, ?_, ?_, ?_⟩
  · cases hy
  · simp at hi
  · cases hz
  · show _ ∨ (!w.params.followText "set-order") = true
    cases w.params.followText "set-order" <;> simp
  · show 0 * 5 < 7 * 3; decide
  · show 0 < 301; decide
end
end Ag

set_option Elab.async false
set_option linter.all false
set_option maxRecDepth 100000
set_option maxHeartbeats 4000000
namespace Ag
open PySem PySem.Spec PyProof.Rows L2
section
variable {P : Program} {w : World} {A : Around} {E : Value → Shared → Prop} {s : Shared}
/-- tuples of numbers and texts -/
abbrev TKind (P : Program) (w : World) : HeapKind P w (List Key) := tupleKind (mixKind P w)
theorem flat_items {k : List Key} {us : List Value} (h : ItemsAre (mixKind P w) k us) : ∀ u ∈ us, (∃ i t, u = Value.int i t) ∨ ∃ x t, u = Value.str x t := by
  induction h with
  | nil => exact fun u hu => absurd hu List.not_mem_nil
  | cons a _ ih =>
    refine fun u hu => (List.mem_cons.mp hu).elim (fun e => ?_) (ih u)
    subst e
    rcases keyIs_shape a with ⟨i, t, _, e⟩ | ⟨x, t, _, e⟩
    · exact .inl ⟨i, t, e⟩
    · exact .inr ⟨x, t, e⟩
theorem cls_flat {n : Nat} {u : Value} (h : (∃ i t, u = Value.int i t) ∨ ∃ x t, u = Value.str x t) : ofAClassStatement n u = pure false := by
  rcases h with ⟨i, t, rfl⟩ | ⟨x, t, rfl⟩ <;> cases n <;> rfl
theorem byv_flat {n : Nat} {u : Value} (h : (∃ i t, u = Value.int i t) ∨ ∃ x t, u = Value.str x t) : ∃ r, hashByValue n u = pure r := by
  rcases h with ⟨i, t, rfl⟩ | ⟨x, t, rfl⟩
  · exact ⟨true, by cases n <;> rfl⟩
  · exact ⟨false, by cases n <;> rfl⟩
theorem tkind_ok : KeyOk (TKind P w) where
  old := fun e k => let ⟨o, its, m, e1, e2⟩ := k; ⟨o, its, m, e _ _ e1, e2⟩
  but := fun {h h' k b d o vs n t} hk g1 g3 sb => by
    obtain ⟨o', its, m, e1, e2, e3, e4⟩ := hk
    refine ⟨o', its, m, (sb.2 b fun z => ?_).trans e1, e2, e3, e4⟩
    subst z
    rw [e1] at g1
    cases Option.some.inj g1
    rw [e3] at g3; cases g3
  cls := fun {A E s k b Q} hk q => by
    have ty := IsTupleKey.typeIs hk
    obtain ⟨o, its, m, e1, _, e3, e4⟩ := hk
    unfold ofAClassStatement
    refine wpAny_bind (wpAny_typeOf ty ?_)
    dsimp only
    simp only [show (("tuple" : String) == "tuple") = true by decide, if_true, Bool.not_true, Bool.false_eq_true, if_false]
    try refine wpAny_bind (wpAny_pure ?_)
    try simp only [Bool.not_true, Bool.false_eq_true, if_false]
    show wpAny _ _ (seqItems? (.ref b) >>= _) _ _ s
    refine wpAny_bind (wpAny_seqItems e1 e3 ?_)
    dsimp only
    refine wpAny_bind ?_
    show wpAny _ _ (forIn its _ _) _ _ s
    rw [← Array.forIn_toList]
    refine wpAny_forIn_list _ (fun left out s1 => out.1 = none ∧ s1 = s ∧ ∀ u ∈ left, (∃ i t, u = Value.int i t) ∨ ∃ x t, u = Value.str x t) _ (fun u left out s1 z => ?_) (fun out s1 z => ?_) _ _ ⟨rfl, rfl, flat_items e4⟩
    · obtain ⟨_, rfl, z⟩ := z
      rw [cls_flat (z u List.mem_cons_self)]
      refine wpAny_bind (wpAny_pure ?_)
      simp only [Bool.false_eq_true, if_false]
      exact wpAny_pure ⟨rfl, rfl, fun y hy => z y (List.mem_cons_of_mem _ hy)⟩
    · obtain ⟨o1, o2⟩ := out
      obtain ⟨z1, rfl, _⟩ := z
      have z1 : o1 = none := z1
      subst z1
      exact wpAny_pure q
  byv := fun {A E s k b Q} hk q => by
    have ty := IsTupleKey.typeIs hk
    obtain ⟨o, its, m, e1, _, e3, e4⟩ := hk
    unfold hashByValue
    refine wpAny_bind (wpAny_specialOf ty F.slot_tuple_hash.lookup ?_)
    show wpAny _ _ (seqItems? (.ref b) >>= _) _ _ s
    refine wpAny_bind (wpAny_seqItems e1 e3 ?_)
    refine wpAny_bind ?_
    show wpAny _ _ (forIn its _ _) _ _ s
    rw [← Array.forIn_toList]
    refine wpAny_forIn_list _ (fun left out s1 => s1 = s ∧ ∀ u ∈ left, (∃ i t, u = Value.int i t) ∨ ∃ x t, u = Value.str x t) _ (fun u left out s1 z => ?_) (fun out s1 z => ?_) _ _ ⟨rfl, flat_items e4⟩
    · obtain ⟨rfl, z⟩ := z
      obtain ⟨r, er⟩ := byv_flat (n := 7) (z u List.mem_cons_self)
      rw [er]
      refine wpAny_bind (wpAny_pure ?_)
      cases r with
      | true =>
        simp only [Bool.not_true, Bool.false_eq_true, if_false]
        exact wpAny_pure ⟨rfl, fun y hy => z y (List.mem_cons_of_mem _ hy)⟩
      | false =>
        simp only [Bool.not_false, if_true]
        exact wpAny_pure (wpAny_pure (q _))
    · obtain ⟨o1, o2⟩ := out
      obtain ⟨rfl, _⟩ := z
      cases o1 with
      | none => exact wpAny_pure (q _)
      | some r => exact wpAny_pure (q _)
variable {κ : Type} [DecidableEq κ] {kd : HeapKind P w κ}
/-- set.update's loop over keys -/
theorem upd_keys (ok : KeyOk kd) {I : Addr} {fp wr : List Addr} {G : Array GenState → Array GenState → Prop} {n : Nat} {Pv : Nat → Value → Prop} {St : Nat → Shared → Prop} {R : Result → Shared → Prop}
    (W : WalksS P w A.in1 I fp wr G n Pv St) (C : Addr) (hC : C ∉ fp) (ks : List (Addr × κ)) (hn : n = ks.length) (hb : ks.length < 301) (hv : ∀ i v, Pv i v → ∃ z, ks[i]? = some z ∧ v = Value.ref z.1)
    (h0 : Heap) (hk : ∀ z ∈ ks, kd.is h0 z.2 z.1) (hC0 : h0.get? C = none) (hw0 : ∀ b ∈ wr, h0.get? b = none) (ro : kd.room A.in1) :
    ∀ (j i : Nat) (s : Shared), n - i = j → i ≤ n → St i s → (∀ b o, h0.get? b = some o → s.heap.get? b = some o) → (∃ L vs m t, SetH kd s.heap C L vs m t ∧ Has ks i L) →
      (∀ s' L vs m t, Moved (C :: wr) G s s' → SetH kd s'.heap C L vs m t → Has ks n L → (∀ b o, h0.get? b = some o → s'.heap.get? b = some o) → R (.ok (.ret .none)) s') →
      codeAny (model P w) A (.builtin "set.update.loop" ⟨[.ref C, .ref I], []⟩) R s := by
  have hCw : C ∉ wr := fun z => hC (W.sub _ z)
  have wide : ∀ b ∈ wr, b ∈ C :: wr := fun b z => List.mem_cons_of_mem _ z
  have stay : ∀ {s s' : Shared}, Moved wr G s s' → (∀ b o, h0.get? b = some o → s.heap.get? b = some o) → ∀ b o, h0.get? b = some o → s'.heap.get? b = some o := fun mv kp b o e => mv.heap b o (fun z => by rw [hw0 b z] at e; cases e) (kp b o e)
  have isIn : ∀ {L i}, Has ks i L → ∀ z ∈ L, kd.is h0 z.2 z.1 := fun g z hz => hk z (List.mem_of_mem_take (g.of z hz))
  intro j
  induction j with
  | zero =>
    intro i s hj hi st kp ⟨L, vs, m, t, hS, g⟩ hR
    obtain rfl : i = n := by omega
    refine codeAny_builtin F.entry_set_update_loop ?_
    rw [Around.under_plainId F.plain_set_update_loop _]
    show wpAny _ A.in1 (pyNext (.ref I) >>= _) _ _ s
    refine wpAny_bind (W.done s _ _ st fun s' mv => ?_)
    show wpAny _ A.in1 (ret Value.none) _ _ s'
    have kp2 := stay mv kp
    exact wpAny_pure (hR s' L vs m t (mv.mono wide) (hS.keep (fun o e => mv.heap C o hCw e) fun z hz => ok.old kp2 (isIn g z hz)) g kp2)
  | succ j ih =>
    intro i s hj hi st kp ⟨L, vs, m, t, hS, g⟩ hR
    have lt : i < n := by omega
    refine codeAny_builtin F.entry_set_update_loop ?_
    rw [Around.under_plainId F.plain_set_update_loop _]
    show wpAny _ A.in1 (pyNext (.ref I) >>= _) _ _ s
    refine wpAny_bind (W.item i s _ _ lt st fun v s' pv st' mv => ?_)
    obtain ⟨z, hz, rfl⟩ := hv i v pv
    have kp2 := stay mv kp
    have hS2 := hS.keep (h' := s'.heap) (fun o e => mv.heap C o hCw e) fun z hz => ok.old kp2 (isIn g z hz)
    have hz2 : kd.is s'.heap z.2 z.1 := ok.old kp2 (hk z (List.mem_of_getElem? hz))
    show wpAny _ A.in1 (holding [Value.ref z.1] (setAdd C (.ref z.1)) >>= _) _ _ s'
    refine wpAny_bind (wpAny_holding ?_)
    unfold setAdd
    refine wpAny_holding (wpAny_bind (kd.pyHash ro hz2 ?_))
    refine add_h (s := { s' with toks := s'.toks + kd.draws z.2 }) ok hS2 hz2 ro (by have := g.len; omega) fun r h' L' vs' m' t' sb hS3 c1 c2 => ?_
    have kp3 : ∀ b o, h0.get? b = some o → h'.get? b = some o := fun b o e => (sb.2 b (fun q => by rw [q, hC0] at e; cases e)).trans (kp2 b o e)
    refine wpAny_pure ⟨plainId_quiet F.plain_set_update_loop _, ih (i + 1) _ (by omega) lt (W.frame _ s' _ _ st' (Nat.le_add_right _ _) fun b q o e => ?_) kp3 ⟨L', vs', m', t', hS3, g.step hz c1 c2⟩ fun s2 L2 vs2 m2 t2 mv2 hS4 g2 kp4 => hR s2 L2 vs2 m2 t2 ?_ hS4 g2 kp4⟩
    · rw [sb.2 b (fun y => hC (y ▸ q))]; exact e
    · refine Moved.trans W.gtrans ((mv.mono wide).then_heap (Nat.le_add_right _ _) fun b o q e => ?_) mv2
      rw [sb.2 b (fun y => q (y ▸ List.mem_cons_self))]; exact e
set_option maxHeartbeats 4000000 in
theorem set_of_keys (ok : KeyOk kd) {s : Shared} {l : Addr} {items : Array Value} {ks : List (Addr × κ)} {Q : Value → Shared → Prop} (hh : A.handled = none) (hl : s.heap.IsList l items) (hi : items.toList = ks.map fun z => Value.ref z.1) (hk : ∀ z ∈ ks, kd.is s.heap z.2 z.1) (hb : ks.length < 301)
    (ro : kd.room A.in1.in1.in1)
    (hQ : ∀ (h' : Heap) (tk : Nat) L vs m t, SetH kd h' s.heap.objs.size L vs m t → Has ks ks.length L → (∀ b o, s.heap.get? b = some o → h'.get? b = some o) → Q (.ref s.heap.objs.size) { s with heap := h', toks := tk }) :
    wpAny (model P w) A (call (.type "set") [.ref l]) Q E s := by
  have isz : items.size = ks.length := by
    have := congrArg List.length hi
    rwa [Array.length_toList, List.length_map] at this
  obtain ⟨c, tl, hmro⟩ := F.called_set.mro
  have hmade := F.called_set.made
  have hsub := F.called_set.sub
  refine wpAny_call (codeAny_of_tree ?_)
  show wpAny _ _ (callAny (.type "set") _) _ _ _
  refine wpAny_pure ⟨Code.quiet_builtin _ (by decide +kernel), codeAny_builtin F.entry_type_call ?_⟩
  rw [Around.under_plain (weight_type_call_type "set" [.ref l] []) rfl]
  have h1 := F.called_set.notType
  have h2 := F.called_set.canCreate
  have hct := F.typeCall_set_1 (.ref l)
  repeat (any_goals (first | assumption | wp_step))
  refine codeAny_mono (code_set_led1 (.ref l) (E := E) (Q₁ := fun obj s₁ => obj = .ref s.heap.objs.size ∧ s₁ = { s with heap := s.heap.push ({ cls := .type "set", dict := none, data := .set #[] 0 (.fresh 0 0 (!w.params.followText "set-order")) } : Obj) }) ⟨rfl, rfl⟩) fun r s₁ hr => ?_
  cases r with
  | error e => exact hr
  | ok fl =>
    cases fl with
    | ret obj =>
      obtain ⟨rfl, rfl⟩ := hr
      have hS : (s.heap.push ({ cls := .type "set", dict := none, data := .set #[] 0 (.fresh 0 0 (!w.params.followText "set-order")) } : Obj)).get? s.heap.objs.size = some ({ cls := .type "set", dict := none, data := .set #[] 0 (.fresh 0 0 (!w.params.followText "set-order")) } : Obj) := Heap.get?_push_size _ rfl
      have hT : Shared.TypeIs { s with heap := s.heap.push ({ cls := .type "set", dict := none, data := .set #[] 0 (.fresh 0 0 (!w.params.followText "set-order")) } : Obj) } (.ref s.heap.objs.size) "set" := ⟨_, hS, rfl⟩
      have hli := F.called_set.init.lookup
      have hbi := F.called_set.init.bind (.ref s.heap.objs.size)
      repeat (any_goals (first | assumption | wp_step))
      refine codeAny_mono (codeAny_call_builtin (R := wants (fun r s₂ => r = .none ∧ ∃ h' tk L vs m t, s₂ = { s with heap := h', toks := tk } ∧ SetH kd h' s.heap.objs.size L vs m t ∧ Has ks ks.length L ∧
          (∀ b o, s.heap.get? b = some o → h'.get? b = some o)) E) F.called_set.init.plain F.entry_set_init (check_set_init_1 hT ?_)) fun r₂ s₂ hr₂ => ?_
      · obtain ⟨ol, hol, hcl, nl, hdl⟩ := hl
        obtain ⟨ocls, odict, odata, oslots⟩ := ol
        simp only at hcl hdl
        subst hcl; subst hdl
        have hol1 : (s.heap.push ({ cls := .type "set", dict := none, data := .set #[] 0 (.fresh 0 0 (!w.params.followText "set-order")) } : Obj)).get? l = some { cls := .type "list", dict := odict, data := .seq items nl, slots := oslots } := Heap.get?_push_of_some _ hol
        have hsls := F.sub_list_set
        have hslf := F.sub_list_frozenset
        have hne : (Value.type "list" == Value.type "dict") = false := by decide
        have hl1 : (s.heap.push ({ cls := .type "set", dict := none, data := .set #[] 0 (.fresh 0 0 (!w.params.followText "set-order")) } : Obj)).IsList l items := ⟨_, hol1, rfl, nl, rfl⟩
        unfold Builtin.«set.__init__» noKeywords Builtin.Frozenset.updateFrom
        generalize hPI : pyIter = PI
        wp_walk
        subst hPI
        refine wpAny_pyIter_list hl1 ?_
        refine wpAny_bind (wpAny_runValue ?_)
        have llt : l < s.heap.objs.size := Heap.lt_size hol
        have hh3 : A.in1.in1.in1.handled = none := by simp [hh]
        have z1 : (s.heap.push ({ cls := .type "set", dict := none, data := .set #[] 0 (.fresh 0 0 (!w.params.followText "set-order")) } : Obj)).objs.size = s.heap.objs.size + 1 := Heap.size_push ..
        have ne1 : l ≠ (s.heap.push ({ cls := .type "set", dict := none, data := .set #[] 0 (.fresh 0 0 (!w.params.followText "set-order")) } : Obj)).objs.size := by rw [z1]; exact Nat.ne_of_lt (Nat.lt_succ_of_lt llt)
        have hnf : s.heap.objs.size ∉ [(s.heap.push ({ cls := .type "set", dict := none, data := .set #[] 0 (.fresh 0 0 (!w.params.followText "set-order")) } : Obj)).objs.size, l] := by
          rw [z1]; intro z
          rcases List.mem_cons.mp z with z | z
          · exact Nat.ne_of_lt (Nat.lt_succ_self _) z
          · exact Nat.ne_of_gt llt (List.mem_singleton.mp z)
        have hval : ∀ (i : Nat) (v : Value), items[i]? = some v → ∃ z, ks[i]? = some z ∧ v = Value.ref z.1 := fun i v q => by
          have q2 : items.toList[i]? = some v := by rw [Array.getElem?_toList]; exact q
          rw [hi, List.getElem?_map] at q2
          cases e : ks[i]? with
          | none => rw [e] at q2; cases q2
          | some z => rw [e] at q2; exact ⟨z, rfl, (Option.some.inj q2).symm⟩
        have noObj : ∀ b, s.heap.objs.size ≤ b → s.heap.get? b = none := fun b hb => by
          cases q : s.heap.get? b with
          | none => rfl
          | some o => exact absurd (Heap.lt_size q) (Nat.not_lt.mpr hb)
        refine upd_keys ok ((Walks.list hh3 _ l ne1 items).toS) s.heap.objs.size hnf ks isz hb hval s.heap hk (noObj _ (Nat.le_refl _)) (fun b hb => noObj b (by rw [List.mem_singleton.mp hb, z1]; exact Nat.le_succ _)) ro (items.size - 0) 0 _ (by omega) (Nat.zero_le _)
          ⟨⟨_, Heap.get?_push_size _ rfl, rfl, rfl⟩, (hl1.push _)⟩ (fun b o e => Heap.get?_push_of_some _ (Heap.get?_push_of_some _ e)) ⟨[], #[], 0, _, setH_new (Heap.get?_push_of_some _ hS), ⟨fun z hz => (nomatch hz), fun z hz => (nomatch hz), Nat.le_refl _⟩⟩ fun s' L vs m t mv hS' g kp => ?_
        obtain ⟨h', g2, d', tk', os'⟩ := s'
        have eg : g2 = s.gens := mv.gens
        have ed : d' = s.drawn := mv.drawn
        have eo : os' = s.os := mv.os
        subst eg; subst ed; subst eo
        show wpAny _ _ _ _ _ _
        refine wpAny_pure ?_
        show wpAny _ _ (ret Value.none) _ _ _
        rw [isz] at g
        exact wpAny_pure ⟨rfl, h', tk', L, vs, m, t, rfl, hS', g, kp⟩
      · cases r₂ with
        | error e => exact hr₂
        | ok fl₂ =>
          cases fl₂ with
          | ret r =>
            obtain ⟨rfl, h', tk, L, vs, m, t, rfl, hS', g, kp⟩ := hr₂
            repeat (any_goals (first | assumption | wp_step))
            exact hQ _ _ _ _ _ _ hS' g kp
          | _ => exact hr₂.elim
    | _ => exact hr.elim
set_option maxHeartbeats 4000000 in
theorem set_of_keysT (ok : KeyOk kd) {s : Shared} {l : Addr} {items : Array Value} {ks : List (Addr × κ)} {Q : Value → Shared → Prop} (hh : A.handled = none) (hl : s.heap.IsTuple l items) (hi : items.toList = ks.map fun z => Value.ref z.1) (hk : ∀ z ∈ ks, kd.is s.heap z.2 z.1) (hb : ks.length < 301)
    (ro : kd.room A.in1.in1.in1)
    (hQ : ∀ (h' : Heap) (tk : Nat) L vs m t, SetH kd h' s.heap.objs.size L vs m t → Has ks ks.length L → (∀ b o, s.heap.get? b = some o → h'.get? b = some o) → Q (.ref s.heap.objs.size) { s with heap := h', toks := tk }) :
    wpAny (model P w) A (call (.type "set") [.ref l]) Q E s := by
  have isz : items.size = ks.length := by
    have := congrArg List.length hi
    rwa [Array.length_toList, List.length_map] at this
  obtain ⟨c, tl, hmro⟩ := F.called_set.mro
  have hmade := F.called_set.made
  have hsub := F.called_set.sub
  refine wpAny_call (codeAny_of_tree ?_)
  show wpAny _ _ (callAny (.type "set") _) _ _ _
  refine wpAny_pure ⟨Code.quiet_builtin _ (by decide +kernel), codeAny_builtin F.entry_type_call ?_⟩
  rw [Around.under_plain (weight_type_call_type "set" [.ref l] []) rfl]
  have h1 := F.called_set.notType
  have h2 := F.called_set.canCreate
  have hct := F.typeCall_set_1 (.ref l)
  repeat (any_goals (first | assumption | wp_step))
  refine codeAny_mono (code_set_led1 (.ref l) (E := E) (Q₁ := fun obj s₁ => obj = .ref s.heap.objs.size ∧ s₁ = { s with heap := s.heap.push ({ cls := .type "set", dict := none, data := .set #[] 0 (.fresh 0 0 (!w.params.followText "set-order")) } : Obj) }) ⟨rfl, rfl⟩) fun r s₁ hr => ?_
  cases r with
  | error e => exact hr
  | ok fl =>
    cases fl with
    | ret obj =>
      obtain ⟨rfl, rfl⟩ := hr
      have hS : (s.heap.push ({ cls := .type "set", dict := none, data := .set #[] 0 (.fresh 0 0 (!w.params.followText "set-order")) } : Obj)).get? s.heap.objs.size = some ({ cls := .type "set", dict := none, data := .set #[] 0 (.fresh 0 0 (!w.params.followText "set-order")) } : Obj) := Heap.get?_push_size _ rfl
      have hT : Shared.TypeIs { s with heap := s.heap.push ({ cls := .type "set", dict := none, data := .set #[] 0 (.fresh 0 0 (!w.params.followText "set-order")) } : Obj) } (.ref s.heap.objs.size) "set" := ⟨_, hS, rfl⟩
      have hli := F.called_set.init.lookup
      have hbi := F.called_set.init.bind (.ref s.heap.objs.size)
      repeat (any_goals (first | assumption | wp_step))
      refine codeAny_mono (codeAny_call_builtin (R := wants (fun r s₂ => r = .none ∧ ∃ h' tk L vs m t, s₂ = { s with heap := h', toks := tk } ∧ SetH kd h' s.heap.objs.size L vs m t ∧ Has ks ks.length L ∧
          (∀ b o, s.heap.get? b = some o → h'.get? b = some o)) E) F.called_set.init.plain F.entry_set_init (check_set_init_1 hT ?_)) fun r₂ s₂ hr₂ => ?_
      · obtain ⟨ol, hol, hcl, nl, hdl⟩ := hl
        obtain ⟨ocls, odict, odata, oslots⟩ := ol
        simp only at hcl hdl
        subst hcl; subst hdl
        have hol1 : (s.heap.push ({ cls := .type "set", dict := none, data := .set #[] 0 (.fresh 0 0 (!w.params.followText "set-order")) } : Obj)).get? l = some { cls := .type "tuple", dict := odict, data := .seq items nl, slots := oslots } := Heap.get?_push_of_some _ hol
        have hsls := F.sub_tuple_set
        have hslf := F.sub_tuple_frozenset
        have hne : (Value.type "tuple" == Value.type "dict") = false := by decide
        have hl1 : (s.heap.push ({ cls := .type "set", dict := none, data := .set #[] 0 (.fresh 0 0 (!w.params.followText "set-order")) } : Obj)).IsTuple l items := ⟨_, hol1, rfl, nl, rfl⟩
        unfold Builtin.«set.__init__» noKeywords Builtin.Frozenset.updateFrom
        generalize hPI : pyIter = PI
        wp_walk
        subst hPI
        refine wpAny_pyIter_tuple hl1 ?_
        refine wpAny_bind (wpAny_runValue ?_)
        have llt : l < s.heap.objs.size := Heap.lt_size hol
        have hh3 : A.in1.in1.in1.handled = none := by simp [hh]
        have z1 : (s.heap.push ({ cls := .type "set", dict := none, data := .set #[] 0 (.fresh 0 0 (!w.params.followText "set-order")) } : Obj)).objs.size = s.heap.objs.size + 1 := Heap.size_push ..
        have ne1 : l ≠ (s.heap.push ({ cls := .type "set", dict := none, data := .set #[] 0 (.fresh 0 0 (!w.params.followText "set-order")) } : Obj)).objs.size := by rw [z1]; exact Nat.ne_of_lt (Nat.lt_succ_of_lt llt)
        have hnf : s.heap.objs.size ∉ [(s.heap.push ({ cls := .type "set", dict := none, data := .set #[] 0 (.fresh 0 0 (!w.params.followText "set-order")) } : Obj)).objs.size, l] := by
          rw [z1]; intro z
          rcases List.mem_cons.mp z with z | z
          · exact Nat.ne_of_lt (Nat.lt_succ_self _) z
          · exact Nat.ne_of_gt llt (List.mem_singleton.mp z)
        have hval : ∀ (i : Nat) (v : Value), items[i]? = some v → ∃ z, ks[i]? = some z ∧ v = Value.ref z.1 := fun i v q => by
          have q2 : items.toList[i]? = some v := by rw [Array.getElem?_toList]; exact q
          rw [hi, List.getElem?_map] at q2
          cases e : ks[i]? with
          | none => rw [e] at q2; cases q2
          | some z => rw [e] at q2; exact ⟨z, rfl, (Option.some.inj q2).symm⟩
        have noObj : ∀ b, s.heap.objs.size ≤ b → s.heap.get? b = none := fun b hb => by
          cases q : s.heap.get? b with
          | none => rfl
          | some o => exact absurd (Heap.lt_size q) (Nat.not_lt.mpr hb)
        refine upd_keys ok ((Walks.tuple hh3 _ l ne1 items).toS) s.heap.objs.size hnf ks isz hb hval s.heap hk (noObj _ (Nat.le_refl _)) (fun b hb => noObj b (by rw [List.mem_singleton.mp hb, z1]; exact Nat.le_succ _)) ro (items.size - 0) 0 _ (by omega) (Nat.zero_le _)
          ⟨⟨_, Heap.get?_push_size _ rfl, rfl, rfl⟩, (hl1.push _)⟩ (fun b o e => Heap.get?_push_of_some _ (Heap.get?_push_of_some _ e)) ⟨[], #[], 0, _, setH_new (Heap.get?_push_of_some _ hS), ⟨fun z hz => (nomatch hz), fun z hz => (nomatch hz), Nat.le_refl _⟩⟩ fun s' L vs m t mv hS' g kp => ?_
        obtain ⟨h', g2, d', tk', os'⟩ := s'
        have eg : g2 = s.gens := mv.gens
        have ed : d' = s.drawn := mv.drawn
        have eo : os' = s.os := mv.os
        subst eg; subst ed; subst eo
        show wpAny _ _ _ _ _ _
        refine wpAny_pure ?_
        show wpAny _ _ (ret Value.none) _ _ _
        rw [isz] at g
        exact wpAny_pure ⟨rfl, h', tk', L, vs, m, t, rfl, hS', g, kp⟩
      · cases r₂ with
        | error e => exact hr₂
        | ok fl₂ =>
          cases fl₂ with
          | ret r =>
            obtain ⟨rfl, h', tk, L, vs, m, t, rfl, hS', g, kp⟩ := hr₂
            repeat (any_goals (first | assumption | wp_step))
            exact hQ _ _ _ _ _ _ hS' g kp
          | _ => exact hr₂.elim
    | _ => exact hr.elim
end
end Ag

set_option Elab.async false
set_option linter.all false
set_option maxRecDepth 100000
set_option maxHeartbeats 2000000
/-! Sets of tuples over the layer: set(list or tuple of tuples), sorted of such a set. -/
namespace Ag
open PySem PySem.Spec PyProof.Rows L2
open PySem.W (EachIs AllAlike Sortable dataKind sortLe dataLt keyToks sortingHeap sortingHeap_old)
/-- a key as data -/
def itmD : Key → PyData | .inl i => .int i | .inr x => .str x
def keyD (k : List Key) : PyData := .tuple (k.map itmD)
theorem dps_key {K : PySem.W.Frag} {H : Hp} : ∀ k : List Key, DpAll K H (k.map kV) (k.map itmD)
  | [] => .nil
  | .inl i :: k => .cons (.int i) (dps_key k)
  | .inr x :: k => .cons (.str x) (dps_key k)
theorem depth_key : ∀ k : List Key, PyData.depthAll (k.map itmD) = 0
  | [] => by simp [PyData.depthAll]
  | .inl i :: k => by simp [PyData.depthAll, itmD, PyData.depth, depth_key k]
  | .inr x :: k => by simp [PyData.depthAll, itmD, PyData.depth, depth_key k]
theorem keyD_depth (k : List Key) : (keyD k).depth ≤ 1 := by
  have := depth_key k
  unfold keyD
  simp only [PyData.depth]
  omega
theorem map_of_perm {α β : Type} (f : α → β) {us vs : List β} (p : us.Perm vs) : ∀ L : List α, L.map f = vs → ∃ M : List α, M.Perm L ∧ us = M.map f := by
  induction p with
  | nil =>
    intro L e
    cases L with
    | nil => exact ⟨[], .nil, rfl⟩
    | cons x l => cases e
  | cons u _ ih =>
    intro L e
    cases L with
    | nil => cases e
    | cons x l =>
      rw [List.map_cons, List.cons.injEq] at e
      obtain ⟨M, a, b⟩ := ih l e.2
      exact ⟨x :: M, a.cons x, by rw [List.map_cons, e.1, b]⟩
  | swap u v l =>
    intro L e
    match L, e with
    | x :: y :: l', e =>
      rw [List.map_cons, List.map_cons, List.cons.injEq, List.cons.injEq] at e
      exact ⟨y :: x :: l', .swap x y l', by rw [List.map_cons, List.map_cons, e.1, e.2.1, e.2.2]⟩
  | trans _ _ ih1 ih2 =>
    intro L e
    obtain ⟨M, a, b⟩ := ih2 L e
    obtain ⟨N, c, d⟩ := ih1 M b.symm
    exact ⟨N, c.trans a, d⟩
theorem each_pairs : ∀ M : List (Addr × List Key), EachIs (fun (u : Value) (b : V × (Addr × List Key)) => RelV b.1 u) (M.map fun z => Value.ref z.1) (M.map fun z => (V.ref z.1, z))
  | [] => .nil
  | z :: M => .cons rfl (each_pairs M)
section
variable {P : Program} {w : World}
theorem vals_fst {β : Type} {us : List Value} {zs : List (V × β)} (h : EachIs (fun (u : Value) (b : V × β) => RelV b.1 u) us zs) : Vals (zs.map Prod.fst) us := by
  induction h with
  | nil => exact .nil
  | cons a _ ih => exact .cons a ih
/-- a set's table, without what stands at the keys' places -/
structure Set0 (P : Program) (w : World) (h : Heap) (a : Addr) (L : List (Addr × List Key)) (vs : Array (Int × Value)) (n : Nat) (t : SetTable) : Prop where
  at_ : ∃ o, h.get? a = some o ∧ o.ExactSet ∧ o.data = .set vs n t
  ents : vs.toList = entH (TKind P w) L
  lay : TabW t (L.map fun z => (TKind P w).hash z.2)
  once : (L.map Prod.snd).Nodup
  told : w.params.followText "set-order" = true ∨ t.led = true
  loose : L.length * 5 < t.mask * 3
  small : L.length < 301
variable {h : Heap} {a : Addr} {L : List (Addr × List Key)} {vs : Array (Int × Value)} {n : Nat} {t : SetTable}
theorem SetH.bare (R : SetH (TKind P w) h a L vs n t) : Set0 P w h a L vs n t := ⟨R.at_, R.ents, R.lay, R.once, R.told, R.loose, R.small⟩
theorem Set0.full (R : Set0 P w h a L vs n t) (k : ∀ z ∈ L, (TKind P w).is h z.2 z.1) : SetH (TKind P w) h a L vs n t := ⟨R.at_, R.ents, R.lay, R.once, k, R.told, R.loose, R.small⟩
/-- the set of the keys of ks, at a -/
def KeySet (P : Program) (w : World) (a : Addr) (ks : List (Addr × List Key)) : HO := .ext fun h => ∃ L vs n t, Set0 P w h a L vs n t ∧ Has ks ks.length L
theorem refs_val : ∀ {ks : List (Addr × List Key)} {us : List Value}, Vals (ks.map fun z => V.ref z.1) us → us = ks.map fun z => Value.ref z.1
  | [], _, .nil => rfl
  | z :: ks, _, .cons r t => by
    have e := refs_val t
    cases r
    rw [e]; rfl
theorem val_refs : ∀ ks : List (Addr × List Key), Vals (ks.map fun z => V.ref z.1) (ks.map fun z => Value.ref z.1)
  | [] => .nil
  | z :: ks => .cons rfl (val_refs ks)
end
section
variable {X : Cx}
theorem key_at {pins : List (Addr × Obj)} {σ : L2.St} {H : Hp} {s : Shared} (I : L2.Inv X pins σ H s) {b : Addr} {k : List Key} (h : SqT X.K H b (k.map kV)) : (TKind X.prog X.w).is s.heap k b := by
  obtain ⟨its, r, ⟨o, e1, e2, n, e3⟩, _⟩ := I.tuple h
  exact ⟨o, its.toArray, n, e1, e2, e3, by simpa using items_are r⟩
def rSetQ (K : PySem.W.Frag) (P : Program) (w : World) : List V → Hp → VK → Prop := fun xs H Q => ∃ (l : Addr) (ks : List (Addr × List Key)), xs = [V.ref l] ∧ (SqL K H l (ks.map fun z => V.ref z.1) ∨ SqT K H l (ks.map fun z => V.ref z.1)) ∧ (∀ z ∈ ks, SqT K H z.1 (z.2.map kV)) ∧ ks.length < 301 ∧
  ∀ p, H p = none → Q (.ref p) (upd H p (KeySet P w p ks))
theorem cr_setQ (hc : X.calm = true) (hu : X.A.units + 3 < cLine) : CallR X (.type "set") (rSetQ X.K X.prog X.w) := by
  intro pins s σ H vs us Q I r h
  obtain ⟨l, ks, rfl, hs, hk, hb, q⟩ := h
  rw [Vals.ref1 r]
  have hn : H s.heap.objs.size = none := I.hok.fresh (Nat.le_refl _)
  have keys : ∀ z ∈ ks, (TKind X.prog X.w).is s.heap z.2 z.1 := fun z hz => key_at I (hk z hz)
  have fin : ∀ (h' : Heap) (tk : Nat) L vs m t, SetH (TKind X.prog X.w) h' s.heap.objs.size L vs m t → Has ks ks.length L → (∀ b o, s.heap.get? b = some o → h'.get? b = some o) →
      ∃ y H', Inv X pins σ H' { s with heap := h', toks := tk } ∧ RelV y (Value.ref s.heap.objs.size) ∧ Q y H' := fun h' tk L vs m t R g kp => by
    refine ⟨.ref s.heap.objs.size, upd H s.heap.objs.size (KeySet X.prog X.w s.heap.objs.size ks), I.laid (t' := tk) kp (Nat.le_refl _) ⟨⟨L, vs, m, t, R.bare, g⟩, ?_, ?_⟩, rfl, q _ hn⟩
    · obtain ⟨o, e, _⟩ := R.at_
      exact ⟨o, e⟩
    · rintro h1 h2 ⟨L, vs, m, t, R, g⟩ e
      obtain ⟨o, e1, e2⟩ := R.at_
      exact ⟨L, vs, m, t, ⟨⟨o, e o e1, e2⟩, R.ents, R.lay, R.once, R.told, R.loose, R.small⟩, g⟩
  rcases hs with hs | hs
  · obtain ⟨its, rv, hl, _⟩ := I.list hs
    exact set_of_keys (P := X.prog) (w := X.w) tkind_ok (I.ok.hd hc) hl.isList (refs_val rv) keys hb hu fin
  · obtain ⟨its, rv, hl, _⟩ := I.tuple hs
    exact set_of_keysT (P := X.prog) (w := X.w) tkind_ok (I.ok.hd hc) hl (refs_val rv) keys hb hu fin
def rSortQ (K : PySem.W.Frag) (P : Program) (w : World) : List V → Hp → VK → Prop := fun xs H Q => ∃ (a : Addr) (ks : List (Addr × List Key)), xs = [V.ref a] ∧ H a = some (KeySet P w a ks) ∧ (∀ z ∈ ks, SqT K H z.1 (z.2.map kV)) ∧ AllAlike (ks.map fun z => keyD z.2) ∧ Sortable (ks.map fun z => keyD z.2) ∧
  ∀ (L zs : List (Addr × List Key)) p, Has ks ks.length L → (L.map Prod.snd).Nodup → zs.Perm L → (zs.map fun z => keyD z.2) = (L.map fun z => keyD z.2).mergeSort leD → H p = none → Q (.ref p) (upd H p (.lst (zs.map fun z => V.ref z.1)))
theorem cr_sortQ (hc : X.calm = true) (hu : X.A.units + 64 < cLine) : CallR X (.builtin "sorted") (rSortQ X.K X.prog X.w) := by
  intro pins s σ H vs us Q I r h
  obtain ⟨a, ks, rfl, ha, hk, al, so, q⟩ := h
  obtain ⟨⟨L, tv, m, t, R0, g⟩, _⟩ := I.hok a _ ha
  rw [Vals.ref1 r]
  have sub : ∀ z ∈ L, z ∈ ks := fun z hz => List.mem_of_mem_take (g.of z hz)
  have R := R0.full fun z hz => key_at I (hk z (sub z hz))
  obtain ⟨o, g1, g2, g3⟩ := R.at_
  have len := ent_len R.ents
  have sm := R.small
  refine Calls.call_function_entry kind_sorted plain_sorted entry_sorted (args_sorted1 _) ?_
  unfold Builtin.«sorted»
  refine wpAny_bind (m := checkCount "sorted" 1 1 _) (wpAny_pure ?_)
  refine wpAny_bind (collect_set (A := X.A.in1) (I.ok.hd hc) ⟨o, g1, g2.1, g3⟩ R.fits (by unfold scanBound; omega) R.lay.ris R.told fun s1 us k1 hz gs o1 pm => ?_)
  have e1 : tv.toList.map (·.2) = L.map fun z => Value.ref z.1 := by
    rw [R.ents]; unfold entH; rw [List.map_map]; rfl
  rw [e1] at pm
  obtain ⟨M, pM, rfl⟩ := map_of_perm _ pm L rfl
  have subM : ∀ z ∈ M, z ∈ ks := fun z hz => sub z (pM.mem_iff.mp hz)
  have hlen : (M.map fun z => Value.ref z.1).length ≤ sizeLine := by rw [List.length_map, pM.length_eq, sizeLine_eq]; omega
  have dps : ∀ N : List (Addr × List Key), (∀ z ∈ N, z ∈ ks) → DpAll X.K H (N.map fun z => V.ref z.1) (N.map fun z => keyD z.2) := by
    intro N
    induction N with
    | nil => exact fun _ => .nil
    | cons z N ih => exact fun hN => .cons (.tup (hk z (hN z List.mem_cons_self)) (dps_key z.2)) (ih fun y hy => hN y (List.mem_cons_of_mem _ hy))
  have alM : AllAlike (M.map fun z => keyD z.2) := fun d hd e he => by
    obtain ⟨z, hz, rfl⟩ := List.mem_map.mp hd
    obtain ⟨y, hy, rfl⟩ := List.mem_map.mp he
    exact al _ (List.mem_map.mpr ⟨z, subM z hz, rfl⟩) _ (List.mem_map.mpr ⟨y, subM y hy, rfl⟩)
  have soM : Sortable (M.map fun z => keyD z.2) := by
    have up : ∀ d ∈ M.map (fun z => keyD z.2), d ∈ ks.map fun z => keyD z.2 := fun d hd => by
      obtain ⟨z, hz, rfl⟩ := List.mem_map.mp hd
      exact List.mem_map.mpr ⟨z, subM z hz, rfl⟩
    exact so.imp (fun h d hd => h d (up d hd)) fun h d hd => h d (up d hd)
  obtain ⟨as, hr⟩ := Dp.readsAll I _ _ _ (dps M subM) (val_refs M)
  refine wpAny_bind (wpAny_newList ?_ hlen)
  have hoL : (s1.heap.push (seqObj "list" (M.map fun z => Value.ref z.1).toArray 0)).get? s1.heap.objs.size = some (seqObj "list" (M.map fun z => Value.ref z.1).toArray 0) := Heap.get?_push_size _ rfl
  have old : ∀ b u, s.heap.get? b = some u → (sortingHeap (s1.heap.push (seqObj "list" (M.map fun z => Value.ref z.1).toArray 0)) s1.heap.objs.size (M.map fun z => Value.ref z.1)).get? b = some u := fun b u e => by
    have e2 := k1 b u e
    exact sortingHeap_old (Nat.ne_of_lt (Heap.lt_size e2)) (Heap.get?_push_of_some _ e2)
  have hr2 := PyProof.Rows.ReadsAll.keeps old hr
  generalize hh : sortingHeap (s1.heap.push (seqObj "list" (M.map fun z => Value.ref z.1).toArray 0)) s1.heap.objs.size (M.map fun z => Value.ref z.1) = h2 at hr2
  have hS : ∀ d ∈ M.map (fun z => keyD z.2), X.A.in1.in1.units + d.depth < cLine := fun d hd => by
    obtain ⟨z, hz, rfl⟩ := List.mem_map.mp hd
    have := keyD_depth z.2
    show X.A.units + 1 + 1 + _ < cLine
    omega
  refine wpAny_bind (wpAny_holding (wpAny_call_entry slot_list_sort ⟨_, hoL, rfl⟩ entry_list_sort (PySem.W.list_sort_vals (κ := dataKind h2 (M.map fun z => keyD z.2)) (s := { s1 with heap := s1.heap.push (seqObj "list" (M.map fun z => Value.ref z.1).toArray 0) }) hoL (by rw [hh]; exact PySem.W.SortsAt.data (s := { s1 with heap := h2 }) (each_reads hr2) alM soM hS) hlen ⟨_, rfl, ?_⟩) (args_list_sort _)))
  · have e2 := each_pairs M
    have hk2 : EachIs (fun (v : Value) (b : V × (Addr × List Key)) => (dataKind h2 (M.map fun z => keyD z.2)).keyOf v = some (keyToks (keyD b.2.2))) (M.map fun z => Value.ref z.1) (M.map fun z => (V.ref z.1, z)) := by
      have all : ∀ (N : List (Addr × List Key)) {as : List Addr}, (∀ z ∈ N, z ∈ M) → ReadsAll h2 (N.map fun z => Value.ref z.1) (N.map fun z => keyD z.2) as → EachIs (fun (v : Value) (b : V × (Addr × List Key)) => (dataKind h2 (M.map fun z => keyD z.2)).keyOf v = some (keyToks (keyD b.2.2))) (N.map fun z => Value.ref z.1) (N.map fun z => (V.ref z.1, z)) := by
        intro N
        induction N with
        | nil => exact fun _ _ => .nil
        | cons z N ih =>
          intro as hN hrN
          cases hrN with
          | cons a b => exact .cons (PySem.W.dataKind_some alM (List.mem_map.mpr ⟨z, hN z List.mem_cons_self, rfl⟩) a) (ih (fun y hy => hN y (List.mem_cons_of_mem _ hy)) b)
      exact all M (fun _ h => h) hr2
    have e3 := PySem.W.sortVals_each (κ := dataKind h2 (M.map fun z => keyD z.2)) (rev := false) (ks := M.map fun z => Value.ref z.1) (fun b : V × (Addr × List Key) => keyToks (keyD b.2.2)) e2 hk2
    obtain ⟨c, hc2⟩ := sortedHeap_at (vs := M.map fun z => Value.ref z.1) (out := (PySem.W.sortVals (dataKind h2 (M.map fun z => keyD z.2)) false (M.map fun z => Value.ref z.1) (M.map fun z => Value.ref z.1)).toArray) hoL
    generalize PySem.W.sortVals (dataKind h2 (M.map fun z => keyD z.2)) false (M.map fun z => Value.ref z.1) (M.map fun z => Value.ref z.1) = out at e3 hc2 ⊢
    have ps : ((M.map fun z => (V.ref z.1, z)).mergeSort (sortLe (dataKind h2 (M.map fun z => keyD z.2)).toKeyOrd false fun b : V × (Addr × List Key) => keyToks (keyD b.2.2))).Perm (M.map fun z => (V.ref z.1, z)) := List.mergeSort_perm _ _
    have ms : ((M.map fun z => (V.ref z.1, z)).mergeSort (sortLe (dataKind h2 (M.map fun z => keyD z.2)).toKeyOrd false fun b : V × (Addr × List Key) => keyToks (keyD b.2.2))).map (fun b => keyD b.2.2) = ((M.map fun z => (V.ref z.1, z)).map fun b => keyD b.2.2).mergeSort leD :=
      PySem.W.sort_maps (s := leD) (fun b : V × (Addr × List Key) => keyD b.2.2) fun p _ q _ => rfl
    generalize (M.map fun z => (V.ref z.1, z)).mergeSort (sortLe (dataKind h2 (M.map fun z => keyD z.2)).toKeyOrd false fun b : V × (Addr × List Key) => keyToks (keyD b.2.2)) = W at e3 ps ms
    have kp : ∀ b u, s.heap.get? b = some u → (sortedHeap (s1.heap.push (seqObj "list" (M.map fun z => Value.ref z.1).toArray 0)) s1.heap.objs.size (M.map fun z => Value.ref z.1) out.toArray).get? b = some u := fun b u e => by
      have e2 := k1 b u e
      have lt := Heap.lt_size e2
      rw [sortedHeap_old (Nat.ne_of_lt lt) (by rw [size_push']; exact Nat.lt_succ_of_lt lt)]
      exact Heap.get?_push_of_some _ e2
    generalize sortedHeap (s1.heap.push (seqObj "list" (M.map fun z => Value.ref z.1).toArray 0)) s1.heap.objs.size (M.map fun z => Value.ref z.1) out.toArray = h3 at kp hc2 ⊢
    have hn : H s1.heap.objs.size = none := I.hok.fresh hz
    have hv := vals_fst e3
    have e4 : W.map Prod.fst = (W.map Prod.snd).map fun z => V.ref z.1 := by
      rw [List.map_map]
      refine List.map_congr_left fun b hb => ?_
      obtain ⟨z, _, rfl⟩ := List.mem_map.mp (ps.mem_iff.mp hb)
      rfl
    have e5 : (W.map Prod.snd).Perm M := by
      have := ps.map Prod.snd
      rw [List.map_map] at this
      exact this.trans (by rw [show (Prod.snd ∘ fun z : Addr × List Key => (V.ref z.1, z)) = id from rfl, List.map_id])
    have e6 : ((W.map Prod.snd).map fun z => keyD z.2) = (M.map fun z => keyD z.2).mergeSort leD := by
      rw [List.map_map]
      refine ms.trans ?_
      rw [List.map_map]; rfl
    have small : (W.map Prod.fst).length ≤ sizeLine := by
      rw [List.length_map, ps.length_eq, List.length_map, pM.length_eq, sizeLine_eq]; omega
    have J : Inv X pins σ (upd H s1.heap.objs.size (.lst (W.map Prod.fst))) { s with heap := h3, gens := s1.gens, drawn := s1.drawn, toks := s1.toks } :=
      I.call (ch := []) (Un.laid kp hz hn) (I.hok.laid kp hz ⟨small, _, c, hv, hc2⟩) (by rw [gs]; exact I.bare) (fun _ z => nomatch z)
    have es : ({ s1 with heap := h3 } : Shared) = { s with heap := h3, gens := s1.gens, drawn := s1.drawn, toks := s1.toks } := by
      cases s1; cases s; cases o1; rfl
    refine wpAny_pure ⟨_, rfl, .ref s1.heap.objs.size, _, ?_, rfl, q M (W.map Prod.snd) s1.heap.objs.size ⟨fun z hz => g.of z (pM.mem_iff.mp hz), fun z hz => (pM.map Prod.snd).mem_iff.mpr (g.all z hz), by rw [pM.length_eq]; exact g.len⟩ ((pM.map Prod.snd).nodup_iff.mpr R.once) e5 e6 hn⟩
    rw [← e4]
    exact es ▸ J
end
end Ag

set_option Elab.async false
set_option linter.all false
set_option maxRecDepth 100000
set_option maxHeartbeats 4000000
/-! Sets of fewer than 64 tuples whose items may be tuples. -/
namespace Ag
open PySem PySem.Spec PyProof.Rows L2
section
variable {P : Program} {w : World}
/-- it is seen to be no class statement's -/
def NoCls (P : Program) (w : World) (n : Nat) (s : Shared) (v : Value) : Prop := ∀ (A : Around) (E : Value → Shared → Prop) (Q : Bool → Shared → Prop), Q false s → wpAny (model P w) A (ofAClassStatement n v) Q E s
mutual
theorem nocls_key : ∀ (k : NestedKey) (v : Value) (n : Nat) (s : Shared), NestedIs s.heap k v → k.depth ≤ n → NoCls P w n s v
  | .none, _, n, s, x, _ => by cases x; intro A E Q q; cases n <;> exact wpAny_pure q
  | .num i, _, n, s, x, _ => by cases x <;> (intro A E Q q; cases n <;> exact wpAny_pure q)
  | .text y, _, n, s, x, _ => by cases x; intro A E Q q; cases n <;> exact wpAny_pure q
  | .tup ks, _, n, s, x, hn => by
    cases x with
    | tup hg hc hd hk =>
      simp only [NestedKey.depth] at hn
      cases n with
      | zero => omega
      | succ n =>
        intro A E Q q
        have all := nocls_keys ks _ n s hk (by omega)
        unfold ofAClassStatement
        refine wpAny_bind (wpAny_typeOf ⟨_, hg, hc⟩ ?_)
        dsimp only
        simp only [show (("tuple" : String) == "tuple") = true by decide, if_true, Bool.not_true, Bool.false_eq_true, if_false]
        try refine wpAny_bind (wpAny_pure ?_)
        try simp only [Bool.not_true, Bool.false_eq_true, if_false]
        refine wpAny_bind (wpAny_seqItems hg hd ?_)
        dsimp only
        refine wpAny_bind ?_
        rw [← Array.forIn_toList]
        refine wpAny_forIn_list _ (fun left out s1 => out.1 = none ∧ s1 = s ∧ ∀ u ∈ left, NoCls P w n s u) _ (fun u left out s1 z => ?_) (fun out s1 z => ?_) _ _ ⟨rfl, rfl, all⟩
        · obtain ⟨_, rfl, z⟩ := z
          refine wpAny_bind (z u List.mem_cons_self _ _ _ ?_)
          simp only [Bool.false_eq_true, if_false]
          exact wpAny_pure ⟨rfl, rfl, fun y hy => z y (List.mem_cons_of_mem _ hy)⟩
        · obtain ⟨o1, o2⟩ := out
          obtain ⟨z1, rfl, _⟩ := z
          have z1 : o1 = none := z1
          subst z1
          exact wpAny_pure q
theorem nocls_keys : ∀ (ks : List NestedKey) (vs : List Value) (n : Nat) (s : Shared), NestedAll s.heap ks vs → NestedKey.depthAll ks ≤ n → ∀ v ∈ vs, NoCls P w n s v
  | [], _, n, s, x, _, v, hv => by cases x; cases hv
  | k :: ks, _, n, s, x, hn, v, hv => by
    cases x with
    | cons x1 x2 =>
      simp only [NestedKey.depthAll] at hn
      rcases List.mem_cons.mp hv with e | hv
      · rw [e]; exact nocls_key k _ n s x1 (by omega)
      · exact nocls_keys ks _ n s x2 (by omega) v hv
end
/-- whether its hash is by its value may be asked -/
def ByVal (P : Program) (w : World) (n : Nat) (s : Shared) (v : Value) : Prop := ∀ (A : Around) (E : Value → Shared → Prop) (Q : Bool → Shared → Prop), (∀ r, Q r s) → wpAny (model P w) A (hashByValue n v) Q E s
mutual
theorem byval_key : ∀ (k : NestedKey) (v : Value) (n : Nat) (s : Shared), NestedIs s.heap k v → ByVal P w n s v
  | .none, _, n, s, x => by cases x; intro A E Q q; cases n <;> exact wpAny_pure (q _)
  | .num i, _, n, s, x => by cases x <;> (intro A E Q q; cases n <;> exact wpAny_pure (q _))
  | .text y, _, n, s, x => by cases x; intro A E Q q; cases n <;> exact wpAny_pure (q _)
  | .tup ks, _, n, s, x => by
    cases x with
    | tup hg hc hd hk =>
      cases n with
      | zero => intro A E Q q; exact wpAny_pure (q _)
      | succ n =>
        intro A E Q q
        have all := byval_keys ks _ n s hk
        unfold hashByValue
        refine wpAny_bind (wpAny_specialOf (T := "tuple") ⟨_, hg, hc⟩ F.slot_tuple_hash.lookup ?_)
        refine wpAny_bind (wpAny_seqItems hg hd ?_)
        refine wpAny_bind ?_
        rw [← Array.forIn_toList]
        refine wpAny_forIn_list _ (fun left out s1 => s1 = s ∧ ∀ u ∈ left, ByVal P w n s u) _ (fun u left out s1 z => ?_) (fun out s1 z => ?_) _ _ ⟨rfl, all⟩
        · obtain ⟨rfl, z⟩ := z
          refine wpAny_bind (z u List.mem_cons_self _ _ _ fun r => ?_)
          cases r with
          | true =>
            simp only [Bool.not_true, Bool.false_eq_true, if_false]
            exact wpAny_pure ⟨rfl, fun y hy => z y (List.mem_cons_of_mem _ hy)⟩
          | false =>
            simp only [Bool.not_false, if_true]
            exact wpAny_pure (wpAny_pure (q _))
        · obtain ⟨o1, o2⟩ := out
          obtain ⟨rfl, _⟩ := z
          cases o1 with
          | none => exact wpAny_pure (q _)
          | some r => exact wpAny_pure (q _)
theorem byval_keys : ∀ (ks : List NestedKey) (vs : List Value) (n : Nat) (s : Shared), NestedAll s.heap ks vs → ∀ v ∈ vs, ByVal P w n s v
  | [], _, n, s, x, v, hv => by cases x; cases hv
  | k :: ks, _, n, s, x, v, hv => by
    cases x with
    | cons x1 x2 =>
      rcases List.mem_cons.mp hv with e | hv
      · rw [e]; exact byval_key k _ n s x1
      · exact byval_keys ks _ n s x2 v hv
end
theorem nkind_ok : KeyOk (nestedKind P w) where
  old := fun e k => ⟨NestedIs.at (fun b o vs n hb _ => e b o hb) _ _ k.1, k.2⟩
  but := fun {h h' k b d o vs n t} hk g1 g3 sb => ⟨NestedIs.at (fun c ob us m hc he => by
    refine (sb.2 c fun z => ?_).trans hc
    subst z
    rw [hc] at g1
    cases Option.some.inj g1
    rw [he] at g3; cases g3) _ _ hk.1, hk.2⟩
  cls := fun {A E s k b Q} hk q => nocls_key k _ 8 s hk.1 hk.2 A E Q q
  byv := fun {A E s k b Q} hk q => byval_key k _ 8 s hk.1 A E Q q
end
end Ag

set_option Elab.async false
set_option linter.all false
set_option maxRecDepth 100000
set_option maxHeartbeats 2000000
/-! Sets of nested tuples over the layer: set(list or tuple of tuples), sorted of such a set (ST4 for nested keys). -/
namespace Ag
open PySem PySem.Spec PyProof.Rows L2
open PySem.W (EachIs AllAlike Sortable dataKind sortLe dataLt keyToks sortingHeap sortingHeap_old)
mutual
/-- data as a key -/
def nk : PyData → NestedKey
  | .bool b => .num (if b = true then 1 else 0)
  | .int i => .num i
  | .str x => .text x
  | .tuple ds => .tup (nks ds)
  | _ => .none
def nks : List PyData → List NestedKey
  | [] => []
  | d :: ds => nk d :: nks ds
end
mutual
/-- no lists within -/
def tupD : PyData → Bool
  | .list _ => false
  | .dict _ => false
  | .tuple ds => tupDs ds
  | _ => true
def tupDs : List PyData → Bool
  | [] => true
  | d :: ds => tupD d && tupDs ds
end
mutual
theorem nk_depth : ∀ d : PyData, (nk d).depth ≤ d.depth
  | .none => by simp [nk, NestedKey.depth]
  | .bool b => by simp [nk, NestedKey.depth]
  | .int i => by simp [nk, NestedKey.depth]
  | .str x => by simp [nk, NestedKey.depth]
  | .list ds => by simp [nk, NestedKey.depth]
  | .dict ds => by simp [nk, NestedKey.depth]
  | .tuple ds => by
    have := nks_depth ds
    simp only [nk, NestedKey.depth, PyData.depth]; omega
theorem nks_depth : ∀ ds : List PyData, NestedKey.depthAll (nks ds) ≤ PyData.depthAll ds
  | [] => by simp [nks, NestedKey.depthAll]
  | d :: ds => by
    have a := nk_depth d
    have b := nks_depth ds
    simp only [nks, NestedKey.depthAll, PyData.depthAll]; omega
end
mutual
theorem nested_of {X : Cx} {pins : List (Addr × Obj)} {σ : L2.St} {H : Hp} {s : Shared} (I : L2.Inv X pins σ H s) : ∀ {v : V} {d : PyData} {u : Value}, tupD d = true → Dp X.K H v d → RelV v u → NestedIs s.heap (nk d) u
  | _, _, _, _, .non, r => by cases r; rw [nk] <;> first | exact .none | (intro; simp)
  | _, _, _, _, .bl b, r => by cases r; rw [nk]; exact .bool rfl
  | _, _, _, _, .int i, r => by obtain ⟨t, rfl⟩ := r; rw [nk]; exact .int _ _
  | _, _, _, _, .str x, r => by obtain ⟨t, rfl⟩ := r; rw [nk]; exact .text _ _
  | _, _, _, n, .lst q y, r => by rw [tupD] at n; cases n
  | _, _, _, n, .tup q y, r => by
    rw [tupD] at n
    cases r
    obtain ⟨its, rv, ⟨o, e1, e2, m, e3⟩, _⟩ := I.tuple q
    rw [nk]
    exact .tup e1 e2 e3 (nested_all I n y (by simpa using rv))
theorem nested_all {X : Cx} {pins : List (Addr × Obj)} {σ : L2.St} {H : Hp} {s : Shared} (I : L2.Inv X pins σ H s) : ∀ {vs : List V} {ds : List PyData} {us : List Value}, tupDs ds = true → DpAll X.K H vs ds → Vals vs us → NestedAll s.heap (nks ds) us
  | _, _, _, _, .nil, r => by cases r; rw [nks]; exact .nil
  | _, _, _, n, .cons a y, r => by
    rw [tupDs, Bool.and_eq_true] at n
    cases r with
    | cons r1 r2 => rw [nks]; exact .cons (nested_of I n.1 a r1) (nested_all I n.2 y r2)
end
/-- what stands at a key's place -/
def NkAt (K : PySem.W.Frag) (D : NestedKey → PyData) (H : Hp) (z : Addr × NestedKey) : Prop := Dp K H (.ref z.1) (D z.2) ∧ nk (D z.2) = z.2 ∧ tupD (D z.2) = true ∧ (D z.2).depth ≤ 8
theorem each_pairsN : ∀ M : List (Addr × NestedKey), EachIs (fun (u : Value) (b : V × (Addr × NestedKey)) => RelV b.1 u) (M.map fun z => Value.ref z.1) (M.map fun z => (V.ref z.1, z))
  | [] => .nil
  | z :: M => .cons rfl (each_pairsN M)
section
variable {P : Program} {w : World}
/-- a set's table, without what stands at the keys' places -/
structure SetN0 (P : Program) (w : World) (h : Heap) (a : Addr) (L : List (Addr × NestedKey)) (vs : Array (Int × Value)) (n : Nat) (t : SetTable) : Prop where
  at_ : ∃ o, h.get? a = some o ∧ o.ExactSet ∧ o.data = .set vs n t
  ents : vs.toList = entH (nestedKind P w) L
  lay : TabW t (L.map fun z => (nestedKind P w).hash z.2)
  once : (L.map Prod.snd).Nodup
  told : w.params.followText "set-order" = true ∨ t.led = true
  loose : L.length * 5 < t.mask * 3
  small : L.length < 301
variable {h : Heap} {a : Addr} {L : List (Addr × NestedKey)} {vs : Array (Int × Value)} {n : Nat} {t : SetTable}
theorem SetH.bareN (R : SetH (nestedKind P w) h a L vs n t) : SetN0 P w h a L vs n t := ⟨R.at_, R.ents, R.lay, R.once, R.told, R.loose, R.small⟩
theorem SetN0.full (R : SetN0 P w h a L vs n t) (k : ∀ z ∈ L, (nestedKind P w).is h z.2 z.1) : SetH (nestedKind P w) h a L vs n t := ⟨R.at_, R.ents, R.lay, R.once, k, R.told, R.loose, R.small⟩
/-- the set of the keys of ks, at a -/
def KeySetN (P : Program) (w : World) (a : Addr) (ks : List (Addr × NestedKey)) : HO := .ext fun h => ∃ L vs n t, SetN0 P w h a L vs n t ∧ Has ks ks.length L
theorem refs_valN : ∀ {ks : List (Addr × NestedKey)} {us : List Value}, Vals (ks.map fun z => V.ref z.1) us → us = ks.map fun z => Value.ref z.1
  | [], _, .nil => rfl
  | z :: ks, _, .cons r t => by
    have e := refs_valN t
    cases r
    rw [e]; rfl
theorem val_refsN : ∀ ks : List (Addr × NestedKey), Vals (ks.map fun z => V.ref z.1) (ks.map fun z => Value.ref z.1)
  | [] => .nil
  | z :: ks => .cons rfl (val_refsN ks)
end
section
variable {X : Cx}
theorem key_atN {D : NestedKey → PyData} {pins : List (Addr × Obj)} {σ : L2.St} {H : Hp} {s : Shared} (I : L2.Inv X pins σ H s) {z : Addr × NestedKey} (h : NkAt X.K D H z) : (nestedKind X.prog X.w).is s.heap z.2 z.1 := by
  have a := nested_of I h.2.2.1 h.1 (u := .ref z.1) rfl
  rw [h.2.1] at a
  have b := nk_depth (D z.2)
  rw [h.2.1] at b
  exact ⟨a, Nat.le_trans b h.2.2.2⟩
def rSetN (D : NestedKey → PyData) (K : PySem.W.Frag) (P : Program) (w : World) : List V → Hp → VK → Prop := fun xs H Q => ∃ (l : Addr) (ks : List (Addr × NestedKey)), xs = [V.ref l] ∧ (SqL K H l (ks.map fun z => V.ref z.1) ∨ SqT K H l (ks.map fun z => V.ref z.1)) ∧ (∀ z ∈ ks, NkAt K D H z) ∧ ks.length < 301 ∧
  ∀ p, H p = none → Q (.ref p) (upd H p (KeySetN P w p ks))
theorem cr_setN {D : NestedKey → PyData} (hc : X.calm = true) (hu : X.A.units + 11 < cLine) : CallR X (.type "set") (rSetN D X.K X.prog X.w) := by
  intro pins s σ H vs us Q I r h
  obtain ⟨l, ks, rfl, hs, hk, hb, q⟩ := h
  rw [Vals.ref1 r]
  have hn : H s.heap.objs.size = none := I.hok.fresh (Nat.le_refl _)
  have keys : ∀ z ∈ ks, (nestedKind X.prog X.w).is s.heap z.2 z.1 := fun z hz => key_atN I (hk z hz)
  have fin : ∀ (h' : Heap) (tk : Nat) L vs m t, SetH (nestedKind X.prog X.w) h' s.heap.objs.size L vs m t → Has ks ks.length L → (∀ b o, s.heap.get? b = some o → h'.get? b = some o) →
      ∃ y H', Inv X pins σ H' { s with heap := h', toks := tk } ∧ RelV y (Value.ref s.heap.objs.size) ∧ Q y H' := fun h' tk L vs m t R g kp => by
    refine ⟨.ref s.heap.objs.size, upd H s.heap.objs.size (KeySetN X.prog X.w s.heap.objs.size ks), I.laid (t' := tk) kp (Nat.le_refl _) ⟨⟨L, vs, m, t, R.bareN, g⟩, ?_, ?_⟩, rfl, q _ hn⟩
    · obtain ⟨o, e, _⟩ := R.at_
      exact ⟨o, e⟩
    · rintro h1 h2 ⟨L, vs, m, t, R, g⟩ e
      obtain ⟨o, e1, e2⟩ := R.at_
      exact ⟨L, vs, m, t, ⟨⟨o, e o e1, e2⟩, R.ents, R.lay, R.once, R.told, R.loose, R.small⟩, g⟩
  rcases hs with hs | hs
  · obtain ⟨its, rv, hl, _⟩ := I.list hs
    exact set_of_keys (P := X.prog) (w := X.w) nkind_ok (I.ok.hd hc) hl.isList (refs_valN rv) keys hb (show X.A.units + 1 + 1 + 1 + 8 < cLine by omega) fin
  · obtain ⟨its, rv, hl, _⟩ := I.tuple hs
    exact set_of_keysT (P := X.prog) (w := X.w) nkind_ok (I.ok.hd hc) hl (refs_valN rv) keys hb (show X.A.units + 1 + 1 + 1 + 8 < cLine by omega) fin
def rSortN (D : NestedKey → PyData) (K : PySem.W.Frag) (P : Program) (w : World) : List V → Hp → VK → Prop := fun xs H Q => ∃ (a : Addr) (ks : List (Addr × NestedKey)), xs = [V.ref a] ∧ H a = some (KeySetN P w a ks) ∧ (∀ z ∈ ks, NkAt K D H z) ∧ AllAlike (ks.map fun z => D z.2) ∧ Sortable (ks.map fun z => D z.2) ∧
  ∀ (L zs : List (Addr × NestedKey)) p, Has ks ks.length L → (L.map Prod.snd).Nodup → zs.Perm L → (zs.map fun z => D z.2) = (L.map fun z => D z.2).mergeSort leD → H p = none → Q (.ref p) (upd H p (.lst (zs.map fun z => V.ref z.1)))
theorem cr_sortN {D : NestedKey → PyData} (hc : X.calm = true) (hu : X.A.units + 64 < cLine) : CallR X (.builtin "sorted") (rSortN D X.K X.prog X.w) := by
  intro pins s σ H vs us Q I r h
  obtain ⟨a, ks, rfl, ha, hk, al, so, q⟩ := h
  obtain ⟨⟨L, tv, m, t, R0, g⟩, _⟩ := I.hok a _ ha
  rw [Vals.ref1 r]
  have sub : ∀ z ∈ L, z ∈ ks := fun z hz => List.mem_of_mem_take (g.of z hz)
  have R := R0.full fun z hz => key_atN I (hk z (sub z hz))
  obtain ⟨o, g1, g2, g3⟩ := R.at_
  have len := ent_len R.ents
  have sm := R.small
  refine Calls.call_function_entry kind_sorted plain_sorted entry_sorted (args_sorted1 _) ?_
  unfold Builtin.«sorted»
  refine wpAny_bind (m := checkCount "sorted" 1 1 _) (wpAny_pure ?_)
  refine wpAny_bind (collect_set (A := X.A.in1) (I.ok.hd hc) ⟨o, g1, g2.1, g3⟩ R.fits (by unfold scanBound; omega) R.lay.ris R.told fun s1 us k1 hz gs o1 pm => ?_)
  have e1 : tv.toList.map (·.2) = L.map fun z => Value.ref z.1 := by
    rw [R.ents]; unfold entH; rw [List.map_map]; rfl
  rw [e1] at pm
  obtain ⟨M, pM, rfl⟩ := map_of_perm _ pm L rfl
  have subM : ∀ z ∈ M, z ∈ ks := fun z hz => sub z (pM.mem_iff.mp hz)
  have hlen : (M.map fun z => Value.ref z.1).length ≤ sizeLine := by rw [List.length_map, pM.length_eq, sizeLine_eq]; omega
  have dps : ∀ N : List (Addr × NestedKey), (∀ z ∈ N, z ∈ ks) → DpAll X.K H (N.map fun z => V.ref z.1) (N.map fun z => D z.2) := by
    intro N
    induction N with
    | nil => exact fun _ => .nil
    | cons z N ih => exact fun hN =>  .cons (hk z (hN z List.mem_cons_self)).1 (ih fun y hy => hN y (List.mem_cons_of_mem _ hy))
  have alM : AllAlike (M.map fun z => D z.2) := fun d hd e he => by
    obtain ⟨z, hz, rfl⟩ := List.mem_map.mp hd
    obtain ⟨y, hy, rfl⟩ := List.mem_map.mp he
    exact al _ (List.mem_map.mpr ⟨z, subM z hz, rfl⟩) _ (List.mem_map.mpr ⟨y, subM y hy, rfl⟩)
  have soM : Sortable (M.map fun z => D z.2) := by
    have up : ∀ d ∈ M.map (fun z => D z.2), d ∈ ks.map fun z => D z.2 := fun d hd => by
      obtain ⟨z, hz, rfl⟩ := List.mem_map.mp hd
      exact List.mem_map.mpr ⟨z, subM z hz, rfl⟩
    exact so.imp (fun h d hd => h d (up d hd)) fun h d hd => h d (up d hd)
  obtain ⟨as, hr⟩ := Dp.readsAll I _ _ _ (dps M subM) (val_refsN M)
  refine wpAny_bind (wpAny_newList ?_ hlen)
  have hoL : (s1.heap.push (seqObj "list" (M.map fun z => Value.ref z.1).toArray 0)).get? s1.heap.objs.size = some (seqObj "list" (M.map fun z => Value.ref z.1).toArray 0) := Heap.get?_push_size _ rfl
  have old : ∀ b u, s.heap.get? b = some u → (sortingHeap (s1.heap.push (seqObj "list" (M.map fun z => Value.ref z.1).toArray 0)) s1.heap.objs.size (M.map fun z => Value.ref z.1)).get? b = some u := fun b u e => by
    have e2 := k1 b u e
    exact sortingHeap_old (Nat.ne_of_lt (Heap.lt_size e2)) (Heap.get?_push_of_some _ e2)
  have hr2 := PyProof.Rows.ReadsAll.keeps old hr
  generalize hh : sortingHeap (s1.heap.push (seqObj "list" (M.map fun z => Value.ref z.1).toArray 0)) s1.heap.objs.size (M.map fun z => Value.ref z.1) = h2 at hr2
  have hS : ∀ d ∈ M.map (fun z => D z.2), X.A.in1.in1.units + d.depth < cLine := fun d hd => by
    obtain ⟨z, hz, rfl⟩ := List.mem_map.mp hd
    have := (hk z (subM z hz)).2.2.2
    show X.A.units + 1 + 1 + _ < cLine
    omega
  refine wpAny_bind (wpAny_holding (wpAny_call_entry slot_list_sort ⟨_, hoL, rfl⟩ entry_list_sort (PySem.W.list_sort_vals (κ := dataKind h2 (M.map fun z => D z.2)) (s := { s1 with heap := s1.heap.push (seqObj "list" (M.map fun z => Value.ref z.1).toArray 0) }) hoL (by rw [hh]; exact PySem.W.SortsAt.data (s := { s1 with heap := h2 }) (each_reads hr2) alM soM hS) hlen ⟨_, rfl, ?_⟩) (args_list_sort _)))
  · have e2 := each_pairsN M
    have hk2 : EachIs (fun (v : Value) (b : V × (Addr × NestedKey)) => (dataKind h2 (M.map fun z => D z.2)).keyOf v = some (keyToks (D b.2.2))) (M.map fun z => Value.ref z.1) (M.map fun z => (V.ref z.1, z)) := by
      have all : ∀ (N : List (Addr × NestedKey)) {as : List Addr}, (∀ z ∈ N, z ∈ M) → ReadsAll h2 (N.map fun z => Value.ref z.1) (N.map fun z => D z.2) as → EachIs (fun (v : Value) (b : V × (Addr × NestedKey)) => (dataKind h2 (M.map fun z => D z.2)).keyOf v = some (keyToks (D b.2.2))) (N.map fun z => Value.ref z.1) (N.map fun z => (V.ref z.1, z)) := by
        intro N
        induction N with
        | nil => exact fun _ _ => .nil
        | cons z N ih =>
          intro as hN hrN
          cases hrN with
          | cons a b => exact .cons (PySem.W.dataKind_some alM (List.mem_map.mpr ⟨z, hN z List.mem_cons_self, rfl⟩) a) (ih (fun y hy => hN y (List.mem_cons_of_mem _ hy)) b)
      exact all M (fun _ h => h) hr2
    have e3 := PySem.W.sortVals_each (κ := dataKind h2 (M.map fun z => D z.2)) (rev := false) (ks := M.map fun z => Value.ref z.1) (fun b : V × (Addr × NestedKey) => keyToks (D b.2.2)) e2 hk2
    obtain ⟨c, hc2⟩ := sortedHeap_at (vs := M.map fun z => Value.ref z.1) (out := (PySem.W.sortVals (dataKind h2 (M.map fun z => D z.2)) false (M.map fun z => Value.ref z.1) (M.map fun z => Value.ref z.1)).toArray) hoL
    generalize PySem.W.sortVals (dataKind h2 (M.map fun z => D z.2)) false (M.map fun z => Value.ref z.1) (M.map fun z => Value.ref z.1) = out at e3 hc2 ⊢
    have ps : ((M.map fun z => (V.ref z.1, z)).mergeSort (sortLe (dataKind h2 (M.map fun z => D z.2)).toKeyOrd false fun b : V × (Addr × NestedKey) => keyToks (D b.2.2))).Perm (M.map fun z => (V.ref z.1, z)) := List.mergeSort_perm _ _
    have ms : ((M.map fun z => (V.ref z.1, z)).mergeSort (sortLe (dataKind h2 (M.map fun z => D z.2)).toKeyOrd false fun b : V × (Addr × NestedKey) => keyToks (D b.2.2))).map (fun b => D b.2.2) = ((M.map fun z => (V.ref z.1, z)).map fun b => D b.2.2).mergeSort leD :=
      PySem.W.sort_maps (s := leD) (fun b : V × (Addr × NestedKey) => D b.2.2) fun p _ q _ => rfl
    generalize (M.map fun z => (V.ref z.1, z)).mergeSort (sortLe (dataKind h2 (M.map fun z => D z.2)).toKeyOrd false fun b : V × (Addr × NestedKey) => keyToks (D b.2.2)) = W at e3 ps ms
    have kp : ∀ b u, s.heap.get? b = some u → (sortedHeap (s1.heap.push (seqObj "list" (M.map fun z => Value.ref z.1).toArray 0)) s1.heap.objs.size (M.map fun z => Value.ref z.1) out.toArray).get? b = some u := fun b u e => by
      have e2 := k1 b u e
      have lt := Heap.lt_size e2
      rw [sortedHeap_old (Nat.ne_of_lt lt) (by rw [size_push']; exact Nat.lt_succ_of_lt lt)]
      exact Heap.get?_push_of_some _ e2
    generalize sortedHeap (s1.heap.push (seqObj "list" (M.map fun z => Value.ref z.1).toArray 0)) s1.heap.objs.size (M.map fun z => Value.ref z.1) out.toArray = h3 at kp hc2 ⊢
    have hn : H s1.heap.objs.size = none := I.hok.fresh hz
    have hv := vals_fst e3
    have e4 : W.map Prod.fst = (W.map Prod.snd).map fun z => V.ref z.1 := by
      rw [List.map_map]
      refine List.map_congr_left fun b hb => ?_
      obtain ⟨z, _, rfl⟩ := List.mem_map.mp (ps.mem_iff.mp hb)
      rfl
    have e5 : (W.map Prod.snd).Perm M := by
      have := ps.map Prod.snd
      rw [List.map_map] at this
      exact this.trans (by rw [show (Prod.snd ∘ fun z : Addr × NestedKey => (V.ref z.1, z)) = id from rfl, List.map_id])
    have e6 : ((W.map Prod.snd).map fun z => D z.2) = (M.map fun z => D z.2).mergeSort leD := by
      rw [List.map_map]
      refine ms.trans ?_
      rw [List.map_map]; rfl
    have small : (W.map Prod.fst).length ≤ sizeLine := by
      rw [List.length_map, ps.length_eq, List.length_map, pM.length_eq, sizeLine_eq]; omega
    have J : Inv X pins σ (upd H s1.heap.objs.size (.lst (W.map Prod.fst))) { s with heap := h3, gens := s1.gens, drawn := s1.drawn, toks := s1.toks } :=
      I.call (ch := []) (Un.laid kp hz hn) (I.hok.laid kp hz ⟨small, _, c, hv, hc2⟩) (by rw [gs]; exact I.bare) (fun _ z => nomatch z)
    have es : ({ s1 with heap := h3 } : Shared) = { s with heap := h3, gens := s1.gens, drawn := s1.drawn, toks := s1.toks } := by
      cases s1; cases s; cases o1; rfl
    refine wpAny_pure ⟨_, rfl, .ref s1.heap.objs.size, _, ?_, rfl, q M (W.map Prod.snd) s1.heap.objs.size ⟨fun z hz => g.of z (pM.mem_iff.mp hz), fun z hz => (pM.map Prod.snd).mem_iff.mpr (g.all z hz), by rw [pM.length_eq]; exact g.len⟩ ((pM.map Prod.snd).nodup_iff.mpr R.once) e5 e6 hn⟩
    rw [← e4]
    exact es ▸ J
end
end Ag

set_option Elab.async false
set_option linter.all false
set_option maxRecDepth 100000
set_option maxHeartbeats 2000000
/-! sorted(set(list of nested tuples)), as data. -/
namespace Ag
open PySem PySem.Spec PyProof.Rows L2
open PySem.W (AllAlike Sortable alike alikeAll)
mutual
theorem nk_inj : ∀ {d e : PyData}, tupD d = true → tupD e = true → alike d e = true → nk d = nk e → d = e
  | .none, .none, _, _, _, _ => rfl
  | .bool a, .bool b, _, _, _, h => by
    simp only [nk, NestedKey.num.injEq] at h
    cases a <;> cases b <;> first | rfl | (simp at h)
  | .int a, .int b, _, _, _, h => by simp only [nk, NestedKey.num.injEq] at h; rw [h]
  | .str a, .str b, _, _, _, h => by simp only [nk, NestedKey.text.injEq] at h; rw [h]
  | .tuple as, .tuple bs, ha, hb, al, h => by
    simp only [nk, NestedKey.tup.injEq] at h
    rw [tupD] at ha hb
    rw [alike] at al
    rw [nks_inj ha hb al h]
  | .list _, _, ha, _, _, _ => by rw [tupD] at ha; cases ha
  | .dict _, _, ha, _, _, _ => by rw [tupD] at ha; cases ha
  | .none, .bool _, _, _, al, _ | .none, .int _, _, _, al, _ | .none, .str _, _, _, al, _ | .none, .tuple _, _, _, al, _ => by simp [alike] at al
  | .bool _, .none, _, _, al, _ | .bool _, .int _, _, _, al, _ | .bool _, .str _, _, _, al, _ | .bool _, .tuple _, _, _, al, _ => by simp [alike] at al
  | .int _, .none, _, _, al, _ | .int _, .bool _, _, _, al, _ | .int _, .str _, _, _, al, _ | .int _, .tuple _, _, _, al, _ => by simp [alike] at al
  | .str _, .none, _, _, al, _ | .str _, .bool _, _, _, al, _ | .str _, .int _, _, _, al, _ | .str _, .tuple _, _, _, al, _ => by simp [alike] at al
  | .tuple _, .none, _, _, al, _ | .tuple _, .bool _, _, _, al, _ | .tuple _, .int _, _, _, al, _ | .tuple _, .str _, _, _, al, _ => by simp [alike] at al
  | .none, .list _, _, hb, _, _ | .bool _, .list _, _, hb, _, _ | .int _, .list _, _, hb, _, _ | .str _, .list _, _, hb, _, _ | .tuple _, .list _, _, hb, _, _ => by rw [tupD] at hb; cases hb
  | .none, .dict _, _, hb, _, _ | .bool _, .dict _, _, hb, _, _ | .int _, .dict _, _, hb, _, _ | .str _, .dict _, _, hb, _, _ | .tuple _, .dict _, _, hb, _, _ => by rw [tupD] at hb; cases hb
theorem nks_inj : ∀ {as bs : List PyData}, tupDs as = true → tupDs bs = true → alikeAll as bs = true → nks as = nks bs → as = bs
  | [], [], _, _, _, _ => rfl
  | [], _ :: _, _, _, _, h => by simp [nks] at h
  | _ :: _, [], _, _, _, h => by simp [nks] at h
  | a :: as, b :: bs, ha, hb, al, h => by
    rw [tupDs, Bool.and_eq_true] at ha hb
    rw [alikeAll, Bool.and_eq_true] at al
    simp only [nks, List.cons.injEq] at h
    rw [nk_inj ha.1 hb.1 al.1 h.1, nks_inj ha.2 hb.2 al.2 h.2]
end
/-- which of some data has this key -/
def backD (ds : List PyData) (k : NestedKey) : PyData := (ds.find? fun d => decide (nk d = k)).getD .none
theorem back_at {ds : List PyData} (al : AllAlike ds) (tp : ∀ d ∈ ds, tupD d = true) {d : PyData} (h : d ∈ ds) : backD ds (nk d) = d := by
  unfold backD
  cases e : ds.find? fun e => decide (nk e = nk d) with
  | none => exact absurd (List.find?_eq_none.mp e d h) (by simp)
  | some y =>
    have hy := List.mem_of_find?_eq_some e
    have hk := of_decide_eq_true (List.find?_some (p := fun e => decide (nk e = nk d)) e)
    exact nk_inj (tp y hy) (tp d h) (al y hy d h) hk
section
variable {P : Program} {w : World} {K : PySem.W.Frag}
theorem tup_refs {F : Addr → Prop} {H : Hp} : ∀ {vs : List V} {ds : List PyData}, DfAll K F H vs ds → (∀ d ∈ ds, ∃ es, d = .tuple es) → ∃ zs : List (Addr × PyData), vs = zs.map (fun z => V.ref z.1) ∧ ds = zs.map Prod.snd ∧ ∀ z ∈ zs, Dp K H (.ref z.1) z.2
  | _, _, .nil, _ => ⟨[], rfl, rfl, fun z hz => absurd hz List.not_mem_nil⟩
  | _, _, .cons (d := d) a r, h => by
    obtain ⟨zs, e1, e2, e3⟩ := tup_refs r fun d hd => h d (List.mem_cons_of_mem _ hd)
    obtain ⟨es, rfl⟩ := h d List.mem_cons_self
    have ad := df_dp a
    cases ad with
    | tup q y => exact ⟨(_, .tuple es) :: zs, by rw [e1]; rfl, by rw [e2]; rfl, fun z hz => (List.mem_cons.mp hz).elim (fun e => by rw [e]; exact .tup q y) (e3 z)⟩
def rSetNE (K : PySem.W.Frag) (P : Program) (w : World) : List V → Hp → VK → Prop := fun xs H Q => ∃ D, rSetN D K P w xs H Q
def rSortNE (K : PySem.W.Frag) (P : Program) (w : World) : List V → Hp → VK → Prop := fun xs H Q => ∃ D, rSortN D K P w xs H Q
theorem cr_setNE {X : Cx} (hc : X.calm = true) (hu : X.A.units + 11 < cLine) : CallR X (.type "set") (rSetNE X.K X.prog X.w) := fun pins s σ H vs us Q I r ⟨_, h⟩ => cr_setN hc hu pins s σ H vs us Q I r h
theorem cr_sortNE {X : Cx} (hc : X.calm = true) (hu : X.A.units + 64 < cLine) : CallR X (.builtin "sorted") (rSortNE X.K X.prog X.w) := fun pins s σ H vs us Q I r ⟨_, h⟩ => cr_sortN hc hu pins s σ H vs us Q I r h
/-- sorted(set(..)) of nested tuples -/
theorem run_sortsetN {te : TE} {σ : L2.St} {F : Addr → Prop} {H : Hp} {ds : List PyData} {Q : VK} (h : ED K te σ F H (.list ds)) (al : AllAlike ds) (tp : ∀ d ∈ ds, tupD d = true) (dp : ∀ d ∈ ds, d.depth ≤ 8) (ne : ∀ d ∈ ds, ∃ x r, d = .tuple (x :: r)) (ln : ds.length < 301)
    (k : ∀ q vs es H', Same H H' → H' q = some (.lst vs) → DpAll K H' vs es → (∀ e, e ∈ es ↔ e ∈ ds) → es.length ≤ ds.length → Q (.ref q) H') :
    tCB (rSortNE K P w) (tCons (tCB (rSetNE K P w) (tCons te tNil)) tNil) σ H Q := by
  refine h H (Same.refl _) _ fun v H1 s1 hv => ?_
  cases hv with
  | lst q y =>
    obtain ⟨zs, e1, e2, e3⟩ := tup_refs y fun d hd => by obtain ⟨x, r, e⟩ := ne d hd; exact ⟨_, e⟩
    have mz : ∀ z ∈ zs, z.2 ∈ ds := fun z hz => by rw [e2]; exact List.mem_map.mpr ⟨z, hz, rfl⟩
    have zl : zs.length = ds.length := by rw [e2, List.length_map]
    have nkz : ∀ H', Same H1 H' → ∀ z ∈ zs.map (fun z => (z.1, nk z.2)), NkAt K (backD ds) H' z := fun H' s z hz => by
      obtain ⟨y, hy, rfl⟩ := List.mem_map.mp hz
      have b := back_at al tp (mz y hy)
      show Dp K H' (.ref y.1) (backD ds (nk y.2)) ∧ _
      rw [b]
      exact ⟨dp_mono s (e3 y hy), rfl, tp _ (mz y hy), dp _ (mz y hy)⟩
    have em : (zs.map fun z => (z.1, nk z.2)).map (fun z : Addr × NestedKey => backD ds z.2) = ds := by
      rw [List.map_map]
      have : zs.map ((fun z : Addr × NestedKey => backD ds z.2) ∘ fun z : Addr × PyData => (z.1, nk z.2)) = zs.map Prod.snd := List.map_congr_left fun z hz => back_at al tp (mz z hz)
      rw [this, e2]
    refine ⟨backD ds, _, zs.map fun z => (z.1, nk z.2), rfl, .inl (by rw [List.map_map]; exact (q.imp (fun z => z.1) id).imp (fun z => by rw [e1] at z; exact z) fun z => by rw [e1] at z; exact z), nkz H1 (Same.refl _), by rw [List.length_map, zl]; exact ln, fun p hp => ?_⟩
    have s2 := Same.newA (o := KeySetN P w p (zs.map fun z => (z.1, nk z.2))) hp
    refine ⟨backD ds, p, zs.map fun z => (z.1, nk z.2), rfl, upd_same, nkz _ s2, by rw [em]; exact al, by rw [em]; exact .inl ne, fun L xs q' hs nd pm _ hq => ?_⟩
    have s3 := Same.newA (o := .lst (xs.map fun z => V.ref z.1)) hq
    have inz : ∀ x ∈ L, x ∈ zs.map fun z => (z.1, nk z.2) := fun x hx => List.mem_of_mem_take (hs.of x hx)
    refine k q' _ (xs.map fun z => backD ds z.2) _ (s1.trans (s2.trans s3)) upd_same ?_ (fun e => ?_) ?_
    · have all : ∀ ys : List (Addr × NestedKey), (∀ y ∈ ys, y ∈ zs.map fun z => (z.1, nk z.2)) → DpAll K (upd (upd H1 p (KeySetN P w p (zs.map fun z => (z.1, nk z.2)))) q' (.lst (xs.map fun z => V.ref z.1))) (ys.map fun z => V.ref z.1) (ys.map fun z => backD ds z.2) := by
        intro ys
        induction ys with
        | nil => exact fun _ => .nil
        | cons y ys ih => exact fun hy => .cons (nkz _ (s2.trans s3) y (hy y List.mem_cons_self)).1 (ih fun z hz => hy z (List.mem_cons_of_mem _ hz))
      exact all xs fun y hy => inz y (pm.mem_iff.mp hy)
    · constructor
      · intro he
        obtain ⟨y, hy, rfl⟩ := List.mem_map.mp he
        obtain ⟨z, hz, e⟩ := List.mem_map.mp (inz y (pm.mem_iff.mp hy))
        rw [← e]
        show backD ds (nk z.2) ∈ ds
        rw [back_at al tp (mz z hz)]; exact mz z hz
      · intro he
        rw [e2] at he
        obtain ⟨z, hz, rfl⟩ := List.mem_map.mp he
        have := hs.all (z.1, nk z.2) (by rw [List.take_length]; exact List.mem_map.mpr ⟨z, hz, rfl⟩)
        obtain ⟨y, hy, e⟩ := List.mem_map.mp this
        refine List.mem_map.mpr ⟨y, pm.mem_iff.mpr hy, ?_⟩
        rw [e]; exact back_at al tp (mz z hz)
    · rw [List.length_map, pm.length_eq]
      have := hs.len
      rw [List.length_map] at this
      omega
end
end Ag

set_option Elab.async false
set_option linter.all false
set_option maxRecDepth 100000
set_option maxHeartbeats 4000000
set_option pp.maxSteps 200
/-! {key: value for ..}, the keys tuples of numbers and texts. -/
namespace Ag
open PySem PySem.Spec PyProof.Rows L2
section
variable {X : Cx}
/-- a key that is a tuple is put -/
theorem put_tup {pn : List (Addr × Obj)} {σ : L2.St} {H : Hp} {s : Shared} {F : Value → Shared → Prop} {d b : Addr} {kv : List (List Key × V)} {k : List Key} {z : V} {r : Value} {Q : Unit → Shared → Prop} (hu : X.A.units < cLine) (I : L2.Inv X pn σ H s) (hd : H d = some (.dT kv)) (hb : H b = some (.tup (k.map kV)))
    (room : kv.length < sizeLine) (rz : RelV z r) (q : ∀ s', L2.Inv X pn σ (upd H d (.dT (putK kv k z))) s' → Q () s') : wpAny (model X.prog X.w) X.A (dictSet d (.ref b) r) Q F s := by
  obtain ⟨z1, z2, xs, rel, dd⟩ := dt_of I.hok hd
  have small : (putK kv k z).length ≤ sizeLine := Nat.le_trans (length_putK kv k z) room
  refine wpAny_dictSet_heap (hsz := by rw [← Paired.length rel]; exact z1) hu (key_of I.hok hb) dd fun h' dd' sb => q _ ?_
  obtain ⟨o, es, ep, e1, e2, e3, e4, _, e5⟩ := dd'
  refine d_write I (by rw [hd]; exact True.intro) sb ⟨o, e1⟩ ⟨small, z2, _, (rel.put k hb rz).keeps fun c ys ec => ?_, o, es, ep, e1, e2, e3, e4, e5⟩
  rw [upd_ne (ne_of ec hd (fun y => nomatch y))]; exact ec
/-- .. over wi: D is the new dict -/
def tDcT (wi : TI) (g : TG) (tt : TT) (tk tv : TE) (vs : List Nat) : TE := fun σ H Q => wi σ H fun J H1 => ∀ D, H1 D = none → ∃ W : Nat → Nat → Hp → Prop, (∃ m, W 0 m (upd H1 D (.dT []))) ∧ ∀ i m H2, W i m H2 →
  (J.stop i H2 ∧ Q (.ref D) H2) ∨ (J.go i H2 ∧ ∃ N : Hp → Prop, (∀ H3, N H3 → ∃ m', m' < m ∧ W (i + 1) m' H3) ∧ ∀ x H3, J.yld i H2 x H3 → g x (wipe σ vs) H3 fun σ2 H4 => wipe σ2 vs = wipe σ vs ∧ tt σ2 H4 fun b H5 =>
    if b = true then tk σ2 H5 fun y H6 => tv σ2 H6 fun z H7 => ∃ kv k c, y = .ref c ∧ H7 D = some (.dT kv) ∧ H7 c = some (.tup (k.map kV)) ∧ kv.length < sizeLine ∧ N (upd H7 D (.dT (putK kv k z))) else N H5)
theorem pe_dcT {kx vx tg it0 : Expr} {ifs : List Expr} {sc : Scope} {own : List (Str × Nat)} {pos : Pos} {wi : TI} {g : TG} {tt : TT} {tk tv : TE} (calm : X.calm = true) (nd : X.N.Nodup) (hu : X.A.units < cLine) (pi : PI X tg it0 wi) (bk : BlkOk X.N X.env.scope sc own)
    (pg : ∀ (s : Shared) (H : Hp) (C : Addr) (cl : List (Str × Addr)) (ws : List Addr), PG (X.blk s H sc (compEnvC sc cl C X.env) ws) tg g) (pt : ∀ (s : Shared) (H : Hp) (C : Addr) (cl : List (Str × Addr)) (ws : List Addr), PTs (X.blk s H sc (compEnvC sc cl C X.env) ws) ifs tt)
    (pk : ∀ (s : Shared) (H : Hp) (C : Addr) (cl : List (Str × Addr)) (ws : List Addr), PE (X.blk s H sc (compEnvC sc cl C X.env) ws) kx tk) (pv : ∀ (s : Shared) (H : Hp) (C : Addr) (cl : List (Str × Addr)) (ws : List Addr), PE (X.blk s H sc (compEnvC sc cl C X.env) ws) vx tv)
    (fold : ∀ x, foldedSetIterable it0 X.env x = pure x := by intro _; rfl) : PE X (.DictComp kx vx [⟨tg, it0, ifs, 0⟩] sc pos) (tDcT wi g tt tk tv (own.map (·.2))) := by
  refine ⟨fun pn s σ H Q I h => ?_⟩
  rw [arm_eval_DictComp]
  have caught : ∀ y ∈ sc.names, y.2 = .free → ∃ c, X.env.cells.lookup y.1 = some c := fun y hy e => (bk.free y hy e).elim (fun k => I.ok.has _ (.inl k)) fun k => I.ok.has _ (.inr k)
  refine wpAny_comprehension_free (use := none) rfl fold (closure_ok caught) bk.kind (fun y hy e => by rw [bk.uniq y hy, e]) (thn (pi.run pn s σ H _ I h) fun v1 s1 z1 => thn z1 fun v2 s2 z2 => ?_)
  obtain ⟨it, ws, tn, J, H2, rfl, I2, T, st2, f2, q⟩ := z2
  refine wpAny_newObj_type (newEnv_comp ?_)
  -- the dict, empty
  generalize hD : s2.heap.objs.size = D
  have freeD : H2 D = none := I2.hok.fresh (Nat.le_of_eq hD)
  obtain ⟨W, ⟨m0, w0⟩, turn⟩ := q D freeD
  generalize hA : ({ s2 with heap := s2.heap.push { cls := .type "dict", data := .dict #[] } } : Shared) = sA
  have hpA : sA.heap = s2.heap.push { cls := .type "dict", data := .dict #[] } := by rw [← hA]
  have IA : L2.Inv X pn σ (upd H2 D (.dT [])) sA := by
    rw [← hA]
    exact I2.laid (t' := s2.toks) (fun b o e => Heap.get?_push_of_some _ e) (Nat.le_of_eq hD) (by rw [← hD]; exact dt_empty s2.heap I2.big)
  have under : ∀ b ∈ ws, b < s2.heap.objs.size := fun b hb => let ⟨o, e, _⟩ := T.obj _ _ st2 b hb; Heap.lt_size e
  have fA : ∀ b ∈ ws, FpOk X pn (upd H2 D (.dT [])) b ∧ b < sA.heap.objs.size := fun b hb => by
    have lt := under b hb
    exact ⟨⟨by rw [upd_ne (by rw [← hD]; exact Nat.ne_of_lt lt)]; exact (f2 b hb).1, (f2 b hb).2⟩, by rw [hpA, Heap.size_push]; exact Nat.lt_succ_of_lt lt⟩
  have stA : tn 0 sA.heap := T.keep _ _ _ st2 fun b _ o e => by rw [hpA]; exact Heap.get?_push_of_some _ e
  have IB := block_start IA bk nd fA
  have nws : ∀ b ∈ ws, (upd H2 D (.dT [])) b = none := fun b hb => (fA b hb).1.1
  generalize upd H2 D (.dT []) = HA at IA IB w0 nws fA
  have hg := pg sA HA sA.heap.objs.size (cellsFrom (sA.heap.objs.size + 1) sc.names (cloFrom X.env.cells sc.names [])) ws
  have ht := pt sA HA sA.heap.objs.size (cellsFrom (sA.heap.objs.size + 1) sc.names (cloFrom X.env.cells sc.names [])) ws
  have hk := pk sA HA sA.heap.objs.size (cellsFrom (sA.heap.objs.size + 1) sc.names (cloFrom X.env.cells sc.names [])) ws
  have hv := pv sA HA sA.heap.objs.size (cellsFrom (sA.heap.objs.size + 1) sc.names (cloFrom X.env.cells sc.names [])) ws
  show codeAny _ _ (.compStart _ 0 _ _ (compEnvC sc (cellsFrom (sA.heap.objs.size + 1) sc.names (cloFrom X.env.cells sc.names [])) sA.heap.objs.size X.env)) (compPost _ X.A X.xe none _ (.ref D) sA.heap.objs.size) { sA with heap := pushCells (sA.heap.push { cls := .type "dict", data := .dict #[] }) sc.names }
  generalize hce : compEnvC sc (cellsFrom (sA.heap.objs.size + 1) sc.names (cloFrom X.env.cells sc.names [])) sA.heap.objs.size X.env = ce at IB hg ht hk hv ⊢
  have eL : ce.locals = sA.heap.objs.size := by subst hce; rfl
  generalize hB : ({ sA with heap := pushCells (sA.heap.push { cls := .type "dict", data := .dict #[] }) sc.names } : Shared) = sB at IB ⊢
  have stB : tn 0 sB.heap := T.keep _ _ _ stA fun b _ o e => by rw [← hB]; exact pushCells_keeps _ _ _ _ (Heap.get?_push_of_some _ e)
  have held : ∀ {τ : L2.St} {G : Hp} {u : Shared}, L2.Inv (X.blk sA HA sc ce ws) [] τ G u → (∀ b ∈ ws, G b = none) → ∀ b ∈ ws, FpOk (X.blk sA HA sc ce ws) [] G b := fun {τ G u} J nn b hb =>
    ⟨nn b hb, (J.ok.exf b hb).1, J.ok.exfs b hb, .inl hb, fun x c e => (J.ok.exf b hb).2 x c e, fun y hy => absurd (show y ∈ ([] : List (Addr × Obj)) ++ [] from hy) (by simp)⟩
  have loop : codeAny (model X.prog X.w) X.A (.compLoop (.DictComp kx vx [⟨tg, it0, ifs, 0⟩] sc pos) 0 (.ref it) (.ref D) ce) (compPost (model X.prog X.w) X.A X.xe none (fun v u => ∃ y G, L2.Inv X pn σ G u ∧ RelV y v ∧ Q y G) (.ref D) sA.heap.objs.size) sB := by
    refine compLoop_anyD (fun m u => ∃ i G, L2.Inv (X.blk sA HA sc ce ws) [] (wipe σ (own.map (·.2))) G u ∧ tn i u.heap ∧ (∀ b ∈ ws, G b = none) ∧ W i m G) ?_ m0 ⟨0, HA, IB, stB, nws, w0⟩
    rintro m u5 ⟨i, G5, J5, t5, n5, w5⟩
    rcases turn i m G5 w5 with ⟨stop, end_⟩ | ⟨go, N, hN, step⟩
    · refine thnF (T.done (X.blk sA HA sc ce ws) rfl rfl rfl calm i [] u5 _ G5 (fun _ _ => False) J5 (held J5 n5) t5 stop) fun r u6 ⟨er, J6⟩ => ?_
      subst er
      have J7 : L2.Inv X pn σ G5 u6 := IA.call' (ch := ws) J6.os J6.base J6.hok J6.bare fun b hb => let y := (fA b hb).1.2; ⟨y.2.2.1, y.1, y.2.2.2.1, y.2.2.2.2⟩
      have nC : G5 sA.heap.objs.size = none := eL ▸ (show G5 ce.locals = none from J6.free)
      obtain ⟨k, hk0, _⟩ := J6.loc
      have hk1 : u6.heap.Ns sA.heap.objs.size k := eL ▸ (show u6.heap.Ns ce.locals k from hk0)
      obtain ⟨y0, y1, _, y3, y4, y5⟩ := IA.fpOk (Nat.le_refl _) nC
      exact ⟨k, hk1, fun hh sb => ⟨.ref D, G5, J7.turned (t' := u6.toks) (fun b o hb e => (sb.2 b hb).trans e) y0 y1 y3 y4 y5, rfl, end_⟩⟩
    · refine thnF (T.item (X.blk sA HA sc ce ws) rfl rfl rfl calm i [] u5 _ G5 (fun _ _ => False) J5 (held J5 n5) t5 go) fun r u6 ⟨v, er, z6⟩ => ?_
      subst er
      refine thnF z6 fun _ u7 ⟨x, G7, J7, r7, y7, t7, n7⟩ => ?_
      refine thnF (hg.run _ u7 _ G7 x v _ (J7.pinned (held J7 n7) (T.obj _ _ t7)) r7 (step x G7 y7)) fun _ u8 ⟨τ8, G8, J8, wp8, q8⟩ => ?_
      refine thnF (ht.run _ u8 τ8 G8 _ J8 q8) fun b u9 ⟨G9, J9, q9⟩ => ?_
      have on : ∀ {u : Shared} {G : Hp}, L2.Inv (X.blk sA HA sc ce ws) ([] ++ pinsAt ws u7.heap) τ8 G u → N G → ∃ m', m' < m ∧ ∃ i G, L2.Inv (X.blk sA HA sc ce ws) [] (wipe σ (own.map (·.2))) G u ∧ tn i u.heap ∧ (∀ b ∈ ws, G b = none) ∧ W i m' G := fun {u G} J nx => by
        obtain ⟨m', lt, w'⟩ := hN G nx
        have pin : ∀ b ∈ ws, ∀ o, u7.heap.get? b = some o → u.heap.get? b = some o ∧ G b = none := fun b hb o e => by
          have y := J.pin (b, o) (List.mem_append_right _ (List.mem_append_right _ (mem_pinsAt hb e)))
          exact ⟨y.1, y.2.1⟩
        refine ⟨m', lt, i + 1, G, (J.unpinned (pins := [])).weak (by rw [← wp8, wipe_length]) (fun j c e => by rw [← wp8] at e; exact (wipe_some e).1), T.keep _ _ _ t7 fun b hb o e => (pin b hb o e).1, fun b hb => ?_, w'⟩
        obtain ⟨o, e, _⟩ := T.obj _ _ t7 b hb
        exact (pin b hb o e).2
      cases b with
      | false =>
        simp only [Bool.false_eq_true, if_false] at q9 ⊢
        exact on J9 q9
      | true =>
        simp only [if_true] at q9 ⊢
        refine thnF (hk.run _ u9 τ8 G9 _ J9 q9) fun v1 u10 ⟨y1, G10, J10, r10, q10⟩ => ?_
        refine thnF (hv.run _ u10 τ8 G10 _ J10 q10) fun v2 u11 ⟨y2, G11, J11, r11, kv, k, c, ec, e1, e2, room, nx⟩ => ?_
        subst ec
        cases (show v1 = Value.ref c from r10)
        exact put_tup (X := X.blk sA HA sc ce ws) hu J11 e1 e2 room r11 fun u12 J12 => on J12 nx
  exact codeAny_compStart_dict loop (T.self X.A 0 _ _ _ stB loop)
/-- over a tuple that stays -/
theorem dcT_tup {K : PySem.W.Frag} {a : Addr} {xs : List V} {g : TG} {tt : TT} {tk tv : TE} {vs : List Nat} {σ : L2.St} {H1 : Hp} {D : Addr} {Qd : Hp → Prop} (Pv : Nat → Hp → Prop) (h0 : Pv 0 (upd H1 D (.dT []))) (st : ∀ i H, i ≤ xs.length → Pv i H → SqT K H a xs)
    (turn : ∀ i x H, xs[i]? = some x → Pv i H → g x (wipe σ vs) H fun σ2 H4 => wipe σ2 vs = wipe σ vs ∧ tt σ2 H4 fun b H5 =>
      if b = true then tk σ2 H5 fun y H6 => tv σ2 H6 fun z H7 => ∃ kv k c, y = .ref c ∧ H7 D = some (.dT kv) ∧ H7 c = some (.tup (k.map kV)) ∧ kv.length < sizeLine ∧ Pv (i + 1) (upd H7 D (.dT (putK kv k z))) else Pv (i + 1) H5) (fin : ∀ H, Pv xs.length H → Qd H) :
    ∃ W : Nat → Nat → Hp → Prop, (∃ m, W 0 m (upd H1 D (.dT []))) ∧ ∀ i m H2, W i m H2 →
      ((Itt K a).stop i H2 ∧ Qd H2) ∨ ((Itt K a).go i H2 ∧ ∃ N : Hp → Prop, (∀ H3, N H3 → ∃ m', m' < m ∧ W (i + 1) m' H3) ∧ ∀ x H3, (Itt K a).yld i H2 x H3 → g x (wipe σ vs) H3 fun σ2 H4 => wipe σ2 vs = wipe σ vs ∧ tt σ2 H4 fun b H5 =>
        if b = true then tk σ2 H5 fun y H6 => tv σ2 H6 fun z H7 => ∃ kv k c, y = .ref c ∧ H7 D = some (.dT kv) ∧ H7 c = some (.tup (k.map kV)) ∧ kv.length < sizeLine ∧ N (upd H7 D (.dT (putK kv k z))) else N H5) := by
  refine ⟨fun i m H => m + i = xs.length ∧ Pv i H, ⟨xs.length, rfl, h0⟩, fun i m H ⟨e, p⟩ => ?_⟩
  have here := st i H (by omega) p
  cases m with
  | zero =>
    have e : i = xs.length := by omega
    subst e
    exact .inl ⟨⟨xs, here, Nat.le_refl _⟩, fin H p⟩
  | succ m =>
    have lt : i < xs.length := by omega
    refine .inr ⟨⟨xs, xs[i], here, List.getElem?_eq_getElem lt⟩, Pv (i + 1), fun H' p' => ⟨m, Nat.lt_succ_self _, by omega, p'⟩, fun x H' ⟨e1, e2⟩ => ?_⟩
    subst e1
    exact turn i x _ (e2 xs here) p
end
end Ag

set_option Elab.async false
set_option linter.all false
set_option maxRecDepth 100000
set_option maxHeartbeats 2000000
set_option pp.maxSteps 300
/-! enumerate of a tuple. -/
namespace Ag
open PySem PySem.Spec PyProof.Rows L2
set_option maxHeartbeats 4000000 in
theorem enum_newB {v : Value} {o : Obj} {Ok : Heap → Prop} (B : Begins v o Ok) :
    Meets (Builtin.«enumerate.__new__» ⟨[.type "enumerate", v], []⟩) (fun _ R z => Ok z.heap ∧
      R (.ok (.ret (.ref (z.heap.push o).objs.size))) { z with heap := (z.heap.push o).push { cls := .type "enumerate", data := .fields #[.none, .bool false, .ref z.heap.objs.size, rawInt 0, .none, .none] } }) :=
  .of_wp fun prog w A R z hz => by
    obtain ⟨hp, gn, dr, tk, sy⟩ := z; obtain ⟨hok, hz⟩ := hz; have hsub := sub_enumerate
    have itr : ∀ {A' : Around} {E : Value → Shared → Prop} {Q : Value → Shared → Prop}, Q (.ref hp.objs.size) ⟨hp.push o, gn, dr, tk, sy⟩ → wpAny (model prog w) A' (pyIter v) Q E ⟨hp, gn, dr, tk, sy⟩ := fun q => B.iter prog w _ _ ⟨hp, gn, dr, tk, sy⟩ _ hok q
    wp_walk using itr
    refine wpAny_stack_any fun stk => wpAny_pure ?_
    split
    · rename_i c _ _ _ _ _; cases (c == Value.type "enumerate") <;> (wp_walk using itr; exact ⟨_, rfl, hz⟩)
    · wp_walk using itr; exact ⟨_, rfl, hz⟩
section
variable {prog : Program} {w : World} {A : Around} {E : Value → Shared → Prop} {z : Shared}
/-- enumerate(t) -/
theorem enum_tup {t : Addr} {its : Array Value} {Q : Value → Shared → Prop} (ht : z.heap.IsTuple t its)
    (k : ∀ h', IsEnum h' (z.heap.objs.size + 1) z.heap.objs.size 0 .none → h'.IsTupleIter z.heap.objs.size t 0 → (∀ b o, z.heap.get? b = some o → h'.get? b = some o) → Q (.ref (z.heap.objs.size + 1)) { z with heap := h' }) :
    wpAny (model prog w) A (call (.type "enumerate") [.ref t]) Q E z := by
  have hn : (z.heap.push { cls := .type "tuple_iterator", data := .fields #[.ref t, .int 0 0] }).objs.size = z.heap.objs.size + 1 := Heap.size_push ..
  refine callType_new F.called_enumerate (by decide) (F.typeCall_enumerate_1 _) (F.newCall_enumerate_1 _) (fun o => F.args_object_init_2 o _) F.entry_enumerate_new (enum_newB (begins_tuple t its)) ⟨ht, ?_⟩
  show _ ∧ _; rw [hn]
  have en : IsEnum ((z.heap.push { cls := .type "tuple_iterator", data := .fields #[.ref t, .int 0 0] }).push { cls := .type "enumerate", data := .fields #[.none, .bool false, .ref z.heap.objs.size, rawInt 0, .none, .none] }) (z.heap.objs.size + 1) z.heap.objs.size 0 .none := by
    have q := Heap.get?_push_size (z.heap.push { cls := .type "tuple_iterator", data := .fields #[.ref t, .int 0 0] }) (o := { cls := .type "enumerate", data := .fields #[.none, .bool false, .ref z.heap.objs.size, rawInt 0, .none, .none] }) rfl
    rw [hn] at q; exact q
  exact ⟨⟨_, en, rfl⟩, k _ en ⟨_, Heap.get?_push_of_some _ (Heap.get?_push_size _ rfl), rfl, rfl⟩ fun b o q => Heap.get?_push_of_some _ (Heap.get?_push_of_some _ q)⟩
end
/-- the tuple at a, each item in a new pair with its place -/
def IteT (K : PySem.W.Frag) (a : Addr) : It :=
  ⟨fun i H => ∃ (xs : List V) (x : V), SqT K H a xs ∧ xs[i]? = some x, fun i H v H' => ∃ T x, v = .ref T ∧ H T = none ∧ H' = upd H T (.tup [.int (i : Nat), x]) ∧ ∀ xs, SqT K H a xs → xs[i]? = some x, fun i H => ∃ xs : List V, SqT K H a xs ∧ xs.length = i⟩
theorem turn_enumT {P : Program} {w : World} {K : PySem.W.Frag} {es : List Expr} {kk : Nat} {tpos : Pos} (a e it : Addr) :
    Turn P w K (.Tuple es kk tpos) (IteT K a) [e, it] e (fun i h => (∃ old, IsEnum h e it ((i : Nat) : Int) old) ∧ h.IsTupleIter it a i ∧ e ≠ it ∧ a ≠ it ∧ e ≠ a) where
  mem := List.mem_cons_self
  obj := fun i h st b hb => by
    obtain ⟨⟨old, he⟩, ⟨o, ho, hc, hd⟩, _⟩ := st
    rcases List.mem_cons.mp hb with q | q
    · subst q; exact ⟨_, he, fun v z => nomatch z⟩
    · rw [List.mem_singleton.mp q]; exact ⟨o, ho, fun v z => by rw [hd] at z; exact nomatch z⟩
  keep := fun i h h' st k => let ⟨⟨old, he⟩, hi, ne⟩ := st; ⟨⟨old, k e (by simp) _ he⟩, hi.at fun o z => k it (by simp) o z, ne⟩
  item := by
    intro X hP hw hK hc i pins s σ H E I fr st hg
    subst hP hw hK
    obtain ⟨⟨old, he⟩, hit, n1, n2, n3⟩ := st
    obtain ⟨xs, x, hq, hx⟩ := hg
    obtain ⟨its, rv, p, _⟩ := I.tuple hq
    obtain ⟨u, hu, ru⟩ := rv.get hx
    have le : e < s.heap.objs.size := Heap.lt_size he
    have li : it < s.heap.objs.size := by obtain ⟨_, q, _⟩ := hit; exact Heap.lt_size q
    have lt : i < its.toArray.size := by rw [List.size_toArray]; exact (List.getElem?_eq_some_iff.mp hu).1
    refine wpAny_pyNext_enum_itemD (Draws.tuple (A := X.A.in1) (show X.A.in1.handled = none from I.ok.hd hc) it a n2 its.toArray) he ⟨hit, p⟩ lt n1 (by simp [n1, n3]) fun y h1 tk hy ho hs hT hz hk => ?_
    have ey : y = u := by
      have hy : its.toArray[i]? = some y := hy
      rw [List.getElem?_toArray, hu] at hy; exact (Option.some.inj hy).symm
    subst ey
    refine ⟨_, rfl, wpAny_letOwnedTupleGo_enum (s := { s with heap := h1, toks := tk + 1 }) ho fun h2 he2 sb => ?_⟩
    have hT2 : h2.get? s.heap.objs.size = some { cls := .type "tuple", data := .seq #[.int i tk, y] } := (sb.2 _ (Nat.ne_of_gt le)).trans hT
    have new : ObjOk X.prog X.w (upd H s.heap.objs.size (.tup [.int (i : Nat), x])) h2 s.heap.objs.size (.tup [.int (i : Nat), x]) := ⟨(by show 2 ≤ sizeLine; decide), [.int i tk, y], .cons ⟨_, rfl⟩ (.cons ru .nil), ⟨_, hT2, rfl, _, rfl⟩⟩
    have I1 : Inv X pins σ (upd H s.heap.objs.size (.tup [.int (i : Nat), x])) { s with heap := h2, toks := tk + 1 } :=
      I.turnedNew (ch := [e, it]) (fun b ob hb q => (sb.2 b (fun z => hb (by rw [z]; exact List.mem_cons_self))).trans (hk b ob (fun z => hb (by rw [z]; exact List.mem_cons_self)) (fun z => hb (by rw [z]; exact List.mem_cons_of_mem _ List.mem_cons_self)) q)) fr (Nat.le_refl _) new
    refine ⟨.ref s.heap.objs.size, _, I1, rfl, ⟨_, x, rfl, I.hok.fresh (Nat.le_refl _), rfl, fun ys h => by rw [I.tuple_inj h hq]; exact hx⟩, ⟨⟨y, ?_⟩, hs.1.at fun o q => (sb.2 it (Ne.symm n1)).trans q, n1, n2, n3⟩, fun b hb => ?_⟩
    · rw [show ((i + 1 : Nat) : Int) = (i : Int) + 1 by omega]; exact he2
    · have hb' : b < s.heap.objs.size := by
        rcases List.mem_cons.mp hb with z | z
        · rw [z]; exact le
        · rw [List.mem_singleton.mp z]; exact li
      rw [upd_ne (Nat.ne_of_lt hb')]; exact (fr b hb).1
  done := by
    intro X hP hw hK hc i pins s σ H E I fr st hg
    subst hP hw hK
    obtain ⟨⟨old, he⟩, hit, n1, n2, n3⟩ := st
    obtain ⟨xs, hq, hx⟩ := hg
    obtain ⟨its, rv, p, _⟩ := I.tuple hq
    obtain ⟨f0, f1, _, f3, f4, f5⟩ := fr it (List.mem_cons_of_mem _ List.mem_cons_self)
    have hi : its.toArray.size = i := by rw [List.size_toArray, ← rv.length]; exact hx
    subst hi
    exact wpAny_pyNext_enum_endD (Draws.tuple (A := X.A.in1) (show X.A.in1.handled = none from I.ok.hd hc) it a n2 its.toArray) he ⟨hit, p⟩ fun h1 eb => ⟨rfl, I.turned (t' := s.toks) (fun b o hb q => eb b o hb q) f0 f1 f3 f4 f5⟩
  self := fun A i z Q E st q => by obtain ⟨⟨_, he⟩, _⟩ := st; exact wpAny_pyIter_enum he q
/-- enumerate(tuple) -/
def iEnT (K : PySem.W.Frag) (ta : TA) : TI := fun σ H R => ta σ H fun vs H1 => ∃ a xs, vs = [.ref a] ∧ SqT K H1 a xs ∧ R (IteT K a) H1
theorem pi_enumT {X : Cx} {e : Expr} {ta : TA} {p pos tpos : Pos} {es : List Expr} {kk : Nat} (hg : Gl X "enumerate") (hm : X.mg "enumerate" = none) (ha : PA X [e] ta) (hs : starEach [e] X.env = [(false, eval e X.env)] := by rfl) :
    PI X (.Tuple es kk tpos) (.Call (.Name "enumerate" p) [e] [] pos) (iEnT X.K ta) := by
  refine ⟨fun pins s σ H R I h => Call_ (ld_blt I hg hm boot_enumerate (PyProof.Rows.callWith_type1 (thn (ha.run pos pins s σ H _ I h) fun us z ⟨vs, H1, I1, r1, q1⟩ => ?_) hs rfl))⟩
  obtain ⟨a, xs, rfl, hq, q⟩ := q1
  obtain ⟨u, rfl, r⟩ := r1.one
  cases r
  obtain ⟨its, rv, p, hz⟩ := I1.tuple hq
  have hlt : a < z.heap.objs.size := by obtain ⟨o, ho, _⟩ := id p; exact Heap.lt_size ho
  refine enum_tup p fun h' he hit hk => wpAny_pyIter_enum he ?_
  have I2 : Inv X pins σ H1 { z with heap := h' } := I1.kept (t' := z.toks) hk
  refine ⟨z.heap.objs.size + 1, [z.heap.objs.size + 1, z.heap.objs.size], _, _, H1, rfl, I2, turn_enumT a (z.heap.objs.size + 1) z.heap.objs.size, ⟨⟨.none, he⟩, hit, Nat.succ_ne_self _, Nat.ne_of_lt hlt, Nat.ne_of_gt (Nat.lt_succ_of_lt hlt)⟩, fun b hb => ?_, q⟩
  have le : z.heap.objs.size ≤ b := by
    rcases List.mem_cons.mp hb with q | q
    · rw [q]; exact Nat.le_succ _
    · rw [List.mem_singleton.mp q]; exact Nat.le_refl _
  exact I1.fpOk le (I1.hok.fresh le)
end Ag

set_option Elab.async false
set_option linter.all false
set_option maxRecDepth 100000
set_option maxHeartbeats 2000000
/-! A dict comprehension over anything that is walked. -/
namespace Ag
open PySem PySem.Spec PyProof.Rows L2
theorem dc_it {J : It} {n : Nat} {G : Hp → Prop} {Y : Nat → Hp → V → Hp → Prop} (wk : Walk J n G Y) {g : TG} {tt : TT} {tk tv : TE} {vs : List Nat} {σ : L2.St} {H0 : Hp} {D : Addr} {Qd : Hp → Prop} (Pv : Nat → Hp → Prop) (p0 : Pv 0 (upd H0 D (.dK []))) (stands : ∀ i H, i ≤ n → Pv i H → G H)
    (turn : ∀ i x H H', i < n → Pv i H → Y i H x H' → g x (wipe σ vs) H' fun σ2 H2 => wipe σ2 vs = wipe σ vs ∧ tt σ2 H2 fun b H3 =>
      if b = true then tk σ2 H3 fun y H4 => tv σ2 H4 fun z H5 => ∃ kvs k, y = kV k ∧ H5 D = some (.dK kvs) ∧ kvs.length < sizeLine ∧ Pv (i + 1) (upd H5 D (.dK (putK kvs k z))) else Pv (i + 1) H3) (last : ∀ H, Pv n H → Qd H) :
    ∃ W : Nat → Nat → Hp → Prop, (∃ m, W 0 m (upd H0 D (.dK []))) ∧ ∀ i m H, W i m H →
      (J.stop i H ∧ Qd H) ∨ (J.go i H ∧ ∃ Nx : Hp → Prop, (∀ H', Nx H' → ∃ m', m' < m ∧ W (i + 1) m' H') ∧ ∀ x H', J.yld i H x H' → g x (wipe σ vs) H' fun σ2 H2 => wipe σ2 vs = wipe σ vs ∧ tt σ2 H2 fun b H3 =>
        if b = true then tk σ2 H3 fun y H4 => tv σ2 H4 fun z H5 => ∃ kvs k, y = kV k ∧ H5 D = some (.dK kvs) ∧ kvs.length < sizeLine ∧ Nx (upd H5 D (.dK (putK kvs k z))) else Nx H3) := by
  refine ⟨fun i m H => m + i = n ∧ Pv i H, ⟨n, by simp, p0⟩, fun i m H ⟨e, p⟩ => ?_⟩
  have q := stands i H (by omega) p
  cases m with
  | zero =>
    have e : i = n := by omega
    subst e
    exact .inl ⟨wk.stops H q, last H p⟩
  | succ m => exact .inr ⟨wk.goes i H (by omega) q, Pv (i + 1), fun H' p' => ⟨m, Nat.lt_succ_self _, by omega, p'⟩, fun x H' y => turn i x H H' (by omega) p (wk.yields i H x H' (by omega) q y)⟩
/-- tuple(x) -/
abbrev tupR (K : PySem.W.Frag) : List V → Hp → VK → Prop := fun xs H Q => ∃ p ys, xs = [.ref p] ∧ ((SqL K H p ys ∧ ∀ l, H l = none → Q (.ref l) (upd H l (.tup ys))) ∨ (SqT K H p ys ∧ Q (.ref p) H))
end Ag

set_option Elab.async false
set_option linter.all false
set_option maxRecDepth 100000
set_option maxHeartbeats 4000000
set_option pp.maxSteps 1000
namespace Ag
open PySem PySem.Spec PyProof.Rows L2
open PySem.W (AllAlike Sortable alike alikeAll)
theorem u65 {k : Nat} {A : Around} (r : Room k A) : A.units + 65 < cLine := by have := r.un; omega
theorem u11 {k : Nat} {A : Around} (r : Room k A) : A.units + 11 < cLine := by have := r.un; omega
theorem pe_ixD {X : Cx} {K : PySem.W.Frag} {o e : Expr} {to te : TE} {apos cpos : Pos} (hK : X.K = K) (hu : X.A.units + 65 < cLine) (ho : PE X o to) (he : PE X e te)
    (hbase : attributeBase o "index" X.env (eval o X.env) = eval o X.env := by rfl)
    (hfew : ((backTo cpos (starEach [e] X.env)).all (fun x => !x.1) && (backToKw cpos (keywordEach [] X.env)).all (fun x => x.1.isSome)
      && decide ([e].length + ([] : List Keyword).length + (if ([] : List Keyword).isEmpty then 0 else 1) < 30)) = true := by rfl)
    (hline : (apos.endLine == cpos.line) = true := by rfl) (hs : starEach [e] X.env = (false, eval e X.env) :: starEach [] X.env := by rfl) (hplain : (backTo cpos (starEach [] X.env)).any (·.1) = false := by rfl) :
    PE X (.Call (.Attribute o "index" apos) [e] [] cpos) (tBM K "list" (rIndexD K) to (tCons te tNil)) := by
  subst hK
  exact pe_bm PySem.F.plainAttrs_list PySem.F.slot_list_index PySem.F.type_list_index (mt_indexD hu) ho (pa_cons he pa_nil hs) hbase hfew hline hs hplain
/-! ### kinds -/
theorem alikeAll_of : ∀ {as bs : List PyData}, (∀ a ∈ as, ∀ b ∈ bs, alike a b = true) → alikeAll as bs = true
  | [], _, _ => by simp [alikeAll]
  | _ :: _, [], _ => by simp [alikeAll]
  | a :: as, b :: bs, h => by
    rw [alikeAll, h a List.mem_cons_self b List.mem_cons_self, alikeAll_of fun x hx y hy => h x (List.mem_cons_of_mem _ hx) y (List.mem_cons_of_mem _ hy)]; rfl
theorem tupDs_of : ∀ {ds : List PyData}, (∀ d ∈ ds, tupD d = true) → tupDs ds = true
  | [], _ => by rw [tupDs]
  | d :: ds, h => by rw [tupDs, h d List.mem_cons_self, tupDs_of fun y hy => h y (List.mem_cons_of_mem _ hy)]; rfl
theorem layAll_of : ∀ {ds : List PyData}, (∀ d ∈ ds, d.canLay0 = true) → PyData.canLayAll0 ds = true
  | [], _ => by simp [PyData.canLayAll0]
  | d :: ds, h => by simp [PyData.canLayAll0, h d List.mem_cons_self, layAll_of fun y hy => h y (List.mem_cons_of_mem _ hy)]
theorem depthAll_of {n : Nat} : ∀ {ds : List PyData}, (∀ d ∈ ds, d.depth ≤ n) → PyData.depthAll ds ≤ n
  | [], _ => by simp [PyData.depthAll]
  | d :: ds, h => by
    have a := h d List.mem_cons_self
    have b := depthAll_of fun y hy => h y (List.mem_cons_of_mem _ hy)
    simp only [PyData.depthAll]; omega
/-- what may be a kind -/
structure KOk (n : Nat) (d : PyData) : Prop where
  tup : tupD d = true
  lay : d.canLay0 = true
  dep : d.depth ≤ n
theorem KOk.shaped {n : Nat} {d : PyData} (h : KOk n d) (hn : n ≤ 64) : SeqAt.shaped d = true := by
  unfold SeqAt.shaped; rw [h.lay, decide_eq_true (Nat.le_trans h.dep hn)]; rfl
theorem KOk.of {n : Nat} {ds : List PyData} (h : ∀ d ∈ ds, KOk n d) : KOk (n + 1) (.tuple ds) := by
  refine ⟨by rw [tupD]; exact tupDs_of fun d hd => (h d hd).tup, by rw [PyData.canLay0]; exact layAll_of fun d hd => (h d hd).lay, ?_⟩
  have := depthAll_of fun d hd => (h d hd).dep
  simp only [PyData.depth]; omega
theorem KOk.more {n m : Nat} {d : PyData} (h : KOk n d) (l : n ≤ m) : KOk m d := ⟨h.tup, h.lay, Nat.le_trans h.dep l⟩
theorem kok_int {n : Nat} (z : Int) : KOk n (.int z) := ⟨by simp [tupD], by simp [PyData.canLay0], by simp [PyData.depth]⟩
theorem kok_bool {n : Nat} (b : Bool) : KOk n (.bool b) := ⟨by simp [tupD], by simp [PyData.canLay0], by simp [PyData.depth]⟩
theorem kok_list {n : Nat} {ds : List PyData} (h : ∀ d ∈ ds, KOk n d) (hn : n < 64) : SeqAt.shaped (.list ds) = true := by
  have := depthAll_of fun d hd => (h d hd).dep
  unfold SeqAt.shaped
  rw [show (PyData.list ds).canLay0 = true by rw [PyData.canLay0]; exact layAll_of fun d hd => (h d hd).lay, decide_eq_true (show (PyData.list ds).depth ≤ 64 by simp only [PyData.depth]; omega)]; rfl
/-- the kinds of the states -/
structure KS (n m : Nat) (ks : List PyData) : Prop where
  al : AllAlike ks
  ok : ∀ d ∈ ks, KOk n d
  len : ks.length = m
def numOf : PyData → Nat | .int z => z.toNat | _ => 0
def isMk (kvs : List (List Key × V)) (n : Nat) (c : Str) : Bool := (valV kvs [.inl (n : Int), .inr c]).isSome
def mkD (kvs : List (List Key × V)) (cs : List Str) (d : PyData) : PyData := .tuple (cs.map fun c => .bool (isMk kvs (numOf d) c))
theorem mk_ks (kvs : List (List Key × V)) (cs : List Str) (m : Nat) : KS 1 m ((nums m).map (mkD kvs cs)) := by
  refine ⟨fun d hd e he => ?_, fun d hd => ?_, by rw [List.length_map]; unfold nums; rw [List.length_map, List.length_range]⟩
  · obtain ⟨x, _, rfl⟩ := List.mem_map.mp hd
    obtain ⟨y, _, rfl⟩ := List.mem_map.mp he
    unfold mkD
    rw [alike]
    refine alikeAll_of fun a ha b hb => ?_
    obtain ⟨_, _, rfl⟩ := List.mem_map.mp ha
    obtain ⟨_, _, rfl⟩ := List.mem_map.mp hb
    rw [alike]
  · obtain ⟨x, _, rfl⟩ := List.mem_map.mp hd
    refine KOk.of fun a ha => ?_
    obtain ⟨_, _, rfl⟩ := List.mem_map.mp ha
    exact kok_bool _
/-- a kind and the kinds that come next -/
def prD (ks : List PyData) (rs : List (List Nat)) (d : PyData) : PyData := .tuple [ks.getD (numOf d) .none, .tuple ((rs.getD (numOf d) []).map fun z => ks.getD z .none)]
theorem getD_mem {ks : List PyData} {i : Nat} (h : i < ks.length) : ks.getD i .none ∈ ks := by
  rw [List.getD_eq_getElem?_getD, List.getElem?_eq_getElem h]; exact List.getElem_mem h
theorem nums_mem {m : Nat} {d : PyData} (h : d ∈ nums m) : ∃ z : Nat, d = .int (z : Int) ∧ z < m := by
  unfold nums at h
  obtain ⟨z, hz, rfl⟩ := List.mem_map.mp h
  exact ⟨z, rfl, List.mem_range.mp hz⟩
theorem row_mem {rs : List (List Nat)} {i : Nat} (h : i < rs.length) : rs.getD i [] ∈ rs := by
  rw [List.getD_eq_getElem?_getD, List.getElem?_eq_getElem h]; exact List.getElem_mem h
theorem pr_ks {n : Nat} {ks : List PyData} {rs : List (List Nat)} (k : KS n rs.length ks) (h : ∀ r ∈ rs, ∀ z ∈ r, z < rs.length) : KS (n + 2) rs.length ((nums rs.length).map (prD ks rs)) := by
  refine ⟨fun d hd e he => ?_, fun d hd => ?_, by rw [List.length_map]; unfold nums; rw [List.length_map, List.length_range]⟩
  · obtain ⟨x, hx, rfl⟩ := List.mem_map.mp hd
    obtain ⟨y, hy, rfl⟩ := List.mem_map.mp he
    obtain ⟨i, rfl, hi⟩ := nums_mem hx
    obtain ⟨j, rfl, hj⟩ := nums_mem hy
    unfold prD
    rw [alike, alikeAll, k.al _ (getD_mem (by rw [k.len]; exact hi)) _ (getD_mem (by rw [k.len]; exact hj)), alikeAll, alike, alikeAll]
    rw [alikeAll_of fun a ha b hb => ?_]
    · rfl
    · obtain ⟨u, hu, rfl⟩ := List.mem_map.mp ha
      obtain ⟨v, hv, rfl⟩ := List.mem_map.mp hb
      exact k.al _ (getD_mem (by rw [k.len]; exact h _ (row_mem hi) u hu)) _ (getD_mem (by rw [k.len]; exact h _ (row_mem hj) v hv))
  · obtain ⟨x, hx, rfl⟩ := List.mem_map.mp hd
    obtain ⟨i, rfl, hi⟩ := nums_mem hx
    refine KOk.of fun a ha => ?_
    simp only [List.mem_cons, List.not_mem_nil, or_false] at ha
    rcases ha with rfl | rfl
    · exact (k.ok _ (getD_mem (by rw [k.len]; exact hi))).more (Nat.le_succ _)
    · refine KOk.of fun a ha => ?_
      obtain ⟨u, hu, rfl⟩ := List.mem_map.mp ha
      exact k.ok _ (getD_mem (by rw [k.len]; exact h _ (row_mem hi) u hu))
/-- where a kind stands among the names -/
def plD (es : List PyData) (d : PyData) : Nat := es.findIdx fun z => PyData.eqv z d
theorem pl_at {es : List PyData} {d : PyData} (h : ∃ z ∈ es, PyData.eqv z d = true) : ∃ z, es[plD es d]? = some z ∧ PyData.eqv z d = true ∧ ∀ (m : Nat) (z' : PyData), m < plD es d → es[m]? = some z' → PyData.eqv z' d = false := by
  have lt : plD es d < es.length := List.findIdx_lt_length.mpr h
  refine ⟨_, List.getElem?_eq_getElem lt, List.findIdx_getElem (w := lt), fun m z' hm hz => ?_⟩
  have := List.not_of_lt_findIdx (p := fun z => PyData.eqv z d) hm
  obtain ⟨hl, e⟩ := List.getElem?_eq_some_iff.mp hz
  rw [← e]; simpa using this
theorem int_ks {es ds : List PyData} {m : Nat} (l : ds.length = m) : KS 1 m (ds.map fun d => .int (plD es d : Nat)) := by
  refine ⟨fun d hd e he => ?_, fun d hd => ?_, by rw [List.length_map, l]⟩
  · obtain ⟨_, _, rfl⟩ := List.mem_map.mp hd
    obtain ⟨_, _, rfl⟩ := List.mem_map.mp he
    rw [alike]
  · obtain ⟨_, _, rfl⟩ := List.mem_map.mp hd
    exact kok_int _
mutual
theorem eqv_self : ∀ {d : PyData}, tupD d = true → PyData.eqv d d = true
  | .none, _ => by simp [PyData.eqv]
  | .bool b, _ => by simp [PyData.eqv]
  | .int i, _ => by simp [PyData.eqv]
  | .str x, _ => by simp [PyData.eqv]
  | .tuple ds, h => by rw [tupD] at h; simp only [PyData.eqv]; exact eqvs_self h
  | .list ds, h => by rw [tupD] at h; cases h
  | .dict ds, h => by rw [tupD] at h; cases h
theorem eqvs_self : ∀ {ds : List PyData}, tupDs ds = true → PyData.eqvAll ds ds = true
  | [], _ => by simp [PyData.eqvAll]
  | d :: ds, h => by
    rw [tupDs, Bool.and_eq_true] at h
    simp only [PyData.eqvAll, Bool.and_eq_true]
    exact ⟨eqv_self h.1, eqvs_self h.2⟩
end
/-! ### readings -/
section
variable {K : PySem.W.Frag} {σ : L2.St} {F : Addr → Prop} {H : Hp} {t1 t2 te : TE} {ds es : List PyData} {d : PyData}
theorem ed_lcm {wi : TI} {g : TG} {vs : List Nat} {m : PyData → PyData} (hi : EI K wi σ F H ds) (hl : ds.length ≤ 50000)
    (ht : ∀ F2 H1, Ext F H F2 H1 → ∀ v d, d ∈ ds → Df K F2 H1 v d → ∃ σ2, (∀ Q : L2.St → Hp → Prop, Q σ2 H1 → g v (wipe σ vs) H1 Q) ∧ wipe σ2 vs = wipe σ vs ∧ ED K te σ2 F2 H1 (m d)) : ED K (tLc wi g tYes te vs) σ F H (.list (ds.map m)) :=
  ed_is (ed_lc (f := fun _ => true) hi hl fun F2 H1 e v d hd hv => by obtain ⟨σ2, h1, h2, h3⟩ := ht F2 H1 e v d hd hv; exact ⟨σ2, h1, h2, et_yes, fun _ => h3⟩) (by rw [List.filter_eq_self.mpr fun _ _ => rfl])
theorem ed_dinT {i : Nat} {c : Addr} {kvs : List (List Key × V)} {n : Nat} {x : Str} (h : σ[i]? = some (some (.ref c))) (hc : H c = some (.dT kvs)) (h1 : ED K t1 σ F H (.int (n : Int))) (h2 : ED K t2 σ F H (.str x)) : ED K (tDIn (tTup (tCons t1 (tCons t2 tNil))) (tVar i)) σ F H (.bool (isMk kvs n x)) := fun H1 s Q q =>
  h1 H1 s _ fun v1 H2 s2 g1 => h2 H2 (s.trans s2) _ fun v2 H3 s3 g2 => by
    cases g1; cases g2
    refine ⟨(by show 2 ≤ sizeLine; decide), fun t ht => ?_⟩
    have s4 := Same.newA (o := .tup [.int (n : Int), .str x]) ht
    exact ⟨_, h, c, _, rfl, DGet.t (k := [.inl (n : Int), .inr x]) (((s.trans s2).trans (s3.trans s4)) _ _ hc) upd_same, q _ _ (s2.trans (s3.trans s4)) (.bl _)⟩
theorem ed_indexD (ha : ED K t1 σ F H (.list es)) (hb : ED K t2 σ F H d) (se : SeqAt.shaped (.list es) = true) (sd : SeqAt.shaped d = true) (h : ∃ z ∈ es, PyData.eqv z d = true) : ED K (tBM K "list" (rIndexD K) t1 (tCons t2 tNil)) σ F H (.int (plD es d : Nat)) := fun H1 s Q q =>
  ha H1 s _ fun v1 H2 s2 g1 => by
    obtain ⟨z, p1, p2, p3⟩ := pl_at h
    cases g1 with
    | lst sq r =>
      refine ⟨.inl ⟨rfl, _, sq.imp (fun z => z.1) id⟩, hb H2 (s.trans s2) _ fun v2 H3 s3 g2 => ?_⟩
      exact ⟨_, _, d, es, _, z, rfl, rfl, dp_mono s3 (.lst (sq.imp (fun z => z.1) id) (dfs_dps r)), df_dp g2, se, sd, p1, p2, p3, q _ _ (s2.trans s3) (.int _)⟩
end
section
variable {K : PySem.W.Frag} {σ : L2.St} {F : Addr → Prop} {H : Hp} {te : TE} {d : PyData}
theorem run_asgd {g : TG} {tz : TS} {D : Ends} (h : ED K te σ F H d) (k : ∀ v H1, Same H H1 → Df K (Fr F H) H1 v d → g v σ H1 fun σ2 H2 => tz D σ2 H2) : tSeq (tAsg te g) tz D σ H := h H (Same.refl _) _ k
theorem run_asgd1 {g : TG} {D : Ends} (h : ED K te σ F H d) (k : ∀ v H1, Same H H1 → Df K (Fr F H) H1 v d → g v σ H1 D.nx) : tAsg te g D σ H := h H (Same.refl _) _ k
theorem run_asg {g : TG} {tz : TS} {D : Ends} (h : te σ H fun v H1 => g v σ H1 fun σ2 H2 => tz D σ2 H2) : tSeq (tAsg te g) tz D σ H := h
end
theorem ed_notInD {t1 t2 : TE} {K : PySem.W.Frag} {σ : L2.St} {F : Addr → Prop} {H : Hp} {d : PyData} {ds : List PyData} (ha : ED K t1 σ F H d) (hb : ED K t2 σ F H (.list ds)) (h1 : SeqAt.shaped d = true) (h2 : SeqAt.shaped (.list ds) = true) : ED K (tOp (rNotInD K) t1 t2) σ F H (.bool (!ds.any fun z => PyData.eqv z d)) :=
  ed_op ha hb fun F a b H1 hx hy Q q => ⟨d, ds, df_dp hx, df_dp hy, h1, h2, q _ _ (Same.refl _) (.bl _)⟩
theorem run_enS {K : PySem.W.Frag} {ta : TA} {g : TG} {tb : TS} {tz : TS} {D : Ends} {σ : L2.St} {H : Hp} (ha : ta σ H fun vs H1 => ∃ a xs, vs = [.ref a] ∧ SqL K H1 a xs ∧ ∃ Pv : Nat → L2.St → Hp → Prop, Pv 0 σ H1 ∧ (∀ i σ H, i ≤ xs.length → Pv i σ H → SqL K H a xs) ∧
    (∀ i x σ H T, xs[i]? = some x → Pv i σ H → H T = none → g (.ref T) σ (upd H T (.tup [.int (i : Nat), x])) fun σ2 H2 => tb { D with nx := Pv (i + 1), ct := Pv (i + 1), bk := tz D } σ2 H2) ∧ (∀ σ H, Pv xs.length σ H → tz D σ H)) (mono : ∀ Q Q', (∀ vs H1, Q vs H1 → Q' vs H1) → ta σ H Q → ta σ H Q') :
    tSeq (tFor (iEnum K ta) g tb) tz D σ H := mono _ _ (fun vs H1 ⟨a, xs, e, hq, Pv, h0, hG, hs, hd⟩ => ⟨a, xs, e, hq, for_it walk_enum Pv h0 hG (fun i x σ H H' hi hp y => by
      obtain ⟨T, u, z, rfl, hT, rfl, e1, e2⟩ := y
      cases e1
      exact hs i z σ H T e2 hp hT) hd⟩) ha
theorem run_ol {K K2 : PySem.W.Frag} {σ : L2.St} {F : Addr → Prop} {H : Hp} {te : TE} {tz : TS} {D : Ends} {n : Int} {n2 i j : Nat} (h : ED K te σ F H (.int n)) (hn : n2 = 2)
    (k : ∀ ol ll H1, Same H H1 → H ol = none → H ll = none → ol ≠ ll → H1 ol = some (.lst [.int n]) → H1 ll = some (.lst [.int 0]) → tz D ((σ.set i (some (.ref ol))).set j (some (.ref ll))) H1) :
    tSeq (tAsg (tTup (tCons (tLst (tCons te tNil)) (tCons (tLst (tCons (tC (.int 0)) tNil)) tNil))) (gTup K2 n2 (gCons (gName i) (gCons (gName j) gNil)))) tz D σ H := h H (Same.refl _) _ fun v H1 s1 hv => by
  cases hv
  subst hn
  refine ⟨(by show 1 ≤ sizeLine; decide), fun ol hol => ⟨(by show 1 ≤ sizeLine; decide), fun ll hll => ⟨(by show 2 ≤ sizeLine; decide), fun t ht => ⟨t, _, rfl, .of upd_same, rfl, _, _, rfl, _, _, rfl, rfl, ?_⟩⟩⟩⟩
  have s2 := Same.newA (o := .lst [.int n]) hol
  have s3 := Same.newA (o := .lst [.int 0]) hll
  have s4 := Same.newA (o := .tup [.ref ol, .ref ll]) ht
  exact k ol ll _ (s1.trans (s2.trans (s3.trans s4))) (s1.freshA hol) ((s1.trans s2).freshA hll) (fun e => by rw [← e, upd_same] at hll; cases hll) ((s3.trans s4) _ _ upd_same) (s4 _ _ upd_same)
theorem keys_put {κ : Type} [DecidableEq κ] {kvs : List (κ × V)} {k j : κ} {v : V} (h : j ∈ (putK kvs k v).map (·.1)) : j = k ∨ j ∈ kvs.map (·.1) := by
  by_cases e : j = k
  · exact .inl e
  · refine .inr ?_
    cases q : valV kvs j with
    | none =>
      have z : valV (putK kvs k v) j = none := by rw [valV_put, if_neg e]; exact q
      exact absurd h (valV_not z)
    | some u => exact valV_in q
def natsD (r : List Nat) : List PyData := r.map fun (n : Nat) => .int (n : Int)
def natsV (r : List Nat) : List V := r.map fun (n : Nat) => .int (n : Int)
def rowsL (rs : List (List Nat)) : PyData := .list (rs.map fun r => .list (natsD r))
theorem nats_dps {K : PySem.W.Frag} {H : Hp} : ∀ r : List Nat, DpAll K H (natsV r) (natsD r)
  | [] => .nil
  | _ :: r => .cons (.int _) (nats_dps r)
theorem nats_vals {K : PySem.W.Frag} {F : Addr → Prop} {H : Hp} : ∀ {vs : List V} {r : List Nat}, DfAll K F H vs (natsD r) → vs = natsV r
  | _, [], h => by cases h; rfl
  | _, n :: r, h => by
    cases h with
    | cons a t => cases a; rw [nats_vals t]; rfl
theorem rowsL_at {rs : List (List Nat)} {i : Nat} (h : i < rs.length) : (rs.map fun r => PyData.list (natsD r))[i]? = some (.list (natsD (rs.getD i []))) := by
  rw [List.getElem?_map, List.getD_eq_getElem?_getD, List.getElem?_eq_getElem h]; rfl
theorem natsD_at {r : List Nat} {i : Nat} (h : i < r.length) : (natsD r)[i]? = some (.int (r.getD i 0 : Nat)) := by
  unfold natsD; rw [List.getElem?_map, List.getD_eq_getElem?_getD, List.getElem?_eq_getElem h]; rfl
theorem getD_at' {ks : List PyData} {i : Nat} (h : i < ks.length) : ks[i]? = some (ks.getD i .none) := by
  rw [List.getD_eq_getElem?_getD, List.getElem?_eq_getElem h]; rfl
theorem lenL (ds : List PyData) : lenP (.list ds) = ds.length := rfl
theorem natsD_len (r : List Nat) : (natsD r).length = r.length := List.length_map _
theorem natsV_len (r : List Nat) : (natsV r).length = r.length := List.length_map _
theorem natsV_snoc (r : List Nat) (n : Nat) : natsV (r ++ [n]) = natsV r ++ [.int (n : Int)] := List.map_append
theorem natsV_at {r : List Nat} {i : Nat} (h : i < r.length) : (natsV r)[i]? = some (.int (r.getD i 0 : Nat)) := by
  unfold natsV; rw [List.getElem?_map, List.getD_eq_getElem?_getD, List.getElem?_eq_getElem h]; rfl
theorem natsV_get {r : List Nat} {i : Nat} {v : V} (h : (natsV r)[i]? = some v) : ∃ n, r[i]? = some n ∧ v = .int (n : Nat) := by
  unfold natsV at h; rw [List.getElem?_map] at h
  cases e : r[i]? with
  | none => rw [e] at h; cases h
  | some n => rw [e] at h; cases h; exact ⟨n, rfl, rfl⟩
theorem any_nats (r : List Nat) (n : Nat) : ((natsD r).any fun z => PyData.eqv z (.int (n : Int))) = decide (n ∈ r) := by
  rw [Bool.eq_iff_iff, List.any_eq_true, decide_eq_true_eq]
  constructor
  · rintro ⟨z, hz, e⟩
    obtain ⟨m, hm, rfl⟩ := List.mem_map.mp hz
    simp only [PyData.eqv, beq_iff_eq, decide_eq_true_eq] at e
    have : m = n := by omega
    rw [← this]; exact hm
  · intro h
    exact ⟨.int (n : Int), List.mem_map.mpr ⟨n, h, rfl⟩, by simp [PyData.eqv]⟩
theorem row_at {K : PySem.W.Frag} {H : Hp} {b : Addr} {rs : List (List Nat)} (h : Dp K H (.ref b) (rowsL rs)) {i : Nat} (hi : i < rs.length) : ∃ (xs : List V) (ra : Addr), SqL K H b xs ∧ xs[i]? = some (.ref ra) ∧ SqL K H ra (natsV (rs.getD i [])) := by
  unfold rowsL at h
  cases h with
  | lst q r =>
    obtain ⟨v, e, hv⟩ := dfs_get (dps_dfs r) (rowsL_at hi)
    cases hv with
    | lst q2 r2 => exact ⟨_, _, q, e, by rw [← nats_vals r2]; exact q2.imp (fun z => z.1) id⟩
/-- order and least -/
structure OI (kn os ls : List Nat) : Prop where
  map : os = ls.map fun z => kn.getD z 0
  nd : os.Nodup
  lt : ∀ z ∈ ls, z < kn.length
  ne : 1 ≤ ls.length
def Cl (rs : List (List Nat)) (kn os ls : List Nat) (i : Nat) : Prop := ∀ j, j < i → j < ls.length → ∀ z ∈ rs.getD (ls.getD j 0) [], kn.getD z 0 ∈ os
theorem OI.len {kn os ls : List Nat} (h : OI kn os ls) : os.length = ls.length := by rw [h.map, List.length_map]
theorem knat {kn : List Nat} {z : Nat} (h : z < kn.length) : kn.getD z 0 ∈ kn := by
  rw [List.getD_eq_getElem?_getD, List.getElem?_eq_getElem h]; exact List.getElem_mem h
theorem OI.few {kn os ls : List Nat} (h : OI kn os ls) (kv : ∀ z ∈ kn, z < kn.length) : os.length ≤ kn.length := by
  have := List.Nodup.length_le_of_subset h.nd (l₂ := List.range kn.length) fun x hx => by
    rw [h.map] at hx
    obtain ⟨z, hz, rfl⟩ := List.mem_map.mp hx
    exact List.mem_range.mpr (kv _ (knat (h.lt z hz)))
  rwa [List.length_range] at this
theorem OI.snoc {kn os ls : List Nat} {n : Nat} (h : OI kn os ls) (hn : n < kn.length) (no : kn.getD n 0 ∉ os) : OI kn (os ++ [kn.getD n 0]) (ls ++ [n]) := by
  refine ⟨by rw [List.map_append, h.map]; rfl, List.nodup_append.mpr ⟨h.nd, List.nodup_cons.mpr ⟨List.not_mem_nil, List.nodup_nil⟩, fun x hx y hy e => ?_⟩, fun z hz => ?_, by rw [List.length_append]; have := h.ne; omega⟩
  · rw [List.mem_singleton.mp hy] at e; exact no (e ▸ hx)
  · rcases List.mem_append.mp hz with hz | hz
    · exact h.lt z hz
    · rw [List.mem_singleton.mp hz]; exact hn
theorem getD_pre {ls xs : List Nat} {i : Nat} (h : i < ls.length) : (ls ++ xs).getD i 0 = ls.getD i 0 := by
  rw [List.getD_eq_getElem?_getD, List.getD_eq_getElem?_getD, List.getElem?_append_left h]
theorem getD_mem0 {ls : List Nat} {i : Nat} (h : i < ls.length) : ls.getD i 0 ∈ ls := knat h
def goalKV (ct rl fd : Addr) : List (Key × V) := [(ck "calls", .ref ct), (ck "rows", .ref rl), (ck "marks", .ref fd)]
theorem gt1 : ¬ Str.ofString "calls" = Str.ofString "rows" := by decide +kernel
theorem gt2 : ¬ Str.ofString "calls" = Str.ofString "marks" := by decide +kernel
theorem gt3 : ¬ Str.ofString "rows" = Str.ofString "marks" := by decide +kernel
theorem merge_goal {ct rl fd : Addr} : mergeK [] [(ck "calls", V.ref ct), (ck "rows", .ref rl), (ck "marks", .ref fd)] = goalKV ct rl fd := by
  unfold mergeK
  simp [putK, goalKV, ck, gt1, gt2, gt3]
def toldD (rs : List (List Nat)) (kn os : List Nat) (st : Nat) : List Nat := (rs.getD st []).map fun z => plD (natsD os) (.int (kn.getD z 0 : Nat))
theorem told_rows (rs : List (List Nat)) (kn os ls : List Nat) : PyData.list ((natsD ls).map fun d => .list ((natsD (rs.getD (numOf d) [])).map fun e => .int (plD (natsD os) (.int (kn.getD (numOf e) 0 : Nat)) : Nat))) = rowsL (ls.map (toldD rs kn os)) := by
  unfold rowsL natsD toldD
  rw [List.map_map, List.map_map]
  refine congrArg PyData.list (List.map_congr_left fun st _ => ?_)
  show PyData.list _ = PyData.list _
  rw [List.map_map]
  simp only [List.map_map]
  rfl
def MkOk (kvs : List (List Key × V)) (cs : List Str) (m : Nat) : Prop := ∀ k ∈ kvs.map Prod.fst, ∃ (n : Nat) (c : Str), k = [.inl (n : Int), .inr c] ∧ n < m ∧ c ∈ cs
theorem mk_put {kvs : List (List Key × V)} {cs : List Str} {m n : Nat} {c : Str} {v : V} (h : MkOk kvs cs m) (hn : n < m) (hc : c ∈ cs) : MkOk (putK kvs [.inl (n : Int), .inr c] v) cs m := fun k hk => by
  rcases keys_put hk with rfl | hk
  · exact ⟨n, c, rfl, hn, hc⟩
  · exact h k hk
def GoalAt (K : PySem.W.Frag) (m : Addr) (cs : List Str) (rs : List (List Nat)) (H : Hp) : Prop := ∃ (ct rl fd : Addr) (kvs : List (List Key × V)), H m = some (.dK (goalKV ct rl fd)) ∧ SqT K H ct (cs.map V.str) ∧ Dp K H (.ref rl) (rowsL rs) ∧ H fd = some (.dT kvs) ∧ MkOk kvs cs rs.length ∧ kvs.length ≤ rs.length * cs.length
def RowsOk (m : Nat) (rs : List (List Nat)) : Prop := ∀ r ∈ rs, r.length = m ∧ ∀ z ∈ r, z < rs.length
def strOf : PyData → Str | .str x => x | _ => Str.empty
def spTight (K : PySem.W.Frag) : Sp := fun vs H Q _ => ∃ (a b c : Addr) (cs : List Str) (rs : List (List Nat)) (kvs : List (List Key × V)), vs = [.ref a, .ref b, .ref c] ∧ SqL K H a (cs.map V.str) ∧ Dp K H (.ref b) (rowsL rs) ∧ H c = some (.dT kvs) ∧ cs.length ≤ 100 ∧ 1 ≤ rs.length ∧ rs.length < 60 ∧ RowsOk cs.length rs ∧
  ∀ m rs' H', Same H H' → GoalAt K m cs rs' H' → RowsOk cs.length rs' → 1 ≤ rs'.length → rs'.length ≤ rs.length → Q (.ref m) H'
section
variable {P : Program} {w : World} {K : PySem.W.Frag} {mg : Str → Option Value} {base : Heap} (T : Txt w K mg)
theorem ok_tight : FnOk P w K mg base CX0 3 T.a_law_tight T.d_law_tight ["calls", "rows", "marks"] (spTight K) := by
  refine T.D_law_tight.fn.ok sc_law_tight (fun vs H Q E h => ?_) (fun cdv A outer s H vs Q E hr h => ?_)
  · obtain ⟨a, b, c, cs, rs, kvs, rfl, _⟩ := h; rfl
  · obtain ⟨a, b, c, cs, rs, kvs, rfl, hc, hb, hm, c1, r1, r24, rok, k⟩ := h
    refine ⟨_, (pss_cons (ps_set (i := 3) sc_law_tight.nd rfl (by first | exact Or.inl rfl | exact Or.inr rfl) (pe_callB call_len (by rfl) T.b_len bt_len (pa_cons (pv 1) pa_nil)))
      (pss_cons (ps_set (i := 4) sc_law_tight.nd rfl (by first | exact Or.inl rfl | exact Or.inr rfl) (pe_lc (own := [("state", 6)]) (te := tCB (tupR K) (tCons (tLc (iList K (tVar 0)) (gName 5) tYes (tDIn (tTup (tCons (tVar 6) (tCons (tVar 5) tNil))) (tVar 2)) [5]) tNil)) rfl sc_law_tight.nd (pi_range1 (by rfl) T.b_range (pa_cons (pv 3) pa_nil)) (blkOk_by (own := [("state", 6)]) (N := ["calls", "rows", "marks", "many", "kind", "call", "state", "lap", "later", "names", "one", "order", "least", "at", "told", "found", "number"]) (sc := defScope s_law_tight) (by decide +kernel)) (fun _ _ _ _ _ => (pg_name (i := 6) sc_law_tight.nd rfl (by first | exact Or.inl rfl | exact Or.inr rfl))) (fun _ _ _ _ _ => pts_nil) (fun _ _ _ _ _ => (pe_callTy call_tuple_of (by rfl) T.b_tuple bt_tuple (pa_cons (by refine pe_lc (own := [("call", 5)]) rfl sc_law_tight.nd ?_ (blkOk_by (own := [("call", 5)]) (N := ["calls", "rows", "marks", "many", "kind", "call", "state", "lap", "later", "names", "one", "order", "least", "at", "told", "found", "number"]) (sc := { kind := .function, names := [(".0", .local), ("state", .cell), ("tuple", .globalImplicit), ("calls", .cell), ("marks", .cell)], isGenerator := false, isCoroutine := false }) (by decide +kernel)) (fun _ _ _ _ _ => (pg_name (i := 5) sc_law_tight.nd rfl (by first | exact Or.inl rfl | exact Or.inr rfl))) (fun _ _ _ _ _ => pts_nil) (fun _ _ _ _ _ => (pe_cmp (pc_din (hu_of hr) (pe_tup (pa_cons (pv 6) (pa_cons (pv 5) pa_nil))) (pv 2)))); exact (pi_list (pv 0))) pa_nil)))))
      (pss_cons (ps_for PassesOwn.never rfl (pi_range1 (by rfl) T.b_range (pa_cons (pv 3) pa_nil)) (pg_name (i := 7) sc_law_tight.nd rfl (by first | exact Or.inl rfl | exact Or.inr rfl)) (pss_cons (ps_set (i := 4) sc_law_tight.nd rfl (by first | exact Or.inl rfl | exact Or.inr rfl) (pe_lc (own := [("state", 6)]) (te := tTup (tCons (tOp (rIx K) (tVar 4) (tVar 6)) (tCons (tCB (tupR K) (tCons (tLc (iList K (tOp (rIx K) (tVar 1) (tVar 6))) (gName 8) tYes (tOp (rIx K) (tVar 4) (tVar 8)) [8]) tNil)) tNil))) rfl sc_law_tight.nd (pi_range1 (by rfl) T.b_range (pa_cons (pv 3) pa_nil)) (blkOk_by (own := [("state", 6)]) (N := ["calls", "rows", "marks", "many", "kind", "call", "state", "lap", "later", "names", "one", "order", "least", "at", "told", "found", "number"]) (sc := defScope s_law_tight) (by decide +kernel)) (fun _ _ _ _ _ => (pg_name (i := 6) sc_law_tight.nd rfl (by first | exact Or.inl rfl | exact Or.inr rfl))) (fun _ _ _ _ _ => pts_nil) (fun _ _ _ _ _ => (pe_tup (pa_cons (pe_ix (r := rIx K) ix_seq (pv 4) (pv 6) (fun _ _ => rfl)) (pa_cons (pe_callTy call_tuple_of (by rfl) T.b_tuple bt_tuple (pa_cons (by refine pe_lc (own := [("later", 8)]) rfl sc_law_tight.nd ?_ (blkOk_by (own := [("later", 8)]) (N := ["calls", "rows", "marks", "many", "kind", "call", "state", "lap", "later", "names", "one", "order", "least", "at", "told", "found", "number"]) (sc := { kind := .function, names := [(".0", .local), ("state", .local), ("tuple", .globalImplicit), ("kind", .cell), ("rows", .cell)], isGenerator := false, isCoroutine := false }) (by decide +kernel)) (fun _ _ _ _ _ => (pg_name (i := 8) sc_law_tight.nd rfl (by first | exact Or.inl rfl | exact Or.inr rfl))) (fun _ _ _ _ _ => pts_nil) (fun _ _ _ _ _ => (pe_ix (r := rIx K) ix_seq (pv 4) (pv 8) (fun _ _ => rfl))); exact (pi_list (pe_ix (r := rIx K) ix_seq (pv 1) (pv 6) (fun _ _ => rfl)))) pa_nil)) pa_nil))))))
      (pss_cons (ps_set (i := 9) sc_law_tight.nd rfl (by first | exact Or.inl rfl | exact Or.inr rfl) (pe_callB (r := rSortNE K P w) (cr_sortNE rfl hr.units) (by rfl) T.b_sorted bt_sorted (pa_cons (pe_callTy (r := rSetNE K P w) (cr_setNE rfl (u11 hr)) (by rfl) T.b_set bt_set (pa_cons (pv 4) pa_nil)) pa_nil)))
      (pss_one (ps_set (i := 4) sc_law_tight.nd rfl (by first | exact Or.inl rfl | exact Or.inr rfl) (pe_lc (own := [("one", 10)]) rfl sc_law_tight.nd (pi_list (pv 4)) (blkOk_by (own := [("one", 10)]) (N := ["calls", "rows", "marks", "many", "kind", "call", "state", "lap", "later", "names", "one", "order", "least", "at", "told", "found", "number"]) (sc := defScope s_law_tight) (by decide +kernel)) (fun _ _ _ _ _ => (pg_name (i := 10) sc_law_tight.nd rfl (by first | exact Or.inl rfl | exact Or.inr rfl))) (fun _ _ _ _ _ => pts_nil) (fun _ _ _ _ _ => (pe_ixD (K := K) rfl (u65 hr) (pv 9) (pv 10)))))))))
      (pss_cons (ps_asg (pe_tup (pa_cons (pe_lst (pa_cons (pe_ix (r := rIx K) ix_seq (pv 4) pe_int (fun _ _ => rfl)) pa_nil)) (pa_cons (pe_lst (pa_cons pe_int pa_nil)) pa_nil))) (pg_tup rfl (pgs_cons (pg_name (i := 11) sc_law_tight.nd rfl (by first | exact Or.inl rfl | exact Or.inr rfl)) (pgs_cons (pg_name (i := 12) sc_law_tight.nd rfl (by first | exact Or.inl rfl | exact Or.inr rfl)) pgs_nil))))
      (pss_cons (ps_for PassesOwn.never rfl (pi_range1 (by rfl) T.b_range (pa_cons (pv 3) pa_nil)) (pg_name (i := 13) sc_law_tight.nd rfl (by first | exact Or.inl rfl | exact Or.inr rfl)) (pss_one (ps_if (pt_cmpR op_lt (pv 13) (pe_callB call_len (by rfl) T.b_len bt_len (pa_cons (pv 11) pa_nil)) (nomark _)) (pss_one (ps_for PassesOwn.never rfl (pi_list (pe_ix (r := rIx K) ix_seq (pv 1) (pe_ix (r := rIx K) ix_seq (pv 12) (pv 13) (fun _ _ => rfl)) (fun _ _ => rfl))) (pg_name (i := 8) sc_law_tight.nd rfl (by first | exact Or.inl rfl | exact Or.inr rfl)) (pss_one (ps_if (pt_cmpR (r := rNotInD K) (op_notInD (u65 hr)) (pe_ix (r := rIx K) ix_seq (pv 4) (pv 8) (fun _ _ => rfl)) (pv 11) (by rfl)) (pss_cons (ps_expr (pe_bm PySem.F.plainAttrs_list PySem.F.slot_list_append PySem.F.type_list_append mt_append (pv 11) (pa_cons (pe_ix (r := rIx K) ix_seq (pv 4) (pv 8) (fun _ _ => rfl)) pa_nil)))
      (pss_one (ps_expr (pe_bm PySem.F.plainAttrs_list PySem.F.slot_list_append PySem.F.type_list_append mt_append (pv 12) (pa_cons (pv 8) pa_nil))))) pss_nil)))) pss_nil)))
      (pss_cons (ps_setLc (i := 14) (own := [("state", 6)]) (te := tLc (iList K (tOp (rIx K) (tVar 1) (tVar 6))) (gName 8) tYes (tBM K "list" (rIndexD K) (tVar 11) (tCons (tOp (rIx K) (tVar 4) (tVar 8)) tNil)) [8]) rfl sc_law_tight.nd rfl rfl (sw_true rfl rfl rfl (by decide +kernel)) (pi_list (pv 12)) (blkOk_by (own := [("state", 6)]) (N := ["calls", "rows", "marks", "many", "kind", "call", "state", "lap", "later", "names", "one", "order", "least", "at", "told", "found", "number"]) (sc := defScope s_law_tight) (by decide +kernel)) (fun _ _ _ _ _ => (pg_name (i := 6) sc_law_tight.nd rfl (by first | exact Or.inl rfl | exact Or.inr rfl))) (fun _ _ _ _ _ => pts_nil) (fun _ _ _ _ _ => (by refine pe_lc (own := [("later", 8)]) rfl sc_law_tight.nd ?_ (blkOk_by (own := [("later", 8)]) (N := ["calls", "rows", "marks", "many", "kind", "call", "state", "lap", "later", "names", "one", "order", "least", "at", "told", "found", "number"]) (sc := { kind := .function, names := [(".0", .local), ("state", .local), ("kind", .cell), ("order", .cell), ("rows", .cell)], isGenerator := false, isCoroutine := false }) (by decide +kernel)) (fun _ _ _ _ _ => (pg_name (i := 8) sc_law_tight.nd rfl (by first | exact Or.inl rfl | exact Or.inr rfl))) (fun _ _ _ _ _ => pts_nil) (fun _ _ _ _ _ => (pe_ixD (K := K) rfl (u65 hr) (pv 11) (pe_ix (r := rIx K) ix_seq (pv 4) (pv 8) (fun _ _ => rfl)))); exact (pi_list (pe_ix (r := rIx K) ix_seq (pv 1) (pv 6) (fun _ _ => rfl))))))
      (pss_cons (ps_set (i := 15) sc_law_tight.nd rfl (by first | exact Or.inl rfl | exact Or.inr rfl) pe_dnewT)
      (pss_cons (ps_for PassesOwn.never rfl (pi_enum (by rfl) T.b_enumerate (pa_cons (pv 12) pa_nil)) (pg_tup rfl (pgs_cons (pg_name (i := 16) sc_law_tight.nd rfl (by first | exact Or.inl rfl | exact Or.inr rfl)) (pgs_cons (pg_name (i := 6) sc_law_tight.nd rfl (by first | exact Or.inl rfl | exact Or.inr rfl)) pgs_nil))) (pss_one (ps_for PassesOwn.never rfl (pi_list (pv 0)) (pg_name (i := 5) sc_law_tight.nd rfl (by first | exact Or.inl rfl | exact Or.inr rfl)) (pss_one (ps_if (pt_cmp (pc_din (hu_of hr) (pe_tup (pa_cons (pv 6) (pa_cons (pv 5) pa_nil))) (pv 2))) (pss_one (ps_dput (hu_of hr) (pv 15) (pe_tup (pa_cons (pv 16) (pa_cons (pv 5) pa_nil))) pe_bl rfl)) pss_nil)))))
      (pss_one (ps_ret (pe_disp (pps_cons pe_str (pe_callTy call_tuple_of (by rfl) T.b_tuple bt_tuple (pa_cons (pv 0) pa_nil)) (pps_cons pe_str (pv 14) (pps_cons pe_str (pv 15) pps_nil))) (by rfl) (by rfl) (fun z => by cases z) (by decide)))))))))))), ?_⟩
    have rv : ∀ r ∈ rs, ∀ z ∈ r, z < rs.length := fun r hr => (rok r hr).2
    have rl0 : (lenP (rowsL rs) : Int) = (rs.length : Nat) := by unfold rowsL; rw [lenL, List.length_map]
    refine run_asgd (K := K) (F := nn H) (d := .int (rs.length : Nat)) (ed_is (ed_len (ed_var (i := 1) rfl (dp_df hb)) rfl) (by rw [rl0])) fun v H1 s1 hv => ?_
    cases hv
    dsimp only [gName]
    have nl : (nums rs.length).length = rs.length := by unfold nums; rw [List.length_map, List.length_range]
    have hc1 : Dp K H1 (.ref a) (.list (cs.map .str)) := dp_mono s1 (.lst hc (dps_strs cs))
    have hb1 := dp_mono s1 hb
    have hm1 := s1 _ _ hm
    refine run_asgd (K := K) (F := nn H1) (d := .list ((nums rs.length).map (mkD kvs cs))) (ed_lcm (ei_range (ed_var (i := 3) rfl (.int _)) (by omega)) (by omega) fun F2 H2 e2 v2 d2 hd2 hv2 => ?_) fun v H2 s2 hv => ?_
    · obtain ⟨st, rfl, hst⟩ := nums_mem hd2
      cases hv2
      refine ⟨_, fun Q q => q, rfl, ?_⟩
      refine ed_is (ed_tupleOf (ed_lcm (m := fun d => .bool (isMk kvs st (strOf d))) (ei_list (ed_var (i := 0) rfl (df_ext e2 (dp_df hc1)))) (by rw [List.length_map]; omega) fun F3 H3 e3 v3 d3 hd3 hv3 => ?_) rfl) ?_
      · obtain ⟨x, hx, rfl⟩ := List.mem_map.mp hd3
        cases hv3
        exact ⟨_, fun Q q => q, rfl, ed_dinT (i := 2) rfl (e3.same _ _ (e2.same _ _ hm1 (.inr rfl)) (.inr rfl)) (ed_var (i := 6) rfl (.int _)) (ed_var (i := 5) rfl (.str _))⟩
      · show PyData.tuple _ = PyData.tuple _
        rw [List.map_map]; rfl
    obtain ⟨kl, rfl, hk⟩ : ∃ kl, v = .ref kl ∧ Dp K H2 (.ref kl) (.list ((nums rs.length).map (mkD kvs cs))) := by
      have := df_dp hv
      cases hv with
      | lst q y => exact ⟨_, rfl, this⟩
    have hks := mk_ks kvs cs rs.length
    have hc2 := dp_mono s2 hc1
    have hb2 := dp_mono s2 hb1
    have hm2 := s2 _ _ hm1
    have s12 := s1.trans s2
    clear hc1 hb1 hm1 s1 s2 hv hc hb hm
    dsimp only [gName]
    revert hk hks
    generalize (nums rs.length).map (mkD kvs cs) = ks0
    intro hk hks
    refine ⟨_, rfl, ((rs.length : Nat) : Int), rfl, by omega, by omega, for_range (n := rs.length) (fun i σ' H' => ∃ (kl' : Addr) (o5 o6 o7 o8 o9 o10 o11 o12 o13 o14 o15 o16 : Option V) (ks : List PyData), σ' = [some (.ref a), some (.ref b), some (.ref c), some (.int (rs.length : Nat)), some (.ref kl'), o5, o6, o7, o8, o9, o10, o11, o12, o13, o14, o15, o16] ∧ Same H2 H' ∧ Dp K H' (.ref kl') (.list ks) ∧ KS 1 rs.length ks ∧ (1 ≤ i → ∃ kn : List Nat, ks = natsD kn ∧ ∀ z ∈ kn, z < rs.length))
      ⟨kl, none, none, none, none, none, none, none, none, none, none, none, none, ks0, rfl, Same.refl _, hk, hks, fun z => absurd z (by decide)⟩ ?_ ?_⟩
    · clear hk hks
      rintro i σ' H3 hi ⟨kl, o5, o6, o7, o8, o9, o10, o11, o12, o13, o14, o15, o16, ks, rfl, s3, hk, hks, _⟩
      have hb3 := dp_mono s3 hb2
      dsimp only [gName]
      refine run_asgd (K := K) (F := nn H3) (d := .list ((nums rs.length).map (prD ks rs))) (ed_lcm (ei_range (ed_var (i := 3) rfl (.int _)) (by omega)) (by omega) fun F4 H4 e4 v4 d4 hd4 hv4 => ?_) fun v H4 s4 hv => ?_
      · obtain ⟨st, rfl, hst⟩ := nums_mem hd4
        cases hv4
        refine ⟨_, fun Q q => q, rfl, ?_⟩
        refine ed_is (ed_tup (ea_cons (ed_ixL (j := st) (ed_var (i := 4) rfl (df_ext e4 (dp_df hk))) (ed_var (i := 6) rfl (.int _)) (getD_at' (by rw [hks.len]; exact hst))) (ea_cons (ed_tupleOf (ed_lcm (m := fun d => ks.getD (numOf d) .none) (ei_list (ed_ixL (j := st) (ed_var (i := 1) rfl (df_ext e4 (dp_df hb3))) (ed_var (i := 6) rfl (.int _)) (rowsL_at hst))) ?_ fun F5 H5 e5 v5 d5 hd5 hv5 => ?_) rfl) ea_nil)) (by show 2 ≤ 100000; decide)) ?_
        · unfold natsD; rw [List.length_map, (rok _ (row_mem hst)).1]; omega
        · obtain ⟨z, hz, rfl⟩ := List.mem_map.mp hd5
          cases hv5
          exact ⟨_, fun Q q => q, rfl, ed_ixL (j := z) (ed_var (i := 4) rfl (df_ext e5 (df_ext e4 (dp_df hk)))) (ed_var (i := 8) rfl (.int _)) (getD_at' (by rw [hks.len]; exact rv _ (row_mem hst) z hz))⟩
        · show PyData.tuple [_, .tuple _] = PyData.tuple [_, .tuple _]
          unfold natsD
          rw [List.map_map]; rfl
      have pk := pr_ks hks rv
      have hv := df_dp hv
      have ne : ∀ d ∈ (nums rs.length).map (prD ks rs), ∃ x r, d = .tuple (x :: r) := fun d hd => by
        obtain ⟨y, _, rfl⟩ := List.mem_map.mp hd
        exact ⟨_, _, rfl⟩
      revert hv pk ne
      generalize (nums rs.length).map (prD ks rs) = ps
      intro pk hv ne
      dsimp only [gName]
      refine run_asg (run_sortsetN (K := K) (P := P) (w := w) (F := nn H4) (ed_var (i := 4) rfl (dp_df hv)) pk.al (fun d hd => (pk.ok d hd).tup) (fun d hd => Nat.le_trans (pk.ok d hd).dep (by decide)) ne (by rw [pk.len]; omega) fun q vs es H5 s5 e5 he mem len => ?_)
      have hv := dp_mono s5 hv
      have ekok : ∀ d ∈ es, KOk 3 d := fun d hd => pk.ok d ((mem d).mp hd)
      have hes : Dp K H5 (.ref q) (.list es) := .lst (SqL.of e5) he
      dsimp only [gName]
      refine run_asgd1 (K := K) (F := nn H5) (d := .list (ps.map fun d => .int (plD es d : Nat))) (ed_lcm (ei_list (ed_var (i := 4) rfl (dp_df hv))) (by rw [pk.len]; omega) fun F6 H6 e6 v6 d6 hd6 hv6 => ⟨_, fun Q q => q, rfl, ed_indexD (ed_var (i := 9) rfl (df_ext e6 (dp_df hes))) (ed_var (i := 10) rfl hv6) (kok_list ekok (by decide)) ((pk.ok _ hd6).shaped (by decide)) ⟨d6, (mem d6).mpr hd6, eqv_self (pk.ok _ hd6).tup⟩⟩) fun v H6 s6 hv6 => ?_
      obtain ⟨kl2, rfl, hk2⟩ : ∃ kl2, v = .ref kl2 ∧ Dp K H6 (.ref kl2) (.list (ps.map fun d => .int (plD es d : Nat))) := by
        have := df_dp hv6
        cases hv6 with
        | lst q y => exact ⟨_, rfl, this⟩
      refine ⟨kl2, _, _, _, _, _, _, _, _, _, _, _, _, _, rfl, s3.trans (s4.trans (s5.trans s6)), hk2, int_ks pk.len, fun _ => ⟨ps.map (plD es), ?_, fun z hz => ?_⟩⟩
      · unfold natsD; rw [List.map_map]; rfl
      · obtain ⟨d, hd, rfl⟩ := List.mem_map.mp hz
        have : plD es d < es.length := List.findIdx_lt_length.mpr ⟨d, (mem d).mpr hd, eqv_self (pk.ok _ hd).tup⟩
        rw [pk.len] at len; omega
    · clear hk hks
      rintro σ' H3 ⟨kl, o5, o6, o7, o8, o9, o10, o11, o12, o13, o14, o15, o16, ks, rfl, s3, hk, hks, last⟩
      obtain ⟨kn, rfl, kv⟩ := last r1
      have kl3 := hks.len
      rw [natsD_len] at kl3
      have kv' : ∀ z ∈ kn, z < kn.length := fun z hz => by rw [kl3]; exact kv z hz
      have hb3 := dp_mono s3 hb2
      have hc3 := dp_mono s3 hc2
      have hm3 := s3 _ _ hm2
      have s13 := s12.trans s3
      clear hb2 hc2 hm2 s12 s3 last hks
      dsimp only
      refine run_ol (K := K) (F := nn H3) (n := (kn.getD 0 0 : Nat)) (ed_ixL (j := 0) (ed_var (i := 4) rfl (dp_df hk)) ed_int (natsD_at (by omega))) rfl fun ol ll H4 s4 fol fll nol eol ell => ?_
      refine ⟨_, rfl, ((rs.length : Nat) : Int), rfl, by omega, by omega, for_range (n := rs.length) (fun i σ' H' => ∃ (o5 o6 o7 o8 o9 o10 o13 o14 o15 o16 : Option V) (os ls : List Nat), σ' = [some (.ref a), some (.ref b), some (.ref c), some (.int (rs.length : Nat)), some (.ref kl), o5, o6, o7, o8, o9, o10, some (.ref ol), some (.ref ll), o13, o14, o15, o16] ∧ Same H3 H' ∧ H' ol = some (.lst (natsV os)) ∧ H' ll = some (.lst (natsV ls)) ∧ OI kn os ls ∧ Cl rs kn os ls i)
        ⟨_, _, _, _, _, _, _, _, _, _, [kn.getD 0 0], [0], rfl, s4, eol, ell, ⟨rfl, List.nodup_cons.mpr ⟨List.not_mem_nil, List.nodup_nil⟩, fun z hz => by rw [List.mem_singleton.mp hz]; omega, Nat.le_refl _⟩, fun j hj => absurd hj (Nat.not_lt_zero _)⟩ ?_ ?_⟩
      · clear s4 eol ell
        rintro i σ' H5 hi ⟨o5, o6, o7, o8, o9, o10, o13, o14, o15, o16, os, ls, rfl, s5, eol, ell, oi, cl⟩
        have few := oi.few kv'
        have oln := oi.len
        dsimp only [gName]
        refine s_if (b := decide ((0 : Int) + (i : Int) < (lenP (.list (natsD os)) : Int))) (et_test (ed_lt (K := K) (F := nn H5) (ed_var (i := 13) rfl (.int _)) (ed_len (ed_var (i := 11) rfl (dp_df (.lst (SqL.of eol) (nats_dps os)))) rfl))) (fun hlt H6 s6 => ?_) (fun hlt H6 s6 => ?_)
        · have hlt := of_decide_eq_true hlt
          rw [lenL, natsD_len] at hlt
          have il : i < ls.length := by omega
          have s56 := s5.trans s6
          have eol := s6 _ _ eol
          have ell := s6 _ _ ell
          have stl : ls.getD i 0 < rs.length := by rw [← kl3]; exact oi.lt _ (getD_mem0 il)
          obtain ⟨xs, ra, hbq, hxs, hra⟩ := row_at hb3 stl
          have rl5 := (rok _ (row_mem stl)).1
          refine ⟨_, rfl, _, rfl, _, rfl, .inl ⟨ll, _, _, .int (ls.getD i 0 : Nat), rfl, rfl, SqL.of ell, atI_int (by omega) (by rw [show ((0 : Int) + (i : Int)).toNat = i by omega]; exact natsV_at il), .inl ⟨b, xs, _, .ref ra, rfl, rfl, s56.slA hbq, atI_nat hxs, ra, rfl, ⟨_, s56.slA hra⟩, for_list (K := K) (a := ra) (xs := natsV (rs.getD (ls.getD i 0) [])) (fun j σ' H' => ∃ (o5 o6 o7 o8 o9 o10 o13 o14 o15 o16 : Option V) (os2 ls2 : List Nat), σ' = [some (.ref a), some (.ref b), some (.ref c), some (.int (rs.length : Nat)), some (.ref kl), o5, o6, o7, o8, o9, o10, some (.ref ol), some (.ref ll), o13, o14, o15, o16] ∧ Same H3 H' ∧ H' ol = some (.lst (natsV os2)) ∧ H' ll = some (.lst (natsV ls2)) ∧ OI kn os2 ls2 ∧ Cl rs kn os2 ls2 i ∧ (∃ us, ls2 = ls ++ us) ∧ ∀ z ∈ (rs.getD (ls.getD i 0) []).take j, kn.getD z 0 ∈ os2)
            ⟨_, _, _, _, _, _, _, _, _, _, os, ls, rfl, s56, eol, ell, oi, cl, ⟨[], (List.append_nil _).symm⟩, fun z hz => by rw [List.take_zero] at hz; cases hz⟩ (fun j σ' H' _ h => by obtain ⟨_, _, _, _, _, _, _, _, _, _, _, _, _, s, _⟩ := h; exact s.slA hra) ?_ ?_⟩⟩⟩
          · clear eol ell s56 s6 s5
            rintro j v σ' H7 hv ⟨o5, o6, o7, o8, o9, o10, o13, o14, o15, o16, os2, ls2, rfl, s7, eol, ell, oi2, cl2, ⟨us, rfl⟩, got⟩
            obtain ⟨n, hn, rfl⟩ := natsV_get hv
            have nr := List.mem_of_getElem? hn
            have nk' : n < kn.length := by rw [kl3]; exact rv _ (row_mem stl) n nr
            have few2 := oi2.few kv'
            have oln2 := oi2.len
            have tk : (rs.getD (ls.getD i 0) []).take (j + 1) = (rs.getD (ls.getD i 0) []).take j ++ [n] := by rw [List.take_succ, hn]; rfl
            dsimp only [gName]
            have hk7 := dp_mono s7 hk
            refine s_if (b := !decide (kn.getD n 0 ∈ os2)) (et_is (et_test (ed_notInD (K := K) (F := nn H7) (ed_ixL (j := n) (ed_var (i := 4) rfl (dp_df hk7)) (ed_var (i := 8) rfl (.int _)) (natsD_at nk')) (ed_var (i := 11) rfl (dp_df (.lst (SqL.of eol) (nats_dps os2)))) ((kok_int (n := 0) _).shaped (by decide)) (kok_list (n := 0) (fun d hd => by obtain ⟨_, _, rfl⟩ := List.mem_map.mp hd; exact kok_int _) (by decide)))) (by rw [any_nats])) (fun hin H8 s8 => ?_) (fun hin H8 s8 => ?_)
            · have no : kn.getD n 0 ∉ os2 := by simpa using hin
              have eol := s8 _ _ eol
              have ell := s8 _ _ ell
              refine ⟨_, rfl, .inl ⟨rfl, _, SqL.of eol⟩, ?_⟩
              refine run_edc (K := K) (F := nn H8) (ed_ixL (j := n) (ed_var (i := 4) rfl (dp_df (dp_mono s8 hk7))) (ed_var (i := 8) rfl (.int _)) (natsD_at nk')) fun v H9 s9 hv9 => ?_
              cases hv9
              have eol := s9 _ _ eol
              have ell := s9 _ _ ell
              refine ⟨ol, _, _, rfl, rfl, eol, lt5 (by rw [natsV_len]; omega), ?_⟩
              have ell2 : (upd H9 ol (.lst (natsV os2 ++ [.int (kn.getD n 0 : Nat)]))) ll = some (.lst (natsV (ls ++ us))) := by rw [upd_ne (Ne.symm nol)]; exact ell
              refine ⟨_, rfl, .inl ⟨rfl, _, SqL.of ell2⟩, _, rfl, ll, _, _, rfl, rfl, ell2, lt5 (by rw [natsV_len]; omega), ?_⟩
              refine ⟨_, _, _, _, _, _, _, _, _, _, os2 ++ [kn.getD n 0], ls ++ us ++ [n], rfl, fun x o z => ?_, ?_, ?_, oi2.snoc nk' no, fun q hq1 hq2 z hz => ?_, ⟨us ++ [n], by rw [List.append_assoc]⟩, fun z hz => ?_⟩
              · rw [upd_ne (ne_of_none z fll), upd_ne (ne_of_none z fol)]; exact s9 _ _ (s8 _ _ (s7 _ _ z))
              · rw [upd_ne nol, upd_same, natsV_snoc]
              · rw [upd_same, natsV_snoc]
              · by_cases lt : q < (ls ++ us).length
                · rw [getD_pre lt] at hz
                  exact List.mem_append_left _ (cl2 q hq1 lt z hz)
                · rw [List.length_append] at lt; omega
              · rw [tk] at hz
                rcases List.mem_append.mp hz with hz | hz
                · exact List.mem_append_left _ (got z hz)
                · rw [List.mem_singleton.mp hz]; exact List.mem_append_right _ List.mem_cons_self
            · have yes : kn.getD n 0 ∈ os2 := by simpa using hin
              refine ⟨_, _, _, _, _, _, _, _, _, _, os2, ls ++ us, rfl, s7.trans s8, s8 _ _ eol, s8 _ _ ell, oi2, cl2, ⟨us, rfl⟩, fun z hz => ?_⟩
              rw [tk] at hz
              rcases List.mem_append.mp hz with hz | hz
              · exact got z hz
              · rw [List.mem_singleton.mp hz]; exact yes
          · rintro σ' H7 ⟨o5, o6, o7, o8, o9, o10, o13, o14, o15, o16, os2, ls2, rfl, s7, eol, ell, oi2, cl2, ⟨us, rfl⟩, got⟩
            refine ⟨_, _, _, _, _, _, _, _, _, _, os2, ls ++ us, rfl, s7, eol, ell, oi2, fun q hq1 hq2 z hz => ?_⟩
            rcases Nat.lt_succ_iff_lt_or_eq.mp hq1 with lt | rfl
            · exact cl2 q lt hq2 z hz
            · rw [getD_pre il] at hz
              exact got z (by rw [natsV_len, List.take_length]; exact hz)
        · have hge : ¬ ((0 : Int) + (i : Int) < (lenP (.list (natsD os)) : Int)) := of_decide_eq_false hlt
          rw [lenL, natsD_len] at hge
          refine ⟨_, _, _, _, _, _, _, _, _, _, os, ls, rfl, s5.trans s6, s6 _ _ eol, s6 _ _ ell, oi, fun q hq1 hq2 z hz => cl q (by omega) hq2 z hz⟩
      · clear s4 eol ell
        rintro σ' H5 ⟨o5, o6, o7, o8, o9, o10, o13, o14, o15, o16, os, ls, rfl, s5, eol, ell, oi, cl⟩
        have few := oi.few kv'
        have oln := oi.len
        have cl : ∀ j, j < ls.length → ∀ z ∈ rs.getD (ls.getD j 0) [], kn.getD z 0 ∈ os := fun j hj => cl j (by omega) hj
        have cl2 : ∀ st ∈ ls, ∀ z ∈ rs.getD st [], kn.getD z 0 ∈ os := fun st hst z hz => by
          obtain ⟨j, hj, e⟩ := List.getElem_of_mem hst
          refine cl j hj z ?_
          rw [show ls.getD j 0 = st by rw [List.getD_eq_getElem?_getD, List.getElem?_eq_getElem hj, e]; rfl]; exact hz
        have lsr : ∀ st ∈ ls, st < rs.length := fun st hst => by rw [← kl3]; exact oi.lt st hst
        have hb5 := dp_mono s5 hb3
        have hk5 := dp_mono s5 hk
        have hc5 := dp_mono s5 hc3
        have hm5 := s5 _ _ hm3
        have pos : ∀ z ∈ os, plD (natsD os) (.int (z : Nat)) < ls.length := fun z hz => by
          have : plD (natsD os) (.int (z : Nat)) < (natsD os).length := List.findIdx_lt_length.mpr ⟨.int (z : Nat), List.mem_map.mpr ⟨z, hz, rfl⟩, by simp [PyData.eqv]⟩
          rw [natsD_len] at this; omega
        dsimp only
        refine run_asgd (K := K) (F := nn H5) (d := rowsL (ls.map (toldD rs kn os))) (ed_is (ed_lcm (m := fun d => .list ((natsD (rs.getD (numOf d) [])).map fun e => .int (plD (natsD os) (.int (kn.getD (numOf e) 0 : Nat)) : Nat))) (ei_list (ed_var (i := 12) rfl (dp_df (.lst (SqL.of ell) (nats_dps ls))))) (by rw [natsD_len]; omega) fun F6 H6 e6 v6 d6 hd6 hv6 => ?_) (told_rows rs kn os ls)) fun v H6 s6 hv => ?_
        · obtain ⟨st, hst, rfl⟩ := List.mem_map.mp hd6
          cases hv6
          have hr := lsr st hst
          refine ⟨_, fun Q q => q, rfl, ?_⟩
          refine ed_lcm (ei_list (ed_ixL (j := st) (ed_var (i := 1) rfl (df_ext e6 (dp_df hb5))) (ed_var (i := 6) rfl (.int _)) (rowsL_at hr))) (show (natsD (rs.getD st [])).length ≤ 50000 by rw [natsD_len, (rok _ (row_mem hr)).1]; omega) fun F7 H7 e7 v7 d7 hd7 hv7 => ?_
          obtain ⟨z, hz, rfl⟩ := List.mem_map.mp hd7
          cases hv7
          have zk : z < kn.length := by rw [kl3]; exact rv _ (row_mem hr) z hz
          refine ⟨_, fun Q q => q, rfl, ed_indexD (ed_var (i := 11) rfl (df_ext e7 (df_ext e6 (dp_df (.lst (SqL.of eol) (nats_dps os)))))) (ed_ixL (j := z) (ed_var (i := 4) rfl (df_ext e7 (df_ext e6 (dp_df hk5)))) (ed_var (i := 8) rfl (.int _)) (natsD_at zk)) (kok_list (n := 0) (fun d hd => by obtain ⟨_, _, rfl⟩ := List.mem_map.mp hd; exact kok_int _) (by decide)) ((kok_int (n := 0) _).shaped (by decide)) ⟨.int (kn.getD z 0 : Nat), List.mem_map.mpr ⟨_, cl2 st hst z hz, rfl⟩, eqv_self (d := .int (kn.getD z 0 : Nat)) (by simp [tupD])⟩⟩
        obtain ⟨tl, rfl, htl⟩ : ∃ tl, v = .ref tl ∧ Dp K H6 (.ref tl) (rowsL (ls.map (toldD rs kn os))) := by
          have := df_dp hv
          unfold rowsL at hv
          cases hv with
          | lst q y => exact ⟨_, rfl, this⟩
        have rok2 : RowsOk cs.length (ls.map (toldD rs kn os)) := fun r hr => by
          obtain ⟨st, hst, rfl⟩ := List.mem_map.mp hr
          refine ⟨by unfold toldD; rw [List.length_map]; exact (rok _ (row_mem (lsr st hst))).1, fun y hy => ?_⟩
          obtain ⟨z, hz, rfl⟩ := List.mem_map.mp hy
          rw [List.length_map]
          exact pos _ (cl2 st hst z hz)
        have hc6 := dp_mono s6 hc5
        have hm6 := s6 _ _ hm5
        have ell := s6 _ _ ell
        have s16 := s13.trans (s5.trans s6)
        have lne := oi.ne
        have nlen : (ls.map (toldD rs kn os)).length = ls.length := List.length_map _
        clear hb5 hk5 hc5 hm5 eol hv cl cl2 s5 s6 s13 hk hb3 hc3 hm3 fol fll nol
        dsimp only [gName]
        revert htl rok2 nlen
        generalize ls.map (toldD rs kn os) = rt
        intro htl rok2 nlen
        intro fd hfd
        have s7 := Same.newA (o := .dT []) hfd
        obtain ⟨hcq⟩ : Nonempty (SqL K H6 a (cs.map V.str)) := by
          cases hc6 with
          | lst q y => rw [strs_dps y] at q; exact ⟨q⟩
        dsimp only [gName]
        have e7 : (upd H6 fd (.dT [])) fd = some (.dT []) := upd_same
        revert s7 e7
        generalize upd H6 fd (.dT []) = H7
        intro s7 e7
        refine run_enS ⟨_, rfl, ll, natsV ls, rfl, SqL.of (s7 _ _ ell), fun i σ' H' => ∃ (o5 o6 o7 o8 o9 o10 o13 o16 : Option V) (kv : List (List Key × V)), σ' = [some (.ref a), some (.ref b), some (.ref c), some (.int (rs.length : Nat)), some (.ref kl), o5, o6, o7, o8, o9, o10, some (.ref ol), some (.ref ll), o13, some (.ref tl), some (.ref fd), o16] ∧ Same H6 H' ∧ H' fd = some (.dT kv) ∧ MkOk kv cs rt.length ∧ kv.length ≤ i * cs.length,
          ⟨_, _, _, _, _, _, _, _, [], rfl, s7, e7, fun k hk => absurd hk List.not_mem_nil, Nat.zero_le _⟩, fun i σ' H' _ h => by obtain ⟨_, _, _, _, _, _, _, _, _, _, s, _⟩ := h; exact SqL.of (s _ _ ell), ?_, ?_⟩ (fun Q Q' f ⟨x, e, q⟩ => ⟨x, e, f _ _ q⟩)
        · clear s7 e7
          rintro i v σ' H8 T hv ⟨o5, o6, o7, o8, o9, o10, o13, o16, kv8, rfl, s8, e8, mk8, l8⟩ hT
          obtain ⟨st, hst, rfl⟩ := natsV_get hv
          have il : i < rt.length := by rw [nlen]; exact (List.getElem?_eq_some_iff.mp hst).1
          have bd : i * cs.length ≤ 60 * 100 := Nat.mul_le_mul (by omega) c1
          refine ⟨T, _, rfl, .of upd_same, rfl, _, _, rfl, _, _, rfl, rfl, ?_⟩
          have sT := Same.newA (o := .tup [.int (i : Nat), .int (st : Nat)]) hT
          have e9 := sT _ _ e8
          have s9 := s8.trans sT
          revert e9 s9
          generalize upd H8 T (.tup [.int (i : Nat), .int (st : Nat)]) = H9
          intro e9 s9
          clear sT hT e8 s8
          dsimp only [gName]
          refine ⟨_, rfl, a, rfl, ⟨_, s9.slA hcq⟩, for_list (K := K) (a := a) (xs := cs.map V.str) (fun j σ' H' => ∃ (o5 o7 o8 o9 o10 o13 : Option V) (kv : List (List Key × V)), σ' = [some (.ref a), some (.ref b), some (.ref c), some (.int (rs.length : Nat)), some (.ref kl), o5, some (.int (st : Nat)), o7, o8, o9, o10, some (.ref ol), some (.ref ll), o13, some (.ref tl), some (.ref fd), some (.int (i : Nat))] ∧ Same H6 H' ∧ H' fd = some (.dT kv) ∧ MkOk kv cs rt.length ∧ kv.length ≤ i * cs.length + j)
            ⟨_, _, _, _, _, _, kv8, rfl, s9, e9, mk8, l8⟩ (fun j σ' H' _ h => by obtain ⟨_, _, _, _, _, _, _, _, s, _⟩ := h; exact s.slA hcq) ?_ ?_⟩
          · clear e9 s9 mk8 l8
            rintro j v σ' H9 hv ⟨o5, o7, o8, o9, o10, o13, kv9, rfl, s9, e9, mk9, l9⟩
            obtain ⟨x, hx, rfl⟩ := str_at hv
            have jl : j < cs.length := (List.getElem?_eq_some_iff.mp hx).1
            dsimp only [gName]
            refine s_if (b := isMk kvs st x) (et_B (ed_dinT (K := K) (F := nn H9) (i := 2) rfl (s9 _ _ hm6) (ed_var (i := 6) rfl (.int _)) (ed_var (i := 5) rfl (.str _)))) (fun _ H10 s10 => ?_) (fun _ H10 s10 => ?_)
            · have e10 := s10 _ _ e9
              refine ⟨_, rfl, _, rfl, _, rfl, (by show 2 ≤ sizeLine; decide), fun t ht => ?_⟩
              have s11 := Same.newA (o := .tup [.int (i : Nat), .str x]) ht
              refine ⟨fd, _, rfl, DPut.t (k := [.inl ((i : Nat) : Int), .inr x]) (s11 _ _ e10) upd_same (lt5 (by omega)), ?_⟩
              refine ⟨_, _, _, _, _, _, _, rfl, fun y o z => ?_, upd_same, mk_put mk9 il (List.mem_of_getElem? hx), ?_⟩
              · rw [upd_ne (ne_of_none z hfd)]; exact s11 _ _ (s10 _ _ (s9 _ _ z))
              · exact Nat.le_trans (length_putK _ _ _) (by omega)
            · exact ⟨_, _, _, _, _, _, kv9, rfl, s9.trans s10, s10 _ _ e9, mk9, by omega⟩
          · rintro σ' H9 ⟨o5, o7, o8, o9, o10, o13, kv9, rfl, s9, e9, mk9, l9⟩
            rw [List.length_map] at l9
            exact ⟨_, _, _, _, _, _, _, _, kv9, rfl, s9, e9, mk9, by rw [Nat.succ_mul]; exact l9⟩
        · clear s7 e7
          rintro σ' H8 ⟨o5, o6, o7, o8, o9, o10, o13, o16, kv8, rfl, s8, e8, mk8, l8⟩
          rw [natsV_len] at l8
          intro m hmm
          have sm := Same.newA (o := .dK []) hmm
          have s9 := s8.trans sm
          refine ⟨_, rfl, a, _, rfl, .inl ⟨s9.slA hcq, fun ct hct => ?_⟩⟩
          have s10 := Same.newA (o := .tup (cs.map V.str)) hct
          refine ⟨_, rfl, _, rfl, s10 _ _ upd_same, [(ck "calls", V.ref ct), (ck "rows", .ref tl), (ck "marks", .ref fd)], rfl, (by decide : 3 ≤ 15), ?_⟩
          rw [merge_goal]
          have em : (upd (upd H8 m (.dK [])) ct (.tup (cs.map V.str))) m = some (.dK []) := s10 _ _ upd_same
          have kp : ∀ y o, y ≠ m → (upd (upd H8 m (.dK [])) ct (.tup (cs.map V.str))) y = some o → (upd (upd (upd H8 m (.dK [])) ct (.tup (cs.map V.str))) m (.dK (goalKV ct tl fd))) y = some o := fun y o n z => by rw [upd_ne n]; exact z
          have kp6 : Same H6 (upd (upd (upd H8 m (.dK [])) ct (.tup (cs.map V.str))) m (.dK (goalKV ct tl fd))) := fun y o z => kp y o (ne_of_none (s8 _ _ z) hmm) ((s9.trans s10) _ _ z)
          have nfm : fd ≠ m := ne_of_none e8 hmm
          have ncm : ct ≠ m := ne_of (upd_same (H := upd H8 m (.dK [])) (a := ct) (o := .tup (cs.map V.str))) em (fun z => nomatch z)
          refine k m rt _ (s16.trans kp6) ⟨ct, tl, fd, kv8, upd_same, .of (kp _ _ ncm upd_same), dp_mono kp6 htl, kp _ _ nfm ((sm.trans s10) _ _ e8), mk8, by rw [nlen]; exact l8⟩ rok2 (by omega) (by omega)
end
end Ag

set_option Elab.async false
set_option linter.all false
set_option maxRecDepth 100000
set_option maxHeartbeats 4000000
set_option pp.maxSteps 1000
namespace Ag
open PySem PySem.Spec PyProof.Rows L2
/-- rows that are being made -/
def ZsAt (H : Hp) (rl : Addr) (m M : Nat) (zs : List (Addr × List Nat)) : Prop := ∀ z ∈ zs, z.1 ≠ rl ∧ H z.1 = some (.lst (natsV z.2)) ∧ z.2.length = m ∧ ∀ n ∈ z.2, n < M
theorem zs_dps {K : PySem.W.Frag} {H : Hp} {rl : Addr} {m M : Nat} : ∀ {zs : List (Addr × List Nat)}, ZsAt H rl m M zs → DpAll K H (zs.map fun z => V.ref z.1) ((zs.map Prod.snd).map fun r => PyData.list (natsD r))
  | [], _ => .nil
  | z :: zs, h => .cons (.lst (SqL.of (h z List.mem_cons_self).2.1) (nats_dps z.2)) (zs_dps fun y hy => h y (List.mem_cons_of_mem _ hy))
theorem zs_dp {K : PySem.W.Frag} {H : Hp} {rl : Addr} {m M : Nat} {zs : List (Addr × List Nat)} (h : ZsAt H rl m M zs) (e : H rl = some (.lst (zs.map fun z => V.ref z.1))) : Dp K H (.ref rl) (rowsL (zs.map Prod.snd)) := .lst (SqL.of e) (zs_dps h)
theorem zs_rok {H : Hp} {rl : Addr} {m M : Nat} {zs : List (Addr × List Nat)} (h : ZsAt H rl m M zs) (l : zs.length = M) : RowsOk m (zs.map Prod.snd) := fun r hr => by
  obtain ⟨z, hz, rfl⟩ := List.mem_map.mp hr
  obtain ⟨_, _, h3, h4⟩ := h z hz
  exact ⟨h3, by rw [List.length_map, l]; exact h4⟩
theorem ZsAt.kept {H H' : Hp} {rl : Addr} {m M : Nat} {zs : List (Addr × List Nat)} (h : ZsAt H rl m M zs) (f : ∀ a xs, a ≠ rl → H a = some (.lst xs) → H' a = some (.lst xs)) : ZsAt H' rl m M zs := fun z hz => let ⟨h1, h2, h3, h4⟩ := h z hz; ⟨h1, f _ _ h1 h2, h3, h4⟩
theorem ZsAt.snoc {H : Hp} {rl D : Addr} {m M : Nat} {zs : List (Addr × List Nat)} {r : List Nat} (h : ZsAt H rl m M zs) (n : D ≠ rl) (e : H D = some (.lst (natsV r))) (l : r.length = m) (b : ∀ n ∈ r, n < M) : ZsAt H rl m M (zs ++ [(D, r)]) := fun z hz => by
  rcases List.mem_append.mp hz with hz | hz
  · exact h z hz
  · rw [List.mem_singleton.mp hz]; exact ⟨n, e, l, b⟩
def spMachine (K : PySem.W.Frag) (top : Nat) : Sp := fun vs H Q _ => ∃ (p c cl n M : Nat) (cs : List Str), vs = [.ref p, .ref cl, .int (M : Int)] ∧ Pen p c n H ∧ H cl = some (.lst (cs.map V.str)) ∧ 1 ≤ M ∧ M ≤ top ∧ 1 ≤ cs.length ∧ cs.length ≤ 6 ∧ (∀ x ∈ cs, nameB x = true) ∧ n + 1000000 < 1000000000000 ∧
  ∀ m rs H', But p H H' → Pen p c (n + 200) H' → GoalAt K m cs rs H' → RowsOk cs.length rs → 1 ≤ rs.length → rs.length ≤ M → Q (.ref m) H'
section
variable {P : Program} {w : World} {K : PySem.W.Frag} {mg : Str → Option Value} {base : Heap} (T : Txt w K mg)
theorem ok_some_machine : FnOk P w K mg base CX0 4 T.a_law_some_machine T.d_law_some_machine ["pen", "calls", "many"] (spMachine K 5) := by
  have G_law_draw := ok_draw (P := P) (base := base) T
  have G_law_tight := ok_tight (P := P) (base := base) T
  refine T.D_law_some_machine.fn.ok sc_law_some_machine (fun vs H Q E h => ?_) (fun cdv A outer s H vs Q E hr h => ?_)
  · obtain ⟨p, c, cl, n, M, cs, rfl, _⟩ := h; rfl
  · obtain ⟨p, c, cl, n, M, cs, rfl, P0, ecl, m1, m5, c1, c6, nam, hn, k⟩ := h
    refine ⟨_, (pss_cons (ps_par (i := 3) (j := 4) (by rfl) sc_law_some_machine.nd rfl rfl (by decide) rfl rfl (pa_cons (pe_lst pa_nil) (pa_cons pe_dnewT pa_nil)) (by rfl))
      (pss_cons (ps_for PassesOwn.never rfl (pi_range1 (by rfl) T.b_range (pa_cons (pv 2) pa_nil)) (pg_name (i := 5) sc_law_some_machine.nd rfl (by first | exact Or.inl rfl | exact Or.inr rfl)) (pss_cons (ps_expr (pe_bm PySem.F.plainAttrs_list PySem.F.slot_list_append PySem.F.type_list_append mt_append (pv 3) (pa_cons (pe_lc (own := [("call", 6)]) rfl sc_law_some_machine.nd (pi_list (pv 1)) (blkOk_by (own := [("call", 6)]) (N := ["pen", "calls", "many", "rows", "marks", "state", "call"]) (sc := defScope s_law_some_machine) (by decide +kernel)) (fun _ _ _ _ _ => (pg_name (i := 6) sc_law_some_machine.nd rfl (by first | exact Or.inl rfl | exact Or.inr rfl))) (fun _ _ _ _ _ => pts_nil) (fun _ _ _ _ _ => (pe_call (G_law_draw) (hr.mono (by omega)) (by rfl) T.D_law_draw.mg T.D_law_draw.fn.kp T.D_law_draw.bd .nil pass0 (pa_cons (pv 0) (pa_cons (pv 2) pa_nil))))) pa_nil)))
      (pss_one (ps_for PassesOwn.never rfl (pi_list (pv 1)) (pg_name (i := 6) sc_law_some_machine.nd rfl (by first | exact Or.inl rfl | exact Or.inr rfl)) (pss_one (ps_if (pt_cmpR op_eq (pe_call (G_law_draw) (hr.mono (by omega)) (by rfl) T.D_law_draw.mg T.D_law_draw.fn.kp T.D_law_draw.bd .nil pass0 (pa_cons (pv 0) (pa_cons pe_int pa_nil))) pe_int (nomark _)) (pss_one (ps_dput (hu_of hr) (pv 4) (pe_tup (pa_cons (pv 5) (pa_cons (pv 6) pa_nil))) pe_bl rfl)) pss_nil))))))
      (pss_one (ps_ret (pe_call (G_law_tight) (hr.mono (by omega)) (by rfl) T.D_law_tight.mg T.D_law_tight.fn.kp T.D_law_tight.bd .nil pass0 (pa_cons (pv 1) (pa_cons (pv 3) (pa_cons (pv 4) pa_nil)))))))), ?_⟩
    refine ⟨(by show 0 ≤ sizeLine; decide), fun rl hrl => fun md hmd => ⟨_, _, rfl, ?_⟩⟩
    have npr := P0.ne_p hrl
    have ncr := P0.ne_c hrl
    have hmd0 : H md = none := (Same.newA (o := .lst []) hrl).freshA hmd
    have npm := P0.ne_p hmd0
    have ncm := P0.ne_c hmd0
    have nrm : md ≠ rl := fun e => by rw [e, upd_same] at hmd; cases hmd
    have ecl' : ∀ H', But p H H' → H' cl = some (.lst (cs.map V.str)) := fun H' b => b _ _ (P0.ne ecl fun _ e => nomatch e) ecl
    have s0 := (Same.newA (o := .lst []) hrl).trans (Same.newA (o := .dT []) hmd)
    refine ⟨_, rfl, ((M : Nat) : Int), rfl, by omega, by omega, for_range (n := M) (fun i σ' H' => ∃ (o5 o6 : Option V) (zs : List (Addr × List Nat)) (kv : List (List Key × V)), σ' = [some (.ref p), some (.ref cl), some (.int (M : Int)), some (.ref rl), some (.ref md), o5, o6] ∧ H' rl = some (.lst (zs.map fun z => V.ref z.1)) ∧ zs.length = i ∧ ZsAt H' rl cs.length M zs ∧ H' md = some (.dT kv) ∧ MkOk kv cs M ∧ kv.length ≤ i * cs.length ∧ But p H H' ∧ Pen p c (n + i * 20) H')
      ⟨none, none, [], [], rfl, by rw [upd_ne (Ne.symm nrm)]; exact upd_same, rfl, (fun z hz => nomatch hz), upd_same, (fun k hk => nomatch hk), Nat.zero_le _, But.of s0, (P0.same s0).more (by omega)⟩ ?_ ?_⟩
    · rintro i σ' H1 hi ⟨o5, o6, zs, kv, rfl, e1, zl, za, m1', mk1, l1, b1, P1⟩
      have bd : i * cs.length ≤ 5 * 6 := Nat.mul_le_mul (by omega) c6
      dsimp only [gName]
      refine ⟨_, rfl, .inl ⟨rfl, _, SqL.of e1⟩, ?_⟩
      refine ⟨_, rfl, cl, rfl, ⟨_, SqL.of (ecl' _ b1)⟩, fun D hD => lc_list (K := K) (a := cl) (xs := cs.map V.str) (fun j H4 => ∃ is : List Nat, H4 D = some (.lst (natsV is)) ∧ is.length = j ∧ (∀ z ∈ is, z < M) ∧ But p H1 H4 ∧ Pen p c (n + i * 20 + j) H4)
        ⟨[], upd_same, rfl, (fun z h => nomatch h), .of (Same.newA hD), (P1.upd (P1.ne_p hD) (P1.ne_c hD)).more (Nat.le_refl _)⟩ (fun j H4 _ ⟨_, _, _, _, b4, _⟩ => SqL.of (ecl' _ (b1.trans b4))) ?_ ?_⟩
      · rintro j x H4 hx ⟨is, e4, il, hb, b4, P4⟩
        have hj : j < cs.length := by
          have := (List.getElem?_eq_some_iff.mp hx).1
          rw [List.length_map] at this; exact this
        refine ⟨rfl, et_yes H4 (Same.refl _) _ fun H4' s4' => ite2 (fun _ => ?_) fun z => absurd rfl z⟩
        refine ⟨_, rfl, _, rfl, p, c, M, n + i * 20 + j, rfl, P4.same s4', by omega, by omega, by omega, fun d H5 d0 d1 b5 P5 => ?_⟩
        obtain ⟨q, rfl⟩ : ∃ q : Nat, d = q := ⟨d.toNat, by omega⟩
        have e5 : H5 D = some (.lst (natsV is)) := b5 _ _ (P1.ne_p hD) (s4' _ _ e4)
        refine ⟨_, e5, lt5 (by rw [natsV_len]; omega), is ++ [q], by rw [upd_same, natsV_snoc], by rw [List.length_append, il]; rfl, fun z hz => ?_, fun a u na e => ?_, (P5.upd (P1.ne_p hD) (P1.ne_c hD)).more (by omega)⟩
        · rcases List.mem_append.mp hz with hz | hz
          · exact hb z hz
          · rw [List.mem_singleton.mp hz]; omega
        · rw [upd_ne (ne_of_none e hD)]
          exact b5 _ _ na (s4' _ _ (b4 _ _ na e))
      · rintro H4 ⟨is, e4, il, hb, b4, P4⟩
        rw [List.length_map] at il P4
        have e5 := b4 _ _ npr e1
        have nDR : D ≠ rl := Ne.symm (ne_of_none e1 hD)
        have m4 := b4 _ _ npm m1'
        refine ⟨rl, _, _, rfl, rfl, e5, lt5 (by rw [List.length_map]; omega), ?_⟩
        have z5 : ZsAt (upd H4 rl (.lst (zs.map (fun z => V.ref z.1) ++ [.ref D]))) rl cs.length M (zs ++ [(D, is)]) := ((za.kept fun a xs na e => by rw [upd_ne na]; exact b4 _ _ (P1.ne e fun _ y => nomatch y) e)).snoc nDR (by rw [upd_ne nDR]; exact e4) il hb
        have b5 : But p H (upd H4 rl (.lst (zs.map (fun z => V.ref z.1) ++ [.ref D]))) := fun a u na e => by rw [upd_ne (ne_of_none e hrl)]; exact b4 _ _ na (b1 _ _ na e)
        have P5 := P4.upd (o := .lst (zs.map (fun z => V.ref z.1) ++ [.ref D])) npr ncr
        have m5' : (upd H4 rl (.lst (zs.map (fun z => V.ref z.1) ++ [.ref D]))) md = some (.dT kv) := by rw [upd_ne nrm]; exact m4
        have r5 : (upd H4 rl (.lst (zs.map (fun z => V.ref z.1) ++ [.ref D]))) rl = some (.lst ((zs ++ [(D, is)]).map fun z => V.ref z.1)) := by rw [upd_same, List.map_append]; rfl
        revert z5 b5 P5 m5' r5
        generalize upd H4 rl (.lst (zs.map (fun z => V.ref z.1) ++ [.ref D])) = H5
        intro z5 b5 P5 m5' r5
        refine ⟨_, rfl, cl, rfl, ⟨_, SqL.of (ecl' _ b5)⟩, for_list (K := K) (a := cl) (xs := cs.map V.str) (fun j σ' H' => ∃ (o6 : Option V) (kv : List (List Key × V)), σ' = [some (.ref p), some (.ref cl), some (.int (M : Int)), some (.ref rl), some (.ref md), some (.int (0 + (i : Int))), o6] ∧ H' rl = some (.lst ((zs ++ [(D, is)]).map fun z => V.ref z.1)) ∧ ZsAt H' rl cs.length M (zs ++ [(D, is)]) ∧ H' md = some (.dT kv) ∧ MkOk kv cs M ∧ kv.length ≤ i * cs.length + j ∧ But p H H' ∧ Pen p c (n + i * 20 + cs.length + j) H')
          ⟨_, kv, rfl, r5, z5, m5', mk1, l1, b5, P5⟩ (fun j σ' H' _ h => by obtain ⟨_, _, _, _, _, _, _, _, b, _⟩ := h; exact SqL.of (ecl' _ b)) ?_ ?_⟩
        · rintro j v σ' H6 hv ⟨o6, kv6, rfl, r6, z6, m6, mk6, l6, b6, P6⟩
          obtain ⟨x, hx, rfl⟩ := str_at hv
          have jl : j < cs.length := (List.getElem?_eq_some_iff.mp hx).1
          dsimp only [gName]
          refine ⟨_, rfl, p, c, 3, _, rfl, P6, by decide, by decide, by omega, fun d H7 _ _ b7 P7 => ⟨rfl, _, rfl, ite2 (fun _ => ?_) fun _ => ?_⟩⟩
          · have m7 := b7 _ _ npm m6
            refine ⟨_, rfl, _, rfl, _, rfl, (by show 2 ≤ sizeLine; decide), fun t ht => ?_⟩
            have s8 := Same.newA (o := .tup [.int (0 + (i : Int)), .str x]) ht
            have ez : (0 : Int) + (i : Int) = (i : Nat) := by omega
            refine ⟨md, _, rfl, DPut.t (k := [.inl ((i : Nat) : Int), .inr x]) (s8 _ _ m7) (by rw [upd_same, ez]; rfl) (lt5 (by omega)), ?_⟩
            have kp : ∀ a u, a ≠ p → a ≠ md → H6 a = some u → (upd (upd H7 t (.tup [.int (0 + (i : Int)), .str x])) md (.dT (putK kv6 [.inl ((i : Nat) : Int), .inr x] (.bl true)))) a = some u := fun a u na nm e => by rw [upd_ne nm]; exact s8 _ _ (b7 _ _ na e)
            refine ⟨_, _, rfl, kp _ _ npr (Ne.symm nrm) r6, z6.kept fun a xs na e => kp _ _ (P6.ne e fun _ y => nomatch y) (ne_of e m6 fun y => nomatch y) e, upd_same, mk_put mk6 hi (List.mem_of_getElem? hx), Nat.le_trans (length_putK _ _ _) (by omega), fun a u na e => ?_, ((P7.same s8).upd npm ncm).more (by omega)⟩
            rw [upd_ne (ne_of_none e hmd0)]; exact s8 _ _ (b7 _ _ na (b6 _ _ na e))
          · exact ⟨_, kv6, rfl, b7 _ _ npr r6, z6.kept fun a xs na e => b7 _ _ (P6.ne e fun _ y => nomatch y) e, b7 _ _ npm m6, mk6, by omega, b6.trans b7, P7.more (by omega)⟩
        · rintro σ' H6 ⟨o6, kv6, rfl, r6, z6, m6, mk6, l6, b6, P6⟩
          rw [List.length_map] at l6 P6
          exact ⟨_, _, zs ++ [(D, is)], kv6, rfl, r6, by rw [List.length_append, zl]; rfl, z6, m6, mk6, by rw [Nat.succ_mul]; exact l6, b6, P6.more (by omega)⟩
    · rintro σ' H1 ⟨o5, o6, zs, kv, rfl, e1, zl, za, m1', mk1, l1, b1, P1⟩
      have rl5 : (zs.map Prod.snd).length = M := by rw [List.length_map, zl]
      refine ⟨_, rfl, _, rfl, _, rfl, cl, rl, md, cs, zs.map Prod.snd, kv, rfl, SqL.of (ecl' _ b1), zs_dp za e1, m1', by omega, by omega, by omega, zs_rok za zl, fun m rs' H2 s2 ga rok l1 l2 => ?_⟩
      exact k m rs' H2 (b1.trans (But.of s2)) ((P1.same s2).more (by omega)) ga rok l1 (by omega)
end
end Ag

set_option Elab.async false
set_option linter.all false
set_option maxRecDepth 100000
set_option maxHeartbeats 4000000
set_option pp.maxSteps 1000
namespace Ag
open PySem PySem.Spec PyProof.Rows L2
theorem nameB_as {x : Str} (h : nameB x = true) : As 12 x := by
  unfold nameB at h
  simp only [Bool.and_eq_true, decide_eq_true_eq] at h
  refine ⟨fun c hc => ?_, by omega⟩
  have := List.all_eq_true.mp h.2 c hc
  rcases Bool.or_eq_true_iff.mp this with k | k
  · have := of_decide_eq_true k; omega
  · have := of_decide_eq_true k; omega
theorem name_gd {x : Str} (h : nameB x = true) : gd (.str x) = true := by
  have a := nameB_as h
  simp only [gd, Bool.and_eq_true, decide_eq_true_eq]
  refine ⟨Array.all_eq_true_iff_forall_mem.mpr fun c hc => decide_eq_true ?_, Nat.le_trans a.2 (by decide)⟩
  have := a.1 c (Array.mem_toList_iff.mpr hc); omega
theorem shaped_gd {d : PyData} (h : gd d = true) (l : d.depth ≤ 64) : SeqAt.shaped d = true := by
  unfold SeqAt.shaped
  rw [gd_lay h, Bool.true_and]; exact decide_eq_true l
theorem shaped_name {x : Str} (h : nameB x = true) : SeqAt.shaped (.str x) = true := shaped_gd (name_gd h) (by simp [PyData.depth])
theorem atI_neg {α : Type} {xs : List α} {v : α} {k : Nat} (h1 : 1 ≤ k) (h2 : k ≤ xs.length) (h : xs[xs.length - k]? = some v) : atI xs (-(k : Int)) = some v := by
  have e : ixN xs.length (-(k : Int)) = some (xs.length - k) := by
    unfold ixN
    rw [if_neg (by omega), if_pos (by omega)]
    congr 1; omega
  unfold atI; rw [e]; exact h
theorem par3_of {i j k : Nat} {t : TA} {D : Ends} {σ : L2.St} {H : Hp} (h : t σ H fun vs H1 => ∃ x y z, vs = [x, y, z] ∧ D.nx (((σ.set i (some x)).set j (some y)).set k (some z)) H1) : tPar3 i j k t D σ H := h
theorem ed_mod {K : PySem.W.Frag} {σ : L2.St} {F : Addr → Prop} {H : Hp} {ta tb : TE} {i j : Int} (ha : ED K ta σ F H (.int i)) (hb : ED K tb σ F H (.int j)) (h : 0 < j) : ED K (tOp (rI (fun _ j => 0 < j) fun i j => .int (i % j)) ta tb) σ F H (.int (i % j)) := ed_op ha hb (rd_int h)
section
variable {P : Program} {w : World} {K : PySem.W.Frag} {mg : Str → Option Value} {base : Heap} (T : Txt w K mg)
theorem ok_turn_machine : FnOk P w K mg base CX0 4 T.a_law_turn_machine T.d_law_turn_machine ["pen", "calls", "many"] (spMachine K 5) := by
  have G_law_pick := ok_pick (P := P) (base := base) T
  have G_law_tight := ok_tight (P := P) (base := base) T
  refine T.D_law_turn_machine.fn.ok sc_law_turn_machine (fun vs H Q E h => ?_) (fun cdv A outer s H vs Q E hr h => ?_)
  · obtain ⟨p, c, cl, n, M, cs, rfl, _⟩ := h; rfl
  · obtain ⟨p, c, cl, n, M, cs, rfl, P0, ecl, m1, m5, c1, c6, nam, hn, k⟩ := h
    refine ⟨_, (pss_cons (ps_par3 (i := 3) (j := 4) (l := 5) (by rfl) sc_law_turn_machine.nd rfl rfl rfl (by decide) (by decide) (by decide) rfl rfl rfl (pa_cons (pe_lc (own := [("spot", 6)]) rfl sc_law_turn_machine.nd (pi_range1 (by rfl) T.b_range (pa_cons (pv 2) pa_nil)) (blkOk_by (own := [("spot", 6)]) (N := ["pen", "calls", "many", "word", "rows", "marks", "spot", "state", "row", "call"]) (sc := defScope s_law_turn_machine) (by decide +kernel)) (fun _ _ _ _ _ => (pg_name (i := 6) sc_law_turn_machine.nd rfl (by first | exact Or.inl rfl | exact Or.inr rfl))) (fun _ _ _ _ _ => pts_nil) (fun _ _ _ _ _ => (pe_call (G_law_pick) (hr.mono (by omega)) (by rfl) T.D_law_pick.mg T.D_law_pick.fn.kp T.D_law_pick.bd .nil pass0 (pa_cons (pv 0) (pa_cons (pv 1) pa_nil))))) (pa_cons (pe_lst pa_nil) (pa_cons pe_dnewT pa_nil))) (by rfl))
      (pss_cons (ps_for PassesOwn.never rfl (pi_range1 (by rfl) T.b_range (pa_cons (pv 2) pa_nil)) (pg_name (i := 7) sc_law_turn_machine.nd rfl (by first | exact Or.inl rfl | exact Or.inr rfl)) (pss_cons (ps_set (i := 8) sc_law_turn_machine.nd rfl (by first | exact Or.inl rfl | exact Or.inr rfl) (pe_lst pa_nil))
      (pss_cons (ps_for PassesOwn.never rfl (pi_list (pv 1)) (pg_name (i := 9) sc_law_turn_machine.nd rfl (by first | exact Or.inl rfl | exact Or.inr rfl)) (pss_one (ps_if (pt_cmpR (op_eqD hr.units) (pv 9) (pe_ix (r := rIx K) ix_seq (pv 3) (pv 7) (fun _ _ => rfl)) (nomark _)) (pss_one (ps_expr (pe_bm PySem.F.plainAttrs_list PySem.F.slot_list_append PySem.F.type_list_append mt_append (pv 8) (pa_cons (pe_op op_mod (pe_op op_add (pv 7) pe_int) (pv 2)) pa_nil)))) (pss_one (ps_expr (pe_bm PySem.F.plainAttrs_list PySem.F.slot_list_append PySem.F.type_list_append mt_append (pv 8) (pa_cons (pe_call (G_law_pick) (hr.mono (by omega)) (by rfl) T.D_law_pick.mg T.D_law_pick.fn.kp T.D_law_pick.bd .nil pass0 (pa_cons (pv 0) (pa_cons (pe_lst (pa_cons (pv 7) (pa_cons (pv 7) (pa_cons pe_int pa_nil)))) pa_nil))) pa_nil)))))))
      (pss_one (ps_expr (pe_bm PySem.F.plainAttrs_list PySem.F.slot_list_append PySem.F.type_list_append mt_append (pv 4) (pa_cons (pv 8) pa_nil)))))))
      (pss_cons (ps_dput (hu_of hr) (pv 5) (pe_tup (pa_cons (pe_op op_sub (pv 2) pe_int) (pa_cons (pe_ix (r := rIx K) ix_seq (pv 3) (pe_un un_neg pe_int) (fun _ _ => rfl)) pa_nil))) pe_bl rfl)
      (pss_one (ps_ret (pe_call (G_law_tight) (hr.mono (by omega)) (by rfl) T.D_law_tight.mg T.D_law_tight.fn.kp T.D_law_tight.bd .nil pass0 (pa_cons (pv 1) (pa_cons (pv 4) (pa_cons (pv 5) pa_nil))))))))), ?_⟩
    have ecl' : ∀ H', But p H H' → H' cl = some (.lst (cs.map V.str)) := fun H' b => b _ _ (P0.ne ecl fun _ e => nomatch e) ecl
    refine par3_of ⟨_, rfl, ((M : Nat) : Int), rfl, by omega, by omega, fun wl hwl => lc_range (lo := 0) (n := M) (fun i H' => ∃ ws : List Str, H' wl = some (.lst (ws.map V.str)) ∧ ws.length = i ∧ (∀ x ∈ ws, x ∈ cs) ∧ But p H H' ∧ Pen p c (n + i) H')
      ⟨[], upd_same, rfl, (fun x h => nomatch h), .of (Same.newA hwl), (P0.same (Same.newA hwl)).more (Nat.le_refl _)⟩ ?_ ?_⟩
    · rintro i H1 hi ⟨ws, e1, wsl, wc, b1, P1⟩
      refine ⟨rfl, et_yes H1 (Same.refl _) _ fun H1' s1' => ite2 (fun _ => ?_) fun z => absurd rfl z⟩
      refine ⟨_, rfl, _, rfl, p, c, cl, cs.map V.str, _, rfl, P1.same s1', .inl (SqL.of (s1' _ _ (ecl' _ b1))), by rw [List.length_map]; omega, by rw [List.length_map]; omega, by omega, fun y v H2 hv b2 P2 => ?_⟩
      obtain ⟨x, hx, rfl⟩ := str_at hv
      have npw := P0.ne_p hwl
      have e2 := b2 _ _ npw (s1' _ _ e1)
      refine ⟨_, e2, lt5 (by rw [List.length_map]; omega), ws ++ [x], by rw [upd_same, List.map_append]; rfl, by rw [List.length_append, wsl]; rfl, fun z hz => ?_, fun a u na e => ?_, (P2.upd npw (P0.ne_c hwl)).more (by omega)⟩
      · rcases List.mem_append.mp hz with hz | hz
        · exact wc z hz
        · rw [List.mem_singleton.mp hz]; exact List.mem_of_getElem? hx
      · rw [upd_ne (ne_of_none e hwl)]; exact b2 _ _ na (s1' _ _ (b1 _ _ na e))
    · rintro Hw ⟨ws, ewl, wsl, wc, bw, Pw⟩
      have npw := P0.ne_p hwl
      refine ⟨(by show 0 ≤ sizeLine; decide), fun rl hrl => fun md hmd => ⟨_, _, _, rfl, ?_⟩⟩
      have npr := Pw.ne_p hrl
      have ncr := Pw.ne_c hrl
      have hmd0 : Hw md = none := (Same.newA (o := .lst []) hrl).freshA hmd
      have npm := Pw.ne_p hmd0
      have ncm := Pw.ne_c hmd0
      have nrm : md ≠ rl := fun e => by rw [e, upd_same] at hmd; cases hmd
      have s0 := (Same.newA (o := .lst []) hrl).trans (Same.newA (o := .dT []) hmd)
      have er0 : (upd (upd Hw rl (.lst [])) md (.dT [])) rl = some (.lst []) := by rw [upd_ne (Ne.symm nrm)]; exact upd_same
      have em0 : (upd (upd Hw rl (.lst [])) md (.dT [])) md = some (.dT []) := upd_same
      have bH : ∀ a o, a ≠ p → H a = some o → Hw a = some o := bw
      have fr : H rl = none := by
        cases e : H rl with
        | none => rfl
        | some o => have := bw _ _ npr e; rw [hrl] at this; cases this
      have fm : H md = none := by
        cases e : H md with
        | none => rfl
        | some o => have := bw _ _ npm e; rw [hmd0] at this; cases this
      have nwm : wl ≠ md := ne_of_none ewl hmd0
      have nwr : wl ≠ rl := ne_of_none ewl hrl
      have b0 := bw.trans (But.of s0)
      have P1 := Pw.same s0
      have ew0 := s0 _ _ ewl
      revert er0 em0 b0 P1 ew0
      generalize upd (upd Hw rl (.lst [])) md (.dT []) = H0
      intro er0 em0 b0 P1 ew0
      clear s0 hmd
      refine ⟨_, rfl, ((M : Nat) : Int), rfl, by omega, by omega, for_range (n := M) (fun i σ' H' => ∃ (o6 o7 o8 o9 : Option V) (zs : List (Addr × List Nat)), σ' = [some (.ref p), some (.ref cl), some (.int (M : Int)), some (.ref wl), some (.ref rl), some (.ref md), o6, o7, o8, o9] ∧ H' rl = some (.lst (zs.map fun z => V.ref z.1)) ∧ zs.length = i ∧ ZsAt H' rl cs.length M zs ∧ H' md = some (.dT []) ∧ H' wl = some (.lst (ws.map V.str)) ∧ But p H H' ∧ Pen p c (n + M + i * 20) H')
        ⟨_, _, _, _, [], rfl, er0, rfl, (fun z hz => nomatch hz), em0, ew0, b0, P1.more (by omega)⟩ ?_ ?_⟩
      · clear er0 em0 b0 P1 ew0
        rintro i σ' H1 hi ⟨o6, o7, o8, o9, zs, rfl, e1, zl, za, em1, ew1, b1, P1⟩
        rw [show (0 : Int) + (i : Int) = ((i : Nat) : Int) by omega]
        dsimp only [gName]
        refine ⟨(by show 0 ≤ sizeLine; decide), fun ra hra => ?_⟩
        have npa := P1.ne_p hra
        have nca := P1.ne_c hra
        have s2 := Same.newA (o := .lst []) hra
        have ea2 := upd_same (H := H1) (a := ra) (o := .lst [])
        have P2 := P1.same s2
        have b2 : But p H1 (upd H1 ra (.lst [])) := But.of s2
        revert ea2 P2 b2
        generalize upd H1 ra (.lst []) = H2
        intro ea2 P2 b2
        clear s2
        dsimp only [gName]
        refine ⟨_, rfl, cl, rfl, ⟨_, SqL.of (ecl' _ (b1.trans b2))⟩, for_list (K := K) (a := cl) (xs := cs.map V.str) (fun j σ' H' => ∃ (o6 o9 : Option V) (r : List Nat), σ' = [some (.ref p), some (.ref cl), some (.int (M : Int)), some (.ref wl), some (.ref rl), some (.ref md), o6, some (.int ((i : Nat) : Int)), some (.ref ra), o9] ∧ H' ra = some (.lst (natsV r)) ∧ r.length = j ∧ (∀ z ∈ r, z < M) ∧ But p H1 H' ∧ Pen p c (n + M + i * 20 + j) H')
          ⟨_, _, [], rfl, ea2, rfl, (fun z hz => nomatch hz), b2, P2⟩ (fun j σ' H' _ h => by obtain ⟨_, _, _, _, _, _, _, b, _⟩ := h; exact SqL.of (ecl' _ (b1.trans b))) ?_ ?_⟩
        · clear ea2 P2 b2
          rintro j v σ' H3 hv ⟨o6, o9, r, rfl, ea3, rlen, rb, b3, P3⟩
          obtain ⟨x, hx, rfl⟩ := str_at hv
          have jl : j < cs.length := (List.getElem?_eq_some_iff.mp hx).1
          have ew3 := b3 _ _ npw ew1
          have fin : ∀ (q : Nat) H5, q < M → H5 ra = some (.lst (natsV r)) → But p H1 H5 → Pen p c (n + M + i * 20 + j + 1) H5 → ∃ (u6 u9 : Option V) (r' : List Nat), [some (V.ref p), some (.ref cl), some (.int (M : Int)), some (.ref wl), some (.ref rl), some (.ref md), o6, some (.int ((i : Nat) : Int)), some (.ref ra), some (.str x)] = [some (V.ref p), some (.ref cl), some (.int (M : Int)), some (.ref wl), some (.ref rl), some (.ref md), u6, some (.int ((i : Nat) : Int)), some (.ref ra), u9] ∧ (upd H5 ra (.lst (natsV r ++ [.int (q : Nat)]))) ra = some (.lst (natsV r')) ∧ r'.length = j + 1 ∧ (∀ z ∈ r', z < M) ∧ But p H1 (upd H5 ra (.lst (natsV r ++ [.int (q : Nat)]))) ∧ Pen p c (n + M + i * 20 + (j + 1)) (upd H5 ra (.lst (natsV r ++ [.int (q : Nat)]))) := fun q H5 hq e5 b5 P5 => ⟨o6, _, r ++ [q], rfl, by rw [upd_same, natsV_snoc], by rw [List.length_append, rlen]; rfl, fun z hz => (List.mem_append.mp hz).elim (rb z) fun hz => by rw [List.mem_singleton.mp hz]; exact hq, fun a u na e => by rw [upd_ne (ne_of_none e hra)]; exact b5 _ _ na e, (P5.upd npa nca).more (by omega)⟩
          dsimp only [gName]
          have wi : (ws.map PyData.str)[i]? = some (.str (ws.getD i Str.empty)) := by rw [List.getElem?_map, List.getD_eq_getElem?_getD, List.getElem?_eq_getElem (by omega)]; rfl
          have wn : nameB (ws.getD i Str.empty) = true := nam _ (wc _ (by rw [List.getD_eq_getElem?_getD, List.getElem?_eq_getElem (by omega)]; exact List.getElem_mem _))
          refine s_if (b := PyData.eqv (.str x) (.str (ws.getD i Str.empty))) (et_test (ed_eqD (K := K) (F := nn H3) (ed_var (i := 9) rfl (.str x)) (ed_ixL (j := i) (ed_var (i := 3) rfl (dp_df (.lst (SqL.of ew3) (dps_strs ws)))) (ed_var (i := 7) rfl (.int _)) wi) (shaped_name (nam x (List.mem_of_getElem? hx))) (shaped_name wn))) (fun _ H4 s4 => ?_) (fun _ H4 s4 => ?_)
          · refine ⟨_, rfl, .inl ⟨rfl, _, SqL.of (s4 _ _ ea3)⟩, ?_⟩
            refine run_edc (K := K) (F := nn H4) (ed_mod (ed_add (ed_var (i := 7) rfl (.int _)) ed_int) (ed_var (i := 2) rfl (.int _)) (by omega)) fun v H5 s5 hv5 => ?_
            cases hv5
            obtain ⟨q, hq, hq2⟩ : ∃ q : Nat, (((i : Nat) : Int) + 1) % ((M : Nat) : Int) = (q : Nat) ∧ q < M := ⟨(i + 1) % M, by rw [Int.natCast_emod, Int.natCast_add]; rfl, Nat.mod_lt _ (by omega)⟩
            rw [hq]
            refine ⟨ra, _, _, rfl, rfl, s5 _ _ (s4 _ _ ea3), lt5 (by rw [natsV_len]; omega), ?_⟩
            exact fin q H5 hq2 (s5 _ _ (s4 _ _ ea3)) (b3.trans (But.of (s4.trans s5))) ((P3.same (s4.trans s5)).more (by omega))
          · refine ⟨_, rfl, .inl ⟨rfl, _, SqL.of (s4 _ _ ea3)⟩, ?_⟩
            refine ⟨_, rfl, _, rfl, _, rfl, (by show 3 ≤ sizeLine; decide), fun l hl => ?_⟩
            have s5 := Same.newA (o := .lst [.int ((i : Nat) : Int), .int ((i : Nat) : Int), .int 0]) hl
            refine ⟨p, c, l, _, _, rfl, (P3.same s4).same s5, .inl (.of upd_same), by show 0 < 3; decide, by show 3 < 100000; decide, by omega, fun y v H6 hv6 b6 P6 => ?_⟩
            obtain ⟨q, rfl, hq⟩ : ∃ q : Nat, v = .int (q : Nat) ∧ q < M := by
              match y, hv6 with
              | 0, h => cases h; exact ⟨i, rfl, hi⟩
              | 1, h => cases h; exact ⟨i, rfl, hi⟩
              | 2, h => cases h; exact ⟨0, rfl, by omega⟩
            have e6 := b6 _ _ npa (s5 _ _ (s4 _ _ ea3))
            refine ⟨ra, _, _, rfl, rfl, e6, lt5 (by rw [natsV_len]; omega), ?_⟩
            exact fin q H6 hq e6 (b3.trans ((But.of (s4.trans s5)).trans b6)) P6
        · clear ea2 P2 b2
          rintro σ' H3 ⟨o6, o9, r, rfl, ea3, rlen, rb, b3, P3⟩
          rw [List.length_map] at rlen P3
          have e3 := b3 _ _ npr e1
          have nar : ra ≠ rl := Ne.symm (ne_of_none e1 hra)
          refine ⟨_, rfl, .inl ⟨rfl, _, SqL.of e3⟩, _, rfl, rl, _, _, rfl, rfl, e3, lt5 (by rw [List.length_map]; omega), ?_⟩
          have kp : ∀ a u, a ≠ p → a ≠ rl → H1 a = some u → (upd H3 rl (.lst (zs.map (fun z => V.ref z.1) ++ [.ref ra]))) a = some u := fun a u na nr e => by rw [upd_ne nr]; exact b3 _ _ na e
          refine ⟨_, _, _, _, zs ++ [(ra, r)], rfl, by rw [upd_same, List.map_append]; rfl, by rw [List.length_append, zl]; rfl, (za.kept fun a xs na e => kp _ _ (P1.ne e fun _ y => nomatch y) na e).snoc nar (by rw [upd_ne nar]; exact ea3) rlen rb, kp _ _ npm nrm em1, kp _ _ npw nwr ew1, fun a u na e => ?_, (P3.upd npr ncr).more (by omega)⟩
          rw [upd_ne (ne_of_none e fr)]; exact b3 _ _ na (b1 _ _ na e)
      · clear er0 em0 b0 P1 ew0
        rintro σ' H1 ⟨o6, o7, o8, o9, zs, rfl, e1, zl, za, em1, ew1, b1, P1⟩
        have rl5 : (zs.map Prod.snd).length = M := by rw [List.length_map, zl]
        have wx : ws[ws.length - 1]? = some (ws.getD (ws.length - 1) Str.empty) := by rw [List.getD_eq_getElem?_getD, List.getElem?_eq_getElem (by omega)]; rfl
        have wm := wc _ (List.mem_of_getElem? wx)
        dsimp only
        refine ⟨_, rfl, _, rfl, _, _, rfl, rfl, _, rfl, 1, rfl, .inl ⟨wl, _, -1, .str (ws.getD (ws.length - 1) Str.empty), rfl, rfl, SqL.of ew1, atI_neg (k := 1) (by decide) (by rw [List.length_map]; omega) (by rw [List.length_map, List.getElem?_map, wx]; rfl), (by show 2 ≤ sizeLine; decide), fun t ht => ?_⟩⟩
        have s2 := Same.newA (o := .tup [.int (((M : Nat) : Int) - 1), .str (ws.getD (ws.length - 1) Str.empty)]) ht
        have eM : ((M : Nat) : Int) - 1 = ((M - 1 : Nat) : Int) := by omega
        refine ⟨md, _, rfl, DPut.t (k := [.inl ((M - 1 : Nat) : Int), .inr (ws.getD (ws.length - 1) Str.empty)]) (s2 _ _ em1) (by rw [upd_same]; show some (HO.tup [V.int (((M : Nat) : Int) - 1), _]) = _; rw [eM]; rfl) (lt5 (by show 0 < 100000; decide)), ?_⟩
        have kp : ∀ a u, a ≠ md → H1 a = some u → (upd (upd H1 t (.tup [.int (((M : Nat) : Int) - 1), .str (ws.getD (ws.length - 1) Str.empty)])) md (.dT (putK [] [.inl ((M - 1 : Nat) : Int), .inr (ws.getD (ws.length - 1) Str.empty)] (.bl true)))) a = some u := fun a u nm e => by rw [upd_ne nm]; exact s2 _ _ e
        have b2 : But p H (upd (upd H1 t (.tup [.int (((M : Nat) : Int) - 1), .str (ws.getD (ws.length - 1) Str.empty)])) md (.dT (putK [] [.inl ((M - 1 : Nat) : Int), .inr (ws.getD (ws.length - 1) Str.empty)] (.bl true)))) := fun a u na e => kp _ _ (ne_of_none e fm) (b1 _ _ na e)
        have P2 := ((P1.same s2).upd (o := .dT (putK [] [.inl ((M - 1 : Nat) : Int), .inr (ws.getD (ws.length - 1) Str.empty)] (.bl true))) npm ncm)
        refine ⟨_, rfl, _, rfl, _, rfl, cl, rl, md, cs, zs.map Prod.snd, _, rfl, SqL.of (ecl' _ b2), zs_dp (za.kept fun a xs na e => kp _ _ (ne_of e em1 fun y => nomatch y) e) (kp _ _ (Ne.symm nrm) e1), upd_same, by omega, by omega, by omega, zs_rok za zl, fun m rs' H2 s3 ga rok l1 l2 => ?_⟩
        exact k m rs' H2 (b2.trans (But.of s3)) ((P2.same s3).more (by omega)) ga rok l1 (by omega)
end
end Ag

set_option Elab.async false
set_option linter.all false
set_option maxRecDepth 100000
set_option maxHeartbeats 2000000
set_option pp.maxSteps 300
/-! dict(list of pairs) where the keys are tuples of numbers and texts. -/
namespace Ag
open PySem PySem.Spec PyProof.Rows L2
/-- a pair: where it stands, where its key stands, the key, the value -/
structure PrT where
  t : Addr
  b : Addr
  k : List Key
  v : V
def putAll (kvs : List (List Key × V)) (zs : List PrT) : List (List Key × V) := zs.foldl (fun acc z => putK acc z.k z.v) kvs
theorem putAll_len : ∀ (zs : List PrT) (kvs : List (List Key × V)), (putAll kvs zs).length ≤ kvs.length + zs.length
  | [], kvs => Nat.le_refl _
  | z :: zs, kvs => by
    have a := putAll_len zs (putK kvs z.k z.v)
    have b := length_putK kvs z.k z.v
    show (putAll (putK kvs z.k z.v) zs).length ≤ _
    rw [List.length_cons]; omega
inductive PrsRel (H : Hp) : List PrT → List (List Key × Addr × Value) → Prop
  | nil : PrsRel H [] []
  | cons {z : PrT} {zs : List PrT} {u : Value} {ps} (h : H z.b = some (.tup (z.k.map kV))) (r : RelV z.v u) (t : PrsRel H zs ps) : PrsRel H (z :: zs) ((z.k, z.b, u) :: ps)
theorem kt_all {H : Hp} : ∀ {zs : List PrT} {ps : List (List Key × Addr × Value)}, PrsRel H zs ps → ∀ {kvs : List (List Key × V)} {xs : List (List Key × Addr × Value)}, KT H kvs xs → KT H (putAll kvs zs) (storedAllH xs ps)
  | _, _, .nil, _, _, r => r
  | _, _, .cons h rv t, _, _, r => kt_all t (r.put _ h rv)
theorem small5' {n : Nat} (h : n ≤ 100000) : n ≤ sizeLine := Nat.le_trans h (by decide)
section
variable {X : Cx}
def rDictPT (K : PySem.W.Frag) : List V → Hp → VK → Prop := fun xs H Q => ∃ (a : Addr) (zs : List PrT), xs = [.ref a] ∧ SqL K H a (zs.map fun z => V.ref z.t) ∧ (∀ z ∈ zs, SqT K H z.t [.ref z.b, z.v] ∧ H z.b = some (.tup (z.k.map kV))) ∧ zs.length ≤ 100000 ∧ ∀ p, H p = none → Q (.ref p) (upd H p (.dT (putAll [] zs)))
theorem prs_of {pins : List (Addr × Obj)} {σ : L2.St} {H : Hp} {s : Shared} (I : L2.Inv X pins σ H s) : ∀ (zs : List PrT), (∀ z ∈ zs, SqT X.K H z.t [.ref z.b, z.v] ∧ H z.b = some (.tup (z.k.map kV))) → ∃ ps, PrsRel H zs ps ∧ ps.length = zs.length ∧ ∀ (j : Nat) (z : PrT), zs[j]? = some z → ∃ u, ps[j]? = some (z.k, z.b, u) ∧ PairAt s.heap z.t (.ref z.b) u
  | [], _ => ⟨[], .nil, rfl, fun j z h => by simp at h⟩
  | z :: zs, h => by
    obtain ⟨ps, r, l, e⟩ := prs_of I zs fun y hy => h y (List.mem_cons_of_mem _ hy)
    obtain ⟨h1, h2⟩ := h z List.mem_cons_self
    obtain ⟨its, rv, ⟨o, e1, e2, m, e3⟩, _⟩ := I.tuple h1
    obtain ⟨u, rfl, ru⟩ : ∃ u, its = [Value.ref z.b, u] ∧ RelV z.v u := by
      cases rv with
      | cons r1 r2 =>
        cases r1
        cases r2 with
        | cons r3 r4 => cases r4; exact ⟨_, rfl, r3⟩
    refine ⟨(z.k, z.b, u) :: ps, .cons h2 ru r, by rw [List.length_cons, List.length_cons, l], fun j y hy => ?_⟩
    cases j with
    | zero => cases hy; exact ⟨u, rfl, .inl ⟨o, e1, e2, m, by rw [e3]⟩⟩
    | succ j => exact e j y hy
theorem call_dictPT (hc : X.calm = true) (hu : X.A.units + 10 < cLine) : CallR X (.type "dict") (rDictPT X.K) := by
  intro pins s σ H xs us Q I r h
  obtain ⟨a, zs, rfl, hs, hz, hl, q⟩ := h
  rw [Vals.ref1 r]
  have hn : H s.heap.objs.size = none := I.hok.fresh (Nat.le_refl _)
  obtain ⟨its, rv, ⟨o, n, ho, hcl, hdn, hdat⟩, _⟩ := I.list hs
  obtain ⟨ps, rel, pl, at_⟩ := prs_of I zs hz
  have ie : its = zs.map fun z => Value.ref z.t := by
    have all : ∀ (ys : List PrT) (vs : List Value), Vals (ys.map fun z => V.ref z.t) vs → vs = ys.map fun z => Value.ref z.t := by
      intro ys
      induction ys with
      | nil => intro vs h; cases h; rfl
      | cons y ys ih =>
        intro vs h
        cases h with
        | cons r1 r2 => cases r1; rw [ih _ r2]; rfl
    exact all zs its rv
  have pe : (ps.map fun x => (Value.ref x.2.1, x.2.2)).length = zs.length := by rw [List.length_map, pl]
  refine call_dict_pairsH (knd := tupleKind (mixKind X.prog X.w)) (ps := ps) (PairArg.list a its.toArray (fun j => (zs[j]?.map (·.t)).getD 0) (ps.map fun x => (Value.ref x.2.1, x.2.2))) (I.ok.hd hc) ?_ ⟨⟨o, n, ho, hcl, hdn, hdat⟩, ?_, ?_⟩ ⟨by rw [List.length_map], ?_⟩ ?_ ?_ ?_
  · show X.A.units + 1 + 1 < cLine
    omega
  · rw [pe, List.size_toArray, ie, List.length_map]
  · intro j k v hj
    rw [List.getElem?_map] at hj
    cases e : ps[j]? with
    | none => rw [e] at hj; cases hj
    | some x =>
      rw [e] at hj
      cases hj
      have jl : j < zs.length := by rw [← pl]; exact (List.getElem?_eq_some_iff.mp e).1
      have hz2 : zs[j]? = some zs[j] := List.getElem?_eq_getElem jl
      obtain ⟨u, e2, pa⟩ := at_ j _ hz2
      rw [e] at e2
      cases e2
      refine ⟨?_, ?_⟩
      · rw [List.getElem?_toArray, ie, List.getElem?_map, hz2]; show some (Value.ref zs[j].t) = some (Value.ref ((zs[j]?.map (·.t)).getD 0)); rw [hz2]; rfl
      · show PairAt s.heap ((zs[j]?.map (·.t)).getD 0) _ _
        rw [hz2]; exact pa
  · intro i key v h
    have h : (ps.map fun x => (Value.ref x.2.1, x.2.2))[i]? = some (key, v) := h
    rw [List.getElem?_map] at h
    cases e : ps[i]? with
    | none => rw [e] at h; cases h
    | some x => rw [e] at h; cases h; exact ⟨x.1, x.2.1, rfl, rfl⟩
  · intro h' hk x hx
    obtain ⟨j, hj⟩ := List.getElem?_of_mem hx
    have jl : j < zs.length := by rw [← pl]; exact (List.getElem?_eq_some_iff.mp hj).1
    have hz2 : zs[j]? = some zs[j] := List.getElem?_eq_getElem jl
    obtain ⟨u, e2, _⟩ := at_ j _ hz2
    rw [hj] at e2
    cases e2
    exact tkind_ok.old (fun b o e => hk b o (Nat.ne_of_lt (Heap.lt_size e)) (fun z => nomatch z) e) (key_of I.hok (hz _ (List.mem_of_getElem? hz2)).2)
  · rw [List.length_map, pl]; exact small5' hl
  · intro h' tk hd hk
    have kp : ∀ b o, s.heap.get? b = some o → h'.get? b = some o := fun b o e => hk b o (fun z => nomatch z) e
    have hm : (s.heap.objs.size == sysModules) = false := beq_eq_false_iff_ne.mpr (Nat.ne_of_gt I.big)
    obtain ⟨od, es, ep, h1, h2, h3, h4, _, h5⟩ := hd
    refine ⟨.ref s.heap.objs.size, upd H s.heap.objs.size (.dT (putAll [] zs)), I.laid (t' := tk) kp (Nat.le_refl _) (show ObjOk X.prog X.w _ _ _ (.dT (putAll [] zs)) from ⟨?_, hm, _, (kt_all rel .nil).keeps fun c ys ec => ?_, od, es, ep, h1, h2, h3, h4, h5⟩), rfl, q _ hn⟩
    · have := putAll_len zs []
      exact small5' (by rw [List.length_nil] at this; omega)
    · rw [upd_ne (ne_of_none ec hn)]; exact ec
end
end Ag

set_option Elab.async false
set_option linter.all false
set_option maxRecDepth 100000
set_option maxHeartbeats 4000000
set_option pp.maxSteps 1000
namespace Ag
open PySem PySem.Spec PyProof.Rows L2
abbrev listR (K : PySem.W.Frag) : List V → Hp → VK → Prop := fun xs H Q => ∃ p ys, xs = [.ref p] ∧ (SqL K H p ys ∨ SqT K H p ys) ∧ ∀ l, H l = none → Q (.ref l) (upd H l (.lst ys))
theorem gl1 : ¬ (ck "rows" = ck "calls") := by decide +kernel
theorem gl2 : ¬ (ck "marks" = ck "calls") := by decide +kernel
theorem gl3 : ¬ (ck "marks" = ck "rows") := by decide +kernel
section
variable {ct rl fd : Addr} {H : Hp} {m : Addr}
theorem gk_calls (h : H m = some (.dK (goalKV ct rl fd))) : DGet H m (.str "calls") (some (.ref ct)) := by
  have q := DGet.k (k := ck "calls") h
  rw [show valV (goalKV ct rl fd) (ck "calls") = some (.ref ct) from valV_pos rfl] at q; exact q
theorem gk_rows (h : H m = some (.dK (goalKV ct rl fd))) : DGet H m (.str "rows") (some (.ref rl)) := by
  have q := DGet.k (k := ck "rows") h
  rw [show valV (goalKV ct rl fd) (ck "rows") = some (.ref rl) by unfold goalKV; rw [valV_neg (fun z => gl1 z.symm)]; exact valV_pos rfl] at q; exact q
theorem gk_marks (h : H m = some (.dK (goalKV ct rl fd))) : DGet H m (.str "marks") (some (.ref fd)) := by
  have q := DGet.k (k := ck "marks") h
  rw [show valV (goalKV ct rl fd) (ck "marks") = some (.ref fd) by unfold goalKV; rw [valV_neg (fun z => gl2 z.symm), valV_neg (fun z => gl3 z.symm)]; exact valV_pos rfl] at q; exact q
end
theorem run_op {r : R2} {ta tb : TE} {σ : L2.St} {H : Hp} {Q : VK} (h : ta σ H fun x H1 => tb σ H1 fun y H2 => r x y H2 Q) : tOp r ta tb σ H Q := h
theorem rgV_nats (m : Nat) : rgV 0 (m : Nat) = natsV (List.range m) := by
  unfold rgV natsV
  rw [show ((m : Nat) : Int) - 0 = (m : Nat) by omega, Int.toNat_natCast]
  exact List.map_congr_left fun i _ => by rw [Int.zero_add]
theorem goal_ne {p c n : Nat} {H : Hp} {m ct rl fd : Addr} (P : Pen p c n H) (h : H m = some (.dK (goalKV ct rl fd))) : m ≠ p := fun z => by
  subst z
  obtain ⟨ce, a', dd, k, f, hp, _⟩ := P
  have z := HO.dK.inj (Option.some.inj (h.symm.trans hp))
  have := congrArg List.length z
  unfold goalKV penKV at this
  simp at this
theorem keys_dpsG {K : PySem.W.Frag} {H : Hp} : ∀ {km : List (List Key × V)} {bs : List Addr}, IsKeys H km bs → DpAll K H (bs.map V.ref) (km.map fun q => keyD q.1) := by
  intro km bs h
  unfold IsKeys at h
  induction h with
  | nil => exact .nil
  | cons hq _ ih => exact .cons (.tup (SqT.of hq) (dps_key _)) ih
theorem keys_mem {H : Hp} : ∀ {km : List (List Key × V)} {bs : List Addr}, IsKeys H km bs → ∀ b ∈ bs, ∃ q ∈ km, H b = some (.tup (q.1.map kV)) := by
  intro km bs h
  unfold IsKeys at h
  induction h with
  | nil => exact fun b hb => absurd hb List.not_mem_nil
  | cons hq _ ih =>
    intro b hb
    rcases List.mem_cons.mp hb with rfl | hb
    · exact ⟨_, List.mem_cons_self, hq⟩
    · obtain ⟨q, h1, h2⟩ := ih b hb
      exact ⟨q, List.mem_cons_of_mem _ h1, h2⟩
/-- pairs that are being made -/
def PrsAt (H : Hp) (prs : List PrT) : Prop := ∀ z ∈ prs, H z.t = some (.tup [.ref z.b, z.v]) ∧ H z.b = some (.tup (z.k.map kV))
theorem run_tt {K : PySem.W.Frag} {σ : L2.St} {F : Addr → Prop} {H : Hp} {te : TE} {n : Int} {j : Nat} {x : Str} {Q : VK} (h : ED K te σ F H (.int n)) (h2 : σ[j]? = some (some (.str x))) (k : ∀ t1 t2 H1, Same H H1 → H1 t1 = some (.tup [.int n, .str x]) → H1 t2 = some (.tup [.ref t1, .bl true]) → Q (.ref t2) H1) :
    tTup (tCons (tTup (tCons te (tCons (tVar j) tNil))) (tCons (tC (.bl true)) tNil)) σ H Q := h H (Same.refl _) _ fun v H1 s1 hv => by
  cases hv
  exact ⟨_, h2, (by show 2 ≤ sizeLine; decide), fun t1 ht1 => ⟨(by show 2 ≤ sizeLine; decide), fun t2 ht2 => k t1 t2 _ (s1.trans ((Same.newA ht1).trans (Same.newA ht2))) (Same.newA ht2 _ _ upd_same) upd_same⟩⟩
theorem told2 (rs2 : List (List Nat)) (es : List PyData) (ls : List Nat) : PyData.list ((natsD ls).map fun d => .list ((natsD (rs2.getD (numOf d) [])).map fun e => .int (plD es e : Nat))) = rowsL (ls.map fun st => (rs2.getD st []).map fun z => plD es (.int (z : Nat))) := by
  unfold rowsL natsD
  rw [List.map_map, List.map_map]
  refine congrArg PyData.list (List.map_congr_left fun st _ => ?_)
  show PyData.list _ = PyData.list _
  rw [List.map_map]
  simp only [List.map_map]
  rfl
def spGoal (K : PySem.W.Frag) : Sp := fun vs H Q _ => ∃ (p c n : Nat), vs = [.ref p] ∧ Pen p c n H ∧ n + 2000000 < 1000000000000 ∧
  ∀ m cs rs H', But p H H' → Pen p c (n + 2000) H' → GoalAt K m cs rs H' → RowsOk cs.length rs → 1 ≤ rs.length → rs.length ≤ 5 → 2 ≤ cs.length → cs.length ≤ 3 → (∀ x ∈ cs, nameB x = true) → Q (.ref m) H'
section
variable {P : Program} {w : World} {K : PySem.W.Frag} {mg : Str → Option Value} {base : Heap} (T : Txt w K mg)
theorem ok_goal : FnOk P w K mg base CX0 5 T.a_law_goal T.d_law_goal ["pen"] (spGoal K) := by
  have G_law_draw := ok_draw (P := P) (base := base) T
  have G_law_pick := ok_pick (P := P) (base := base) T
  have G_law_names := ok_names (P := P) (base := base) T
  have G_law_tight := ok_tight (P := P) (base := base) T
  have G_law_some_machine := ok_some_machine (P := P) (base := base) T
  have G_law_turn_machine := ok_turn_machine (P := P) (base := base) T
  refine T.D_law_goal.fn.ok sc_law_goal (fun vs H Q E h => ?_) (fun cdv A outer s H vs Q E hr h => ?_)
  · obtain ⟨p, c, n, rfl, _⟩ := h; rfl
  · obtain ⟨p, c, n, rfl, P0, hn, k⟩ := h
    refine ⟨_, (C8.pss_cut (ps_set (i := 1) sc_law_goal.nd rfl (by first | exact Or.inl rfl | exact Or.inr rfl) (pe_callB cr_sortedS (by rfl) T.b_sorted bt_sorted (pa_cons (pe_call (G_law_names) (hr.mono (by omega)) (by rfl) T.D_law_names.mg T.D_law_names.fn.kp T.D_law_names.bd .nil pass0 (pa_cons (pv 0) (pa_cons (pe_op op_add pe_int (pe_ifExp (pt_cmpR op_eq (pe_call (G_law_draw) (hr.mono (by omega)) (by rfl) T.D_law_draw.mg T.D_law_draw.fn.kp T.D_law_draw.bd .nil pass0 (pa_cons (pv 0) (pa_cons pe_int pa_nil))) pe_int (nomark _)) pe_int pe_int)) pa_nil))) pa_nil)))
      (pss_cons (ps_set (i := 2) sc_law_goal.nd rfl (by first | exact Or.inl rfl | exact Or.inr rfl) (pe_call (G_law_draw) (hr.mono (by omega)) (by rfl) T.D_law_draw.mg T.D_law_draw.fn.kp T.D_law_draw.bd .nil pass0 (pa_cons (pv 0) (pa_cons pe_int pa_nil))))
      (pss_cons (ps_if (pt_cmpR op_lt (pv 2) pe_int (nomark _)) (pss_one (ps_ret (pe_call (G_law_some_machine) (hr.mono (by omega)) (by rfl) T.D_law_some_machine.mg T.D_law_some_machine.fn.kp T.D_law_some_machine.bd .nil pass0 (pa_cons (pv 0) (pa_cons (pv 1) (pa_cons (pe_op op_add pe_int (pe_call (G_law_draw) (hr.mono (by omega)) (by rfl) T.D_law_draw.mg T.D_law_draw.fn.kp T.D_law_draw.bd .nil pass0 (pa_cons (pv 0) (pa_cons pe_int pa_nil)))) pa_nil)))))) pss_nil)
      (pss_cons (ps_if (pt_cmpR op_lt (pv 2) pe_int (nomark _)) (pss_one (ps_ret (pe_call (G_law_turn_machine) (hr.mono (by omega)) (by rfl) T.D_law_turn_machine.mg T.D_law_turn_machine.fn.kp T.D_law_turn_machine.bd .nil pass0 (pa_cons (pv 0) (pa_cons (pv 1) (pa_cons (pe_op op_add pe_int (pe_call (G_law_draw) (hr.mono (by omega)) (by rfl) T.D_law_draw.mg T.D_law_draw.fn.kp T.D_law_draw.bd .nil pass0 (pa_cons (pv 0) (pa_cons pe_int pa_nil)))) pa_nil)))))) pss_nil)
      (pss_cons (ps_set (i := 3) sc_law_goal.nd rfl (by first | exact Or.inl rfl | exact Or.inr rfl) (pe_call (G_law_turn_machine) (hr.mono (by omega)) (by rfl) T.D_law_turn_machine.mg T.D_law_turn_machine.fn.kp T.D_law_turn_machine.bd .nil pass0 (pa_cons (pv 0) (pa_cons (pv 1) (pa_cons (pe_op op_add pe_int (pe_call (G_law_draw) (hr.mono (by omega)) (by rfl) T.D_law_draw.mg T.D_law_draw.fn.kp T.D_law_draw.bd .nil pass0 (pa_cons (pv 0) (pa_cons pe_int pa_nil)))) pa_nil)))))
      (pss_cons (ps_set (i := 4) sc_law_goal.nd rfl (by first | exact Or.inl rfl | exact Or.inr rfl) (pe_callB call_len (by rfl) T.b_len bt_len (pa_cons (pe_dget (hu_of hr) (pv 3) pe_str (fun _ _ => rfl)) pa_nil)))
      (pss_cons (ps_set (i := 5) sc_law_goal.nd rfl (by first | exact Or.inl rfl | exact Or.inr rfl) (pe_op op_cat (pe_lc (own := [("row", 6)]) rfl sc_law_goal.nd (pi_list (pe_dget (hu_of hr) (pv 3) pe_str (fun _ _ => rfl))) (blkOk_by (own := [("row", 6)]) (N := ["pen", "calls", "kind", "inner", "many", "rows", "row", "call", "names", "marks", "state", "later"]) (sc := defScope s_law_goal) (by decide +kernel)) (fun _ _ _ _ _ => (pg_name (i := 6) sc_law_goal.nd rfl (by first | exact Or.inl rfl | exact Or.inr rfl))) (fun _ _ _ _ _ => pts_nil) (fun _ _ _ _ _ => (pe_callTy (r := listR K) call_list_of (by rfl) T.b_list bt_list (pa_cons (pv 6) pa_nil)))) (pe_lst (pa_cons (pe_lc (own := [("call", 7)]) rfl sc_law_goal.nd (pi_list (pv 1)) (blkOk_by (own := [("call", 7)]) (N := ["pen", "calls", "kind", "inner", "many", "rows", "row", "call", "names", "marks", "state", "later"]) (sc := defScope s_law_goal) (by decide +kernel)) (fun _ _ _ _ _ => (pg_name (i := 7) sc_law_goal.nd rfl (by first | exact Or.inl rfl | exact Or.inr rfl))) (fun _ _ _ _ _ => pts_nil) (fun _ _ _ _ _ => (pe_call (G_law_pick) (hr.mono (by omega)) (by rfl) T.D_law_pick.mg T.D_law_pick.fn.kp T.D_law_pick.bd .nil pass0 (pa_cons (pv 0) (pa_cons (pe_lst (pa_cons (pv 4) (pa_cons pe_int (pa_cons (pv 4) pa_nil)))) pa_nil))))) pa_nil))))
      (pss_cons (ps_set (i := 8) sc_law_goal.nd rfl (by first | exact Or.inl rfl | exact Or.inr rfl) (pe_op op_cat (pe_lst (pa_cons (pv 4) pa_nil)) (pe_listRg rfl (by rfl) T.b_list (prg_1 (by rfl) T.b_range (pv 4)))))
      (pss_cons (ps_set (i := 9) sc_law_goal.nd rfl (by first | exact Or.inl rfl | exact Or.inr rfl) (pe_callTy (r := rDictPT K) (call_dictPT rfl (Nat.lt_of_le_of_lt (Nat.add_le_add_left (show 10 ≤ 64 by decide) _) hr.units)) (by rfl) T.b_dict bt_dict (pa_cons (pe_lc (own := [("state", 10), ("call", 7)]) (g := (gTup K 2 (gCons (gName 10) (gCons (gName 7) gNil)))) rfl sc_law_goal.nd (pi_list (pe_callB (cr_sortD hr.units) (by rfl) T.b_sorted bt_sorted (pa_cons (pe_callTy (call_list_dT rfl) (by rfl) T.b_list bt_list (pa_cons (pe_dget (hu_of hr) (pv 3) pe_str (fun _ _ => rfl)) pa_nil)) pa_nil))) (blkOk_by (own := [("state", 10), ("call", 7)]) (N := ["pen", "calls", "kind", "inner", "many", "rows", "row", "call", "names", "marks", "state", "later"]) (sc := defScope s_law_goal) (by decide +kernel)) (fun _ _ _ _ _ => (pg_tup rfl (pgs_cons (pg_name (i := 10) sc_law_goal.nd rfl (by first | exact Or.inl rfl | exact Or.inr rfl)) (pgs_cons (pg_name (i := 7) sc_law_goal.nd rfl (by first | exact Or.inl rfl | exact Or.inr rfl)) pgs_nil)))) (fun _ _ _ _ _ => pts_nil) (fun _ _ _ _ _ => (pe_tup (pa_cons (pe_tup (pa_cons (pe_ixD (K := K) rfl (u65 hr) (pv 8) (pv 10)) (pa_cons (pv 7) pa_nil))) (pa_cons pe_bl pa_nil))))) pa_nil)))
      (pss_one (ps_ret (pe_call (G_law_tight) (hr.mono (by omega)) (by rfl) T.D_law_tight.mg T.D_law_tight.fn.kp T.D_law_tight.bd .nil pass0 (pa_cons (pv 1) (pa_cons (pe_lc (own := [("state", 10)]) (te := tLc (iList K (tOp (rIx K) (tVar 5) (tVar 10))) (gName 11) tYes (tBM K "list" (rIndexD K) (tVar 8) (tCons (tVar 11) tNil)) [11]) rfl sc_law_goal.nd (pi_list (pv 8)) (blkOk_by (own := [("state", 10)]) (N := ["pen", "calls", "kind", "inner", "many", "rows", "row", "call", "names", "marks", "state", "later"]) (sc := defScope s_law_goal) (by decide +kernel)) (fun _ _ _ _ _ => (pg_name (i := 10) sc_law_goal.nd rfl (by first | exact Or.inl rfl | exact Or.inr rfl))) (fun _ _ _ _ _ => pts_nil) (fun _ _ _ _ _ => (by refine pe_lc (own := [("later", 11)]) rfl sc_law_goal.nd ?_ (blkOk_by (own := [("later", 11)]) (N := ["pen", "calls", "kind", "inner", "many", "rows", "row", "call", "names", "marks", "state", "later"]) (sc := { kind := .function, names := [(".0", .local), ("state", .local), ("names", .cell), ("rows", .cell)], isGenerator := false, isCoroutine := false }) (by decide +kernel)) (fun _ _ _ _ _ => (pg_name (i := 11) sc_law_goal.nd rfl (by first | exact Or.inl rfl | exact Or.inr rfl))) (fun _ _ _ _ _ => pts_nil) (fun _ _ _ _ _ => (pe_ixD (K := K) rfl (u65 hr) (pv 8) (pv 11))); exact (pi_list (pe_ix (r := rIx K) ix_seq (pv 5) (pv 10) (fun _ _ => rfl)))))) (pa_cons (pv 9) pa_nil))))))))))))))), ?_⟩
    refine ⟨fun σ' H' => ∃ (cl : Addr) (cs : List Str), σ' = [some (.ref p), some (.ref cl), none, none, none, none, none, none, none, none, none, none] ∧ But p H H' ∧ Pen p c (n + 500) H' ∧ H' cl = some (.lst (cs.map V.str)) ∧ 2 ≤ cs.length ∧ cs.length ≤ 3 ∧ ∀ x ∈ cs, nameB x = true, ?_, ?_⟩
    · refine ⟨_, rfl, _, rfl, p, c, 4, _, rfl, P0, by decide, by decide, by omega, fun d H1 _ _ b1 P1 => ⟨rfl, _, rfl, ite2 (fun _ => ⟨_, _, rfl, rfl, p, c, 3, _, rfl, P1, by decide, by omega, fun l ns H2 hns fl el b2 P2 => ?_⟩) fun _ => ⟨_, _, rfl, rfl, p, c, 2, _, rfl, P1, by decide, by omega, fun l ns H2 hns fl el b2 P2 => ?_⟩⟩⟩
      all_goals
        have nln := nms_len hns
        refine ⟨l, ns, rfl, SqL.of el, by omega, fun cs cl pm so hcl => ?_⟩
        have s3 := Same.newA (o := .lst (cs.map V.str)) hcl
        refine ⟨cl, cs, rfl, b1.trans (b2.trans (But.of s3)), (P2.same s3).more (by omega), upd_same, by rw [pm.length_eq]; omega, by rw [pm.length_eq]; omega, fun x hx => ?_⟩
        obtain ⟨j, hj, hn2⟩ := nms_mem hns (pm.mem_iff.mp hx)
        exact nm_name (by omega) hn2
    · rintro σ' H1 ⟨cl, cs, rfl, b1, P1, ecl, l2, l3, nam⟩
      refine ⟨_, rfl, p, c, 6, _, rfl, P1, by decide, by decide, by omega, fun d H2 d0 d6 b2 P2 => ?_⟩
      have ecl := b2 _ _ (P1.ne ecl fun _ e => nomatch e) ecl
      have b12 := b1.trans b2
      clear b1 b2 P1
      dsimp only [gName]
      refine s_if (b := decide (d < 3)) (et_test (ed_lt (K := K) (F := nn H) (ed_var (i := 2) rfl (.int _)) ed_int)) (fun _ H3 s3 => ?_) (fun _ H3 s3 => ?_)
      · refine ⟨_, rfl, _, rfl, _, rfl, p, c, 3, _, rfl, P2.same s3, by decide, by decide, by omega, fun d2 H4 e0 e3 b4 P4 => ?_⟩
        obtain ⟨M, hM, M1, M4⟩ : ∃ M : Nat, 2 + d2 = (M : Int) ∧ 1 ≤ M ∧ M ≤ 5 := ⟨(2 + d2).toNat, by omega, by omega, by omega⟩
        refine ⟨_, _, rfl, rfl, p, c, cl, _, M, cs, by show [V.ref p, V.ref cl, V.int (2 + d2)] = _; rw [hM], P4, b4 _ _ ((P2.same s3).ne (s3 _ _ ecl) fun _ e => nomatch e) (s3 _ _ ecl), M1, M4, by omega, by omega, nam, by omega, fun m rs H' b P ga rok r1 r2 => ?_⟩
        exact k m cs rs H' (b12.trans ((But.of s3).trans (b4.trans b))) (P.more (by omega)) ga rok r1 (by omega) l2 l3 nam
      dsimp only [tNext]
      replace b12 := b12.trans (But.of s3)
      replace P2 := P2.same s3
      replace ecl := s3 _ _ ecl
      refine s_if (b := decide (d < 5)) (et_test (ed_lt (K := K) (F := nn H) (ed_var (i := 2) rfl (.int _)) ed_int)) (fun _ H4 s4 => ?_) (fun _ H4 s4 => ?_)
      · refine ⟨_, rfl, _, rfl, _, rfl, p, c, 3, _, rfl, P2.same s4, by decide, by decide, by omega, fun d2 H5 e0 e3 b5 P5 => ?_⟩
        obtain ⟨M, hM, M1, M4⟩ : ∃ M : Nat, 1 + d2 = (M : Int) ∧ 1 ≤ M ∧ M ≤ 5 := ⟨(1 + d2).toNat, by omega, by omega, by omega⟩
        refine ⟨_, _, rfl, rfl, p, c, cl, _, M, cs, by show [V.ref p, V.ref cl, V.int (1 + d2)] = _; rw [hM], P5, b5 _ _ ((P2.same s4).ne (s4 _ _ ecl) fun _ e => nomatch e) (s4 _ _ ecl), M1, M4, by omega, by omega, nam, by omega, fun m rs H' b P ga rok r1 r2 => ?_⟩
        exact k m cs rs H' (b12.trans ((But.of s4).trans (b5.trans b))) (P.more (by omega)) ga rok r1 (by omega) l2 l3 nam
      dsimp only [tNext]
      replace b12 := b12.trans (But.of s4)
      replace P2 := P2.same s4
      replace ecl := s4 _ _ ecl
      refine ⟨_, rfl, _, rfl, _, rfl, p, c, 2, _, rfl, P2, by decide, by decide, by omega, fun d2 H5 e0 e3 b5 P5 => ?_⟩
      obtain ⟨M, hM, M1, M4⟩ : ∃ M : Nat, 1 + d2 = (M : Int) ∧ 1 ≤ M ∧ M ≤ 2 := ⟨(1 + d2).toNat, by omega, by omega, by omega⟩
      refine ⟨_, _, rfl, rfl, p, c, cl, _, M, cs, by show [V.ref p, V.ref cl, V.int (1 + d2)] = _; rw [hM], P5, b5 _ _ (P2.ne ecl fun _ e => nomatch e) ecl, M1, by omega, by omega, by omega, nam, by omega, fun g rs H6 b6 P6 ga rok r1 r2 => ?_⟩
      have b16 := b12.trans (b5.trans b6)
      have ecl := b6 _ _ (P5.ne (b5 _ _ (P2.ne ecl fun _ e => nomatch e) ecl) fun _ e => nomatch e) (b5 _ _ (P2.ne ecl fun _ e => nomatch e) ecl)
      clear b12 P2 b5 P5 b6 s3 s4 P0
      dsimp only [gName]
      obtain ⟨ct, rl, fd, kvs, eg, hct, hrl, efd, mk, kvl⟩ := ga
      have edg : ∀ (σ : L2.St), σ[3]? = some (some (.ref g)) → ED K (tDGet (tVar 3) (tC (.str "rows"))) σ (nn H6) H6 (rowsL rs) := fun σ e H1 s1 Q q => ⟨_, e, g, _, rfl, gk_rows (s1 _ _ eg), q _ H1 (Same.refl _) (df_mono s1 Fr.base (dp_df hrl))⟩
      refine run_asgd (K := K) (F := nn H6) (d := .int (rs.length : Nat)) (ed_is (ed_len (edg _ rfl) rfl) (by unfold rowsL; rw [lenL, List.length_map])) fun v H7 s7 hv => ?_
      cases hv
      have edg : ∀ (σ : L2.St), σ[3]? = some (some (.ref g)) → ED K (tDGet (tVar 3) (tC (.str "rows"))) σ (nn H7) H7 (rowsL rs) := fun σ e H1 s1 Q q => ⟨_, e, g, _, rfl, gk_rows (s1 _ _ (s7 _ _ eg)), q _ H1 (Same.refl _) (df_mono s1 Fr.base (dp_df (dp_mono s7 hrl)))⟩
      dsimp only [gName]
      refine run_asg (run_op ?_)
      refine lc_run (K := K) (F := nn H7) (ds := rs.map fun r => PyData.list (natsD r)) (f := fun _ => true) (m := fun d => .list (seqOf d)) (ei_list (edg _ rfl)) (by rw [List.length_map]; omega) ?_ H7 (Same.refl _) _ fun D ys H8 s8 fD eD hys => ?_
      · intro F8 H8 e8 v8 d8 hd8 hv8
        obtain ⟨r, _, rfl⟩ := List.mem_map.mp hd8
        refine ⟨_, fun Q q => q, rfl, et_yes, fun _ => ?_⟩
        exact ed_listOf (ed_var (i := 6) rfl hv8) rfl
      have hys : DpAll K H8 ys (rs.map fun r => PyData.list (natsD r)) := by
        have := dfs_dps hys
        rw [List.filter_eq_self.mpr (fun _ _ => rfl), List.map_map] at this
        exact this
      have s68 := s7.trans s8
      have P8 := P6.same s68
      have ecl := s68 _ _ ecl
      have eg := s68 _ _ eg
      have efd := s68 _ _ efd
      have b8 := b16.trans (But.of s68)
      clear s68 s7 s8 P6 b16 hrl hct
      refine ⟨_, rfl, cl, rfl, ⟨_, SqL.of ecl⟩, fun R hR => lc_list (K := K) (a := cl) (xs := cs.map V.str) (fun j H' => ∃ is : List Nat, H' R = some (.lst (natsV is)) ∧ is.length = j ∧ (∀ z ∈ is, z < rs.length + 1) ∧ But p H8 H' ∧ Pen p c (n + 900 + j) H')
        ⟨[], upd_same, rfl, (fun z h => nomatch h), .of (Same.newA hR), (P8.upd (P8.ne_p hR) (P8.ne_c hR)).more (by omega)⟩ (fun j H' _ ⟨_, _, _, _, b, _⟩ => SqL.of (b _ _ (P8.ne ecl fun _ e => nomatch e) ecl)) ?_ ?_⟩
      · rintro j x H9 hx ⟨is, e9, il, ib, b9, P9⟩
        have jl : j < cs.length := by
          have := (List.getElem?_eq_some_iff.mp hx).1
          rw [List.length_map] at this; exact this
        refine ⟨rfl, et_yes H9 (Same.refl _) _ fun H9' s9' => ite2 (fun _ => ?_) fun z => absurd rfl z⟩
        refine ⟨_, rfl, _, rfl, _, rfl, (by show 3 ≤ sizeLine; decide), fun l hl => ?_⟩
        have s10 := Same.newA (o := .lst [.int (rs.length : Nat), .int 0, .int (rs.length : Nat)]) hl
        refine ⟨p, c, l, _, _, rfl, (P9.same s9').same s10, .inl (.of upd_same), by show 0 < 3; decide, by show 3 < 100000; decide, by omega, fun y v H11 hv11 b11 P11 => ?_⟩
        obtain ⟨q, rfl, hq⟩ : ∃ q : Nat, v = .int (q : Nat) ∧ q < rs.length + 1 := by
          match y, hv11 with
          | 0, h => cases h; exact ⟨rs.length, rfl, by omega⟩
          | 1, h => cases h; exact ⟨0, rfl, by omega⟩
          | 2, h => cases h; exact ⟨rs.length, rfl, by omega⟩
        have e11 := b11 _ _ (P8.ne_p hR) (s10 _ _ (s9' _ _ e9))
        refine ⟨_, e11, lt5 (by rw [natsV_len]; omega), is ++ [q], by rw [upd_same, natsV_snoc], by rw [List.length_append, il]; rfl, fun z hz => ?_, fun a u na e => ?_, (P11.upd (P8.ne_p hR) (P8.ne_c hR)).more (by omega)⟩
        · rcases List.mem_append.mp hz with hz | hz
          · exact ib z hz
          · rw [List.mem_singleton.mp hz]; exact hq
        · rw [upd_ne (ne_of_none e hR)]
          exact b11 _ _ na (s10 _ _ (s9' _ _ (b9 _ _ na e)))
      rintro H9 ⟨is, eR, il, ib, b9, P9⟩
      rw [List.length_map] at il P9
      refine ⟨(by show 1 ≤ sizeLine; decide), fun L hL => ?_⟩
      have s10 := Same.newA (o := .lst [.ref R]) hL
      have eD9 := b9 _ _ (P8.ne eD fun _ e => nomatch e) eD
      have ysl : ys.length = rs.length := by have := dps_len hys; rw [List.length_map] at this; exact this
      refine ⟨D, L, _, _, rfl, rfl, s10 _ _ eD9, upd_same, small5 (by rw [ysl]; show _ + 1 ≤ 100000; omega), fun rw' hrw => ?_⟩
      have s11 := Same.newA (o := .lst (ys ++ [.ref R])) hrw
      have s101 := s10.trans s11
      have hrows : Dp K (upd (upd H9 L (.lst [.ref R])) rw' (.lst (ys ++ [.ref R]))) (.ref rw') (rowsL (rs ++ [is])) := by
        unfold rowsL
        rw [List.map_append]
        exact .lst (SqL.of upd_same) (dps_app (dps_mono s101 (P8.dps b9 hys)) (.cons (.lst (SqL.of (s101 _ _ eR)) (nats_dps is)) .nil))
      have P11 := P9.same s101
      have b11 := b8.trans (b9.trans (But.of s101))
      have ecl := s101 _ _ (b9 _ _ (P8.ne ecl fun _ e => nomatch e) ecl)
      have eg := s101 _ _ (b9 _ _ (goal_ne P8 eg) eg)
      have efd := s101 _ _ (b9 _ _ (P8.ne efd fun _ e => nomatch e) efd)
      clear s10 s11 s101 b9 P9 P8 b8 eD9 eR hL hrw hys eD hR fD edg
      revert hrows P11 b11 ecl eg efd
      generalize upd (upd H9 L (.lst [.ref R])) rw' (.lst (ys ++ [.ref R])) = H11
      intro hrows P11 b11 ecl eg efd
      dsimp only [gName]
      refine run_asg ⟨_, rfl, (by show 1 ≤ sizeLine; decide), fun q1 hq1 => ?_⟩
      refine ⟨_, rfl, ((rs.length : Nat) : Int), rfl, RgOk.of_le (by decide) (by omega) (by decide) (by omega), fun q2 hq2 => ?_⟩
      rw [rgV_nats]
      have s12 := Same.newA (o := .lst [.int (rs.length : Nat)]) hq1
      have s13 := Same.newA (o := .lst (natsV (List.range rs.length))) hq2
      refine ⟨q1, q2, _, _, rfl, rfl, s13 _ _ upd_same, upd_same, small5 (by rw [natsV_len, List.length_range]; show 1 + _ ≤ 100000; omega), fun nl hnl => ?_⟩
      have enm : ([V.int (rs.length : Nat)] ++ natsV (List.range rs.length)) = natsV (rs.length :: List.range rs.length) := rfl
      rw [enm]
      have s14 := Same.newA (o := .lst (natsV (rs.length :: List.range rs.length))) hnl
      have s114 := s12.trans (s13.trans s14)
      have enl := upd_same (H := upd (upd H11 q1 (.lst [.int (rs.length : Nat)])) q2 (.lst (natsV (List.range rs.length)))) (a := nl) (o := .lst (natsV (rs.length :: List.range rs.length)))
      have hrows := dp_mono s114 hrows
      have P14 := P11.same s114
      have b14 := b11.trans (But.of s114)
      have ecl := s114 _ _ ecl
      have eg := s114 _ _ eg
      have efd := s114 _ _ efd
      clear s12 s13 s14 s114 hq1 hq2 hnl P11 b11 enm
      revert enl hrows P14 b14 ecl eg efd
      generalize upd (upd (upd H11 q1 (.lst [.int (rs.length : Nat)])) q2 (.lst (natsV (List.range rs.length)))) nl (.lst (natsV (rs.length :: List.range rs.length))) = H14
      intro enl hrows P14 b14 ecl eg efd
      have nlen : (rs.length :: List.range rs.length).length = rs.length + 1 := by rw [List.length_cons, List.length_range]
      have nmem : ∀ z, z < rs.length + 1 → ∃ y ∈ natsD (rs.length :: List.range rs.length), PyData.eqv y (.int (z : Nat)) = true := fun z hz => ⟨.int (z : Nat), List.mem_map.mpr ⟨z, by
        rcases Nat.lt_succ_iff_lt_or_eq.mp hz with h | rfl
        · exact List.mem_cons_of_mem _ (List.mem_range.mpr h)
        · exact List.mem_cons_self, rfl⟩, eqv_self (d := .int (z : Nat)) (by simp [tupD])⟩
      have nplt : ∀ z, z < rs.length + 1 → plD (natsD (rs.length :: List.range rs.length)) (.int (z : Nat)) < rs.length + 1 := fun z hz => by
        have : plD (natsD (rs.length :: List.range rs.length)) (.int (z : Nat)) < (natsD (rs.length :: List.range rs.length)).length := List.findIdx_lt_length.mpr (nmem z hz)
        rwa [natsD_len, nlen] at this
      have nkok : SeqAt.shaped (.list (natsD (rs.length :: List.range rs.length))) = true := kok_list (n := 0) (fun d hd => by obtain ⟨_, _, rfl⟩ := List.mem_map.mp hd; exact kok_int _) (by decide)
      dsimp only [gName]
      refine run_asg ?_
      refine ⟨_, rfl, g, _, rfl, gk_marks eg, fd, kvs, rfl, .inl efd, fun pL bs hpL hk => ?_⟩
      have s15 := Same.newA (o := .lst (bs.map V.ref)) hpL
      refine ⟨pL, bs.map V.ref, kvs.map (fun q => keyD q.1), rfl, SqL.of upd_same, dps_mono s15 (keys_dpsG hk), fun x hx y hy => ?_, .inl fun y hy => ?_, fun y hy => ?_, fun zs q pz ez hq => ?_⟩
      · obtain ⟨a1, h1, rfl⟩ := List.mem_map.mp hx
        obtain ⟨a2, h2, rfl⟩ := List.mem_map.mp hy
        obtain ⟨n1, c1, e1, _⟩ := mk a1.1 (List.mem_map.mpr ⟨a1, h1, rfl⟩)
        obtain ⟨n2, c2, e2, _⟩ := mk a2.1 (List.mem_map.mpr ⟨a2, h2, rfl⟩)
        rw [e1, e2]
        simp [keyD, itmD, PySem.W.alike, PySem.W.alikeAll]
      · obtain ⟨a1, h1, rfl⟩ := List.mem_map.mp hy
        obtain ⟨n1, c1, e1, _⟩ := mk a1.1 (List.mem_map.mpr ⟨a1, h1, rfl⟩)
        rw [e1]
        exact ⟨_, _, rfl⟩
      · obtain ⟨a1, h1, rfl⟩ := List.mem_map.mp hy
        exact Nat.le_trans (keyD_depth _) (by decide)
      have s16 := Same.newA (o := .lst (zs.map Prod.fst)) hq
      have zmem : ∀ v ∈ zs.map Prod.fst, ∃ (b : Addr) (n1 : Nat) (c1 : Str), v = .ref b ∧ H14 b = some (.tup [.int (n1 : Nat), .str c1]) ∧ n1 < rs.length ∧ c1 ∈ cs := fun v hv => by
        obtain ⟨z, hz, rfl⟩ := List.mem_map.mp hv
        have := List.of_mem_zip (pz.mem_iff.mp hz)
        obtain ⟨b, hb, e⟩ := List.mem_map.mp this.1
        obtain ⟨kq, h1, h2⟩ := keys_mem hk b hb
        obtain ⟨n1, c1, e1, h3, h4⟩ := mk kq.1 (List.mem_map.mpr ⟨kq, h1, rfl⟩)
        exact ⟨b, n1, c1, e.symm, by rw [h2, e1]; rfl, h3, h4⟩
      have zlen : zs.length ≤ 100 := by
        have := pz.length_eq
        rw [this, List.length_zip, List.length_map, List.length_map]
        have : rs.length * cs.length ≤ 5 * 3 := Nat.mul_le_mul (by omega) l3
        omega
      have sq := s15.trans s16
      have eq := upd_same (H := upd H14 pL (.lst (bs.map V.ref))) (a := q) (o := .lst (zs.map Prod.fst))
      revert sq eq
      generalize upd (upd H14 pL (.lst (bs.map V.ref))) q (.lst (zs.map Prod.fst)) = H16
      intro sq eq
      refine ⟨q, rfl, ⟨_, SqL.of eq⟩, fun D hD => lc_list (K := K) (a := q) (xs := zs.map Prod.fst) (fun j H' => ∃ prs : List PrT, H' D = some (.lst (prs.map fun z => V.ref z.t)) ∧ prs.length = j ∧ PrsAt H' prs ∧ ∀ a o, a ≠ D → H16 a = some o → H' a = some o)
        ⟨[], upd_same, rfl, (fun z hz => nomatch hz), fun a o na e => by rw [upd_ne na]; exact e⟩ (fun j H' _ ⟨_, _, _, _, kp⟩ => SqL.of (kp _ _ (ne_of_none eq hD) eq)) ?_ ?_⟩
      · rintro j v H17 hv ⟨prs, eD, pl, pa, kp⟩
        obtain ⟨b, n1, c1, rfl, hb, hn1, hc1⟩ := zmem v (List.mem_of_getElem? hv)
        have hb17 := kp _ _ (ne_of_none (sq _ _ hb) hD) (sq _ _ hb)
        have jl : j < zs.length := by have := (List.getElem?_eq_some_iff.mp hv).1; rwa [List.length_map] at this
        have enl17 := kp _ _ (ne_of_none (sq _ _ enl) hD) (sq _ _ enl)
        refine ⟨b, _, rfl, .of hb17, rfl, _, _, rfl, _, _, rfl, rfl, rfl, et_yes H17 (Same.refl _) _ fun H18 s18 => ite2 (fun _ => ?_) fun z => absurd rfl z⟩
        have enl18 := s18 _ _ enl17
        refine run_tt (K := K) (F := nn H18) (ed_indexD (ed_var (i := 8) rfl (dp_df (.lst (SqL.of enl18) (nats_dps (rs.length :: List.range rs.length))))) (ed_var (i := 10) rfl (.int _)) nkok ((kok_int (n := 0) _).shaped (by decide)) (nmem n1 (by omega))) rfl fun t1 t2 H19 s19 e1 e2 => ?_
        have eD19 := s19 _ _ (s18 _ _ eD)
        have nD : ∀ a xs, H19 a = some (.tup xs) → a ≠ D := fun a xs e => ne_of e eD19 fun z => nomatch z
        refine ⟨_, eD19, lt5 (by rw [List.length_map]; omega), prs ++ [⟨t2, t1, [.inl (plD (natsD (rs.length :: List.range rs.length)) (.int (n1 : Nat)) : Nat), .inr c1], .bl true⟩], by rw [upd_same, List.map_append]; rfl, by rw [List.length_append, pl]; rfl, fun z hz => ?_, fun a o na e => by rw [upd_ne na]; exact s19 _ _ (s18 _ _ (kp _ _ na e))⟩
        rcases List.mem_append.mp hz with hz | hz
        · obtain ⟨h1, h2⟩ := pa z hz
          have h1 := s19 _ _ (s18 _ _ h1)
          have h2 := s19 _ _ (s18 _ _ h2)
          exact ⟨by rw [upd_ne (nD _ _ h1)]; exact h1, by rw [upd_ne (nD _ _ h2)]; exact h2⟩
        · rw [List.mem_singleton.mp hz]
          exact ⟨by rw [upd_ne (nD _ _ e2)]; exact e2, by rw [upd_ne (nD _ _ e1)]; exact e1⟩
      · rintro H17 ⟨prs, eD, pl, pa, kp⟩
        rw [List.length_map] at pl
        have s67 : Same H16 H17 := fun a o e => kp _ _ (ne_of_none e hD) e
        refine ⟨D, prs, rfl, SqL.of eD, fun z hz => ⟨SqT.of (pa z hz).1, (pa z hz).2⟩, by omega, fun md hmd => ?_⟩
        have s18 := Same.newA (o := .dT (putAll [] prs)) hmd
        have emd := upd_same (H := H17) (a := md) (o := .dT (putAll [] prs))
        have sall := sq.trans (s67.trans s18)
        have P18 := P14.same sall
        have b18 := b14.trans (But.of sall)
        have ecl := sall _ _ ecl
        have enl := sall _ _ enl
        have hrows := dp_mono sall hrows
        revert emd P18 b18 ecl enl hrows
        generalize upd H17 md (.dT (putAll [] prs)) = H18
        intro emd P18 b18 ecl enl hrows
        dsimp only [gName]
        have rin : ∀ st, st ∈ rs.length :: List.range rs.length → st < (rs ++ [is]).length := fun st hst => by
          rw [List.length_append]
          rcases List.mem_cons.mp hst with rfl | h
          · exact Nat.lt_succ_self _
          · have := List.mem_range.mp h; show st < rs.length + 1; omega
        have rrow : ∀ st, st < (rs ++ [is]).length → ((rs ++ [is]).getD st []).length = cs.length ∧ ∀ z ∈ (rs ++ [is]).getD st [], z < rs.length + 1 := fun st hst => by
          rcases List.mem_append.mp (row_mem hst) with h | h
          · exact ⟨(rok _ h).1, fun z hz => Nat.lt_succ_of_lt ((rok _ h).2 z hz)⟩
          · rw [List.mem_singleton.mp h]; exact ⟨il, ib⟩
        refine ⟨_, rfl, ?_⟩
        refine run_edc (K := K) (F := nn H18) (d := rowsL ((rs.length :: List.range rs.length).map fun st => ((rs ++ [is]).getD st []).map fun z => plD (natsD (rs.length :: List.range rs.length)) (.int (z : Nat)))) (ed_is (ed_lcm (m := fun d => .list ((natsD ((rs ++ [is]).getD (numOf d) [])).map fun e => .int (plD (natsD (rs.length :: List.range rs.length)) e : Nat))) (ei_list (ed_var (i := 8) rfl (dp_df (.lst (SqL.of enl) (nats_dps (rs.length :: List.range rs.length)))))) (by rw [natsD_len, nlen]; omega) fun F9 H9 e9 v9 d9 hd9 hv9 => ?_) (told2 _ _ _)) fun v H19 s19 hv => ?_
        · obtain ⟨st, hst, rfl⟩ := List.mem_map.mp hd9
          cases hv9
          have hr := rin st hst
          refine ⟨_, fun Q q => q, rfl, ?_⟩
          refine ed_lcm (ei_list (ed_ixL (j := st) (ed_var (i := 5) rfl (df_ext e9 (dp_df hrows))) (ed_var (i := 10) rfl (.int _)) (rowsL_at hr))) (show (natsD ((rs ++ [is]).getD st [])).length ≤ 50000 by rw [natsD_len, (rrow st hr).1]; omega) fun F8 H8 e8 v8 d8 hd8 hv8 => ?_
          obtain ⟨z, hz, rfl⟩ := List.mem_map.mp hd8
          cases hv8
          exact ⟨_, fun Q q => q, rfl, ed_indexD (ed_var (i := 8) rfl (df_ext e8 (df_ext e9 (dp_df (.lst (SqL.of enl) (nats_dps (rs.length :: List.range rs.length))))))) (ed_var (i := 11) rfl (.int _)) nkok ((kok_int (n := 0) _).shaped (by decide)) (nmem z ((rrow st hr).2 z hz))⟩
        obtain ⟨tl, rfl, htl⟩ : ∃ tl, v = .ref tl ∧ Dp K H19 (.ref tl) (rowsL ((rs.length :: List.range rs.length).map fun st => ((rs ++ [is]).getD st []).map fun z => plD (natsD (rs.length :: List.range rs.length)) (.int (z : Nat)))) := by
          have := df_dp hv
          unfold rowsL at hv
          cases hv with
          | lst q y => exact ⟨_, rfl, this⟩
        refine ⟨_, rfl, cl, tl, md, cs, _, putAll [] prs, rfl, SqL.of (s19 _ _ ecl), htl, s19 _ _ emd, by omega, by rw [List.length_map, nlen]; omega, by rw [List.length_map, nlen]; omega, fun r hr => ?_, fun m rs' H' s20 ga rok' k1 k2 => ?_⟩
        · obtain ⟨st, hst, rfl⟩ := List.mem_map.mp hr
          refine ⟨by rw [List.length_map]; exact (rrow st (rin st hst)).1, fun y hy => ?_⟩
          obtain ⟨z, hz, rfl⟩ := List.mem_map.mp hy
          rw [List.length_map, nlen]
          exact nplt z ((rrow st (rin st hst)).2 z hz)
        · rw [List.length_map, nlen] at k2
          exact k m cs rs' H' (b18.trans (But.of (s19.trans s20))) ((P18.same (s19.trans s20)).more (by omega)) ga rok' k1 (by omega) l2 l3 nam
end
end Ag

set_option Elab.async false
set_option linter.all false
set_option maxRecDepth 100000
set_option maxHeartbeats 2000000
set_option pp.maxSteps 300
namespace Ag
open PySem PySem.Spec PyProof.Rows L2
/-! own exceptions as values: made by their own __init__, read, asked by isinstance -/
/-- C(e, ..) as a value -/
def tMkV (C : Addr) (sp : Sp) (dvs : List V) (ta : TA) : TE := fun σ H Q => ta σ H fun vs H1 => vs.length ≤ 1000 ∧ ∀ a, H1 a = none → sp (.ref a :: (vs ++ dvs)) (upd H1 a (exo a C none)) (fun v H2 => v = .non ∧ Q (.ref a) H2) (fun _ _ _ => False)
section
variable {X : Cx} {e : Expr} {es : List Expr} {te : TE} {ta : TA} {p pos : Pos}
theorem pe_oex {CX : CXT} {x : Str} {C fI : Addr} {k : Nat} {fd : FuncData} {ps : List Str} {sp : Sp} {ds : List Value} {dvs : List V} (T : OexC X.K C) (iC : PySem.W.findIn X.K (.ref C) "__init__" = some (some (.ref fI))) (tI : PySem.W.typeIn X.K (.ref fI) = some (.type "function"))
    (F1 : FnOk X.prog X.w X.K X.mg X.base CX k fI fd ps sp) (hr : Room (k + 1) X.A) (hb : Binds X.K fd ps ds) (hd : Vals dvs ds) (hx : Passes CX X (fun _ _ _ => False)) (hg : Gl X x) (hm : X.mg x = some (.ref C)) (ha : PA X (e :: es) ta)
    (hdb : (x == ("__debug__" : Str)) = false := by decide) (he : starEach (e :: es) X.env = (false, eval e X.env) :: starEach es X.env := by rfl) (hpl : (backTo pos (starEach es X.env)).any (·.1) = false := by rfl) :
    PE X (.Call (.Name x p) (e :: es) [] pos) (tMkV C sp dvs ta) := by
  refine ⟨fun pins s σ H Q I h => ?_⟩
  obtain ⟨nm, q, N, bs, bm, sn, sub, ab, col, dd, k0, k1, k2, k3, k5, hC, hbm⟩ := T.cls
  refine wpAny_Call_Name_kw (ld_glob I hg hm ?_ hdb)
  refine PySem.W.callWith_K (h₀ := X.base) I.ok.mod.kin T.kC (thn (ha.run pos pins s σ H _ I h) fun us s1 ⟨vs, H1, I1, r1, hz, q1⟩ => ⟨I1.kIn, ?_⟩) he hpl
  show wpAny _ _ (call (.ref C) us) _ _ _
  obtain ⟨hp, g, dr, tk, os⟩ := s1
  have hsz : hp.objs.size ≤ hp.objs.size + 1 := Nat.le_succ _
  have hq := q1 (hp.objs.size + 1) (I1.hok.fresh hsz)
  have hget : ((hp.push (PySem.W.kdv_tup us)).push (PySem.HandSPX.excO C hp.objs.size)).get? (hp.objs.size + 1) = some (PySem.HandSPX.excO C hp.objs.size) := by heap_get
  have I2 : Inv X pins σ (upd H1 (hp.objs.size + 1) (exo (hp.objs.size + 1) C none)) ⟨(hp.push (PySem.W.kdv_tup us)).push (PySem.HandSPX.excO C hp.objs.size), g, dr, tk, os⟩ :=
    I1.laid (t' := tk) (a := hp.objs.size + 1) (o := exo (hp.objs.size + 1) C none) (h' := (hp.push (PySem.W.kdv_tup us)).push (PySem.HandSPX.excO C hp.objs.size)) (fun _ _ z => Heap.get?_push_of_some _ (Heap.get?_push_of_some _ z)) hsz (exo_ok hget)
  have r2 : Vals (V.ref (hp.objs.size + 1) :: (vs ++ dvs)) (Value.ref (hp.objs.size + 1) :: (us ++ ds)) := .cons rfl (r1.append hd)
  have hl : (Value.ref (hp.objs.size + 1) :: us ++ ds).length = ps.length := by
    have e := r2.length
    rw [F1.len _ _ _ _ hq] at e
    exact e.symm
  have hus : us.length ≤ sizeLine := by
    rw [← Paired.length r1, sizeLine_eq]
    omega
  refine wpAny_call (PySem.HandSPX.call_own F.excBase_ValueError (fun Y => PySem.HandSPX.refsVE_contains Y bm hbm) (I1.kIn _ _ hC) (PySem.W.looks_findIn I1.kIn iC) (fun self => PySem.W.bind_fn I1.kIn self tI) hus
    (codeAny_mono (F1.run _ X.stack _ _ ⟨Value.ref (hp.objs.size + 1) :: us, []⟩ (Value.ref (hp.objs.size + 1) :: (us ++ ds)) _ _ (fun _ _ _ => False) (hr.make C us []) (I2.env0.make C us []) (hb _ (Value.ref (hp.objs.size + 1) :: us) I2.kIn hl) r2 hq) fun r s' hq' => ?_))
  cases r with
  | error er => exact hx pins σ _ _ er s' I2 hq'
  | ok fl =>
    cases fl with
    | ret u =>
      obtain ⟨v, H2, I3, rv, ev, q2⟩ := I2.after hq'
      subst ev
      exact ⟨rv, .ref _, H2, I3, rfl, q2⟩
    | next => exact False.elim hq'
    | brk => exact False.elim hq'
    | cont => exact False.elim hq'
/-- C(), an own exception without an own __init__ -/
theorem pe_exc0 {C : Addr} {bmB : List Value} {B newId initId : String} {x : Str} (F : ExcBaseFacts B newId initId bmB) (q : PySem.W.excIn X.K C bmB newId = true) (gC : X.mg x = some (.ref C)) (kC : PySem.W.keepIn X.K (.ref C) = true) (hg : Gl X x)
    (hdb : (x == ("__debug__" : Str)) = false := by decide) :
    PE X (.Call (.Name x p) [] [] pos) (fun σ H Q => ∀ a, H a = none → Q (.ref a) (upd H a (ExO (.ref C) a))) := by
  refine ⟨fun pins s σ H Q I h => ?_⟩
  refine wpAny_Call_Name_kw (ld_glob I hg gC ?_ hdb)
  refine PySem.W.callWith_K0 (first := []) I.kIn kC ?_
  show wpAny _ _ (call (.ref C) []) _ _ _
  obtain ⟨bm, N, nm, qn, bs, hdct, sn, sub, ab, col, dd, k0, k1, k2, k3, k5, mN, hC, hN, hni, T⟩ := exc_obj I.kIn q
  refine wpAny_call_exc_subT F T hC hN hni (fun h' a hm => ?_) (by show 0 ≤ sizeLine; rw [sizeLine_eq]; omega)
  have hn : H a = none := I.hok.gone hm.new
  obtain ⟨t, ht, _, _⟩ := hm.there
  exact ⟨.ref a, upd H a (ExO (.ref C) a), I.laidN hm.keeps hm.new hn (exO_ok ht ⟨rfl, rfl⟩ rfl rfl rfl (show 4 < 6 by decide)), rfl, h a hn⟩
/-- the field of an own exception that is a value -/
def tXo (K : PySem.W.Frag) (f : Str) (te : TE) : TE := fun σ H Q => te σ H fun x H1 => ∃ (a C dd : Addr) (fs : List (Str × V)) (v : V), x = .ref a ∧ H1 a = some (exo a C (some dd)) ∧ H1 dd = some (exd dd fs) ∧ fs.lookup f = some v ∧ XfC K C ∧ PySem.W.findIn K (.ref C) f = some none ∧ Q v H1
theorem pe_xo {n : Str} (he : PE X e te) (hb : attributeBase e n X.env (eval e X.env) = eval e X.env := by rfl) : PE X (.Attribute e n pos) (tXo X.K n te) := by
  refine ⟨fun pins s σ H Q I h => ?_⟩
  refine attr_of hb (thn (he.run pins s σ H _ I h) fun u s1 hh => ?_)
  obtain ⟨x, H1, I1, rx, a, C, dd, fs, v, ex, ea, ed, l, T, hno, q⟩ := hh
  subst ex
  obtain rfl : u = Value.ref a := rx
  obtain ⟨t0, ha⟩ := exo_at I1.hok ea
  obtain ⟨mA, hns, hr⟩ := exd_at I1.hok ed
  obtain ⟨od, ho, hl⟩ := lookIn_ns hns
  obtain ⟨u, hu, ru⟩ := RelO.some_of (v := v) (o := mA n) (by rw [← l]; exact hr n)
  have J : PySem.W.InstAt s1.heap a _ C (some od) := ⟨ha, rfl, rfl, ho⟩
  exact HandSPX.exc_get I1.kIn J T.ga T.gg T.exC (PySem.W.findObj_own T.hdC hno rfl (by rw [hl, hu])) (handed_of ru) ⟨v, H1, I1.tok _, ru, q⟩
/-- an exception as a value: with fields, or without -/
def ExAt (H : Hp) (a C : Addr) : Prop := (∃ d fs, H a = some (exo a C (some d)) ∧ H d = some (exd d fs)) ∨ H a = some (ExO (.ref C) a)
/-- isinstance(one, c), one an exception that is a value -/
def rIsV (K : PySem.W.Frag) : List V → Hp → VK → Prop := fun xs H Q => ∃ (a D : Addr) (c : V) (cv : Value) (b : Bool), xs = [.ref a, c] ∧ ExAt H a D ∧ ExcC K D ∧ (∀ u, RelV c u → u = cv) ∧ PySem.W.kitOne K (.ref D) cv = some b ∧ Q (.bl b) H
theorem call_isV : CallR X (.builtin "isinstance") (rIsV X.K) := by
  intro pins s σ H xs us Q I r h
  obtain ⟨a, D, c, cv, b, rfl, ha, C, hcv, e, q⟩ := h
  cases r with
  | cons rx rr =>
    cases rr with
    | cons rt rr =>
      cases rr
      cases rx
      have ec := hcv _ rt
      subst ec
      have hcl : (PySem.W.clsIn X.K D).isSome = true := by
        obtain ⟨cd, hc, _⟩ := PySem.W.any_some C.hd
        rw [hc]; rfl
      have J : ∃ oe od, PySem.W.InstAt s.heap a oe D od := by
        rcases ha with ⟨d, fs, ea, ed⟩ | ea
        · obtain ⟨t0, ho⟩ := exo_at I.hok ea
          obtain ⟨mA, hns, _⟩ := exd_at I.hok ed
          obtain ⟨od, hod, _⟩ := lookIn_ns hns
          exact ⟨_, some od, ho, rfl, rfl, hod⟩
        · obtain ⟨⟨oe, vs, ho, hz, hd, _⟩, _⟩ := I.hok a _ ea
          obtain ⟨oc, od, oda, osl⟩ := oe
          obtain ⟨h1, h2⟩ := hz
          dsimp only at h1 h2 hd
          subst h1 h2 hd
          exact ⟨_, none, ho, rfl, rfl, trivial⟩
      obtain ⟨oe, od, J⟩ := J
      exact PySem.W.kia_one (PySem.W.kitx_exc hcl C.hg C.hk C.hs C.ha C.hn C.ht C.hm) I.kIn J e (fun z => nomatch z) fun tk => ⟨.bl b, H, I.kept (t' := tk) fun _ _ z => z, rfl, q⟩
/-- isinstance(e, c), e the exception that the suite holds, with a dict -/
def rIsP (K : PySem.W.Frag) (a : Addr) (cls : Value) (d : Option Addr) : List V → Hp → VK → Prop := fun xs H Q => ∃ (D dd : Addr) (fs : List (Str × V)) (c : V) (cv : Value) (b : Bool), xs = [.ref a, c] ∧ cls = .ref D ∧ d = some dd ∧ H dd = some (.xd fs) ∧ ExcC K D ∧ (∀ u, RelV c u → u = cv) ∧ PySem.W.kitOne K (.ref D) cv = some b ∧ Q (.bl b) H
theorem call_isP {a : Addr} {oe : Obj} {pn : List (Addr × Obj)} {cls : Value} {d : Option Addr} (hz : Zc cls d oe) (hf : ∃ vs, oe.data = .fields vs) : CallR (X.suite a ((a, oe) :: pn)) (.builtin "isinstance") (rIsP X.K a cls d) := by
  intro pins s σ H xs us Q I r h
  obtain ⟨D, dd, fs, c, cv, b, rfl, rfl, rfl, ed, C, hcv, e, q⟩ := h
  cases r with
  | cons rx rr =>
    cases rr with
    | cons rt rr =>
      cases rr
      cases rx
      have ec := hcv _ rt
      subst ec
      have hcl : (PySem.W.clsIn X.K D).isSome = true := by
        obtain ⟨cd, hc, _⟩ := PySem.W.any_some C.hd
        rw [hc]; rfl
      obtain ⟨hget, _⟩ := I.pin (a, oe) (List.mem_append.mpr (.inl List.mem_cons_self))
      obtain ⟨vs, hv⟩ := hf
      have hx : ObjOk X.prog X.w H s.heap dd (.xd fs) := I.hok dd _ ed
      obtain ⟨mA, hns, _⟩ := hx
      obtain ⟨od, hod, _⟩ := lookIn_ns hns
      have J : PySem.W.InstAt s.heap a oe D (some od) := ⟨hget, hz.1, by unfold PySem.W.notCls; rw [hv] <;> rfl, by rw [hz.2]; exact hod⟩
      exact PySem.W.kia_one (PySem.W.kitx_exc hcl C.hg C.hk C.hs C.ha C.hn C.ht C.hm) I.kIn J e (fun z => nomatch z) fun tk => ⟨.bl b, H, I.kept (t' := tk) fun _ _ z => z, rfl, q⟩
end
end Ag

set_option Elab.async false
set_option linter.all false
set_option maxRecDepth 100000
set_option maxHeartbeats 1000000
set_option pp.maxSteps 300
/-! Ascending lists of texts, pairs, rows; sorted lists of them. -/
namespace Ag
open PySem PySem.Spec PyProof.Rows L2
open PySem.W (alike alikeAll dataLt dataLt_tuple dataLt_all_yes dataLt_all_no dataLt_int dataLt_str AllAlike Sortable)
abbrev Rk := List (List Nat)
theorem rk_trans {a b c : Rk} (h : a < b) (k : b < c) : a < c := List.lt_trans h k
theorem rk_irr (a : Rk) : ¬ a < a := List.lt_irrefl a
theorem rk_total (a b : Rk) : a ≤ b ∨ b ≤ a := List.le_total a b
theorem rk_anti {a b : Rk} (h : a ≤ b) (k : b ≤ a) : a = b := List.le_antisymm h k
theorem rk_letrans {a b c : Rk} (h : a ≤ b) (k : b ≤ c) : a ≤ c := List.le_trans h k
section
variable {α : Type} {f : α → Rk}
/-- each is under those behind it -/
def Up (f : α → Rk) (S : List α) : Prop := S.Pairwise fun a b => f a < f b
theorem Up.nodup {S : List α} (u : Up f S) : S.Nodup := List.nodup_iff_pairwise_ne.mpr (List.Pairwise.imp (fun {a b} h e => by rw [e] at h; exact rk_irr _ h) u)
def leF (f : α → Rk) (a b : α) : Bool := decide (f a ≤ f b)
theorem leF_trans (f : α → Rk) (a b c : α) (h : leF f a b = true) (k : leF f b c = true) : leF f a c = true := decide_eq_true (rk_letrans (of_decide_eq_true h) (of_decide_eq_true k))
theorem leF_total (f : α → Rk) (a b : α) : (leF f a b || leF f b a) = true := by
  rw [Bool.or_eq_true]
  exact (rk_total (f a) (f b)).imp decide_eq_true decide_eq_true
theorem up_sort (inj : ∀ a b, f a = f b → a = b) {L : List α} (nd : L.Nodup) : Up f (L.mergeSort (leF f)) := by
  have pm : (L.mergeSort (leF f)).Perm L := List.mergeSort_perm _ _
  have sr : (L.mergeSort (leF f)).Pairwise fun a b => leF f a b = true := List.pairwise_mergeSort (leF_trans f) (leF_total f) L
  refine List.Pairwise.imp (fun {a b} h => ?_) (sr.and (List.nodup_iff_pairwise_ne.mp (pm.nodup_iff.mpr nd)))
  obtain ⟨h1, h2⟩ := h
  have h1 : f a ≤ f b := of_decide_eq_true h1
  exact List.not_le.mp fun c => h2 (inj _ _ (rk_anti h1 c))
/-- there is one ascending list of the same items -/
theorem up_ext (inj : ∀ a b, f a = f b → a = b) {S T : List α} (u : Up f S) (v : Up f T) (m : ∀ z, z ∈ S ↔ z ∈ T) : S = T :=
  List.Perm.eq_of_pairwise (le := fun a b => f a < f b) (fun a b _ _ h k => absurd (rk_trans h k) (rk_irr _)) u v ((List.perm_ext_iff_of_nodup u.nodup v.nodup).mpr m)
theorem up_sorted' {S : List α} (u : Up f S) : S.mergeSort (leF f) = S := List.mergeSort_of_pairwise (List.Pairwise.imp (fun {a b} h => decide_eq_true (List.le_of_lt h)) u)
theorem Up.filter {S : List α} (u : Up f S) (p : α → Bool) : Up f (S.filter p) := List.Pairwise.filter p u
theorem Up.take {S : List α} (u : Up f S) (n : Nat) : Up f (S.take n) := List.Pairwise.take u
end
/-! ### ranks -/
def rkS (x : Str) : Rk := [x.cps.toList]
def rkP (p : Str × Str) : Rk := [p.1.cps.toList, p.2.cps.toList]
abbrev Rw := Str × Str × Str
def rkR (r : Rw) : Rk := [r.1.cps.toList, r.2.1.cps.toList, r.2.2.cps.toList]
theorem cps_inj {x y : Str} (h : x.cps.toList = y.cps.toList) : x = y := Str.ext' (Array.toList_inj.mp h)
theorem rkS_inj (x y : Str) (h : rkS x = rkS y) : x = y := by
  unfold rkS at h
  injection h with h1 _
  exact cps_inj h1
theorem rkP_inj (x y : Str × Str) (h : rkP x = rkP y) : x = y := by
  obtain ⟨a, b⟩ := x
  obtain ⟨c, d⟩ := y
  unfold rkP at h
  injection h with h1 h
  injection h with h2 _
  exact Prod.ext (cps_inj h1) (cps_inj h2)
theorem rkR_inj (x y : Rw) (h : rkR x = rkR y) : x = y := by
  obtain ⟨a, b, c⟩ := x
  obtain ⟨d, e, g⟩ := y
  unfold rkR at h
  injection h with h1 h
  injection h with h2 h
  injection h with h3 _
  exact Prod.ext (cps_inj h1) (Prod.ext (cps_inj h2) (cps_inj h3))
/-! ### as data -/
def txD (xs : List Str) : PyData := .tuple (xs.map .str)
theorem alike_tx : ∀ xs ys : List Str, alikeAll (xs.map .str) (ys.map .str) = true
  | [], _ => by simp [alikeAll]
  | _ :: _, [] => by simp [alikeAll]
  | x :: xs, y :: ys => by simp [alikeAll, alike, alike_tx xs ys]
theorem dataLt_tx : ∀ xs ys : List Str, PySem.W.dataLt (txD xs) (txD ys) = decide (xs.map (fun x => x.cps.toList) < ys.map fun x => x.cps.toList)
  | [], [] => by rw [decide_eq_false (List.lt_irrefl _)]; rfl
  | [], y :: ys => by rw [decide_eq_true (by simp)]; rfl
  | x :: xs, [] => by rw [decide_eq_false (by simp)]; rfl
  | x :: xs, y :: ys => by
    have ih := dataLt_tx xs ys
    unfold txD at ih ⊢
    rw [dataLt_tuple] at ih ⊢
    rw [List.map_cons, List.map_cons, List.map_cons, List.map_cons]
    by_cases h : x = y
    · subst h
      rw [dataLt_all_yes (by simp [alike]) (by simp [PyData.eqv]), ih]
      refine decide_eq_decide.mpr ⟨fun k => List.cons_lt_cons_iff.mpr (.inr ⟨rfl, k⟩), fun k => ?_⟩
      exact (List.cons_lt_cons_iff.mp k).elim (fun z => absurd z (List.lt_irrefl _)) fun z => z.2
    · rw [dataLt_all_no (by simp [alike]) (by simp only [PyData.eqv]; exact beq_eq_false_iff_ne.mpr h), dataLt_str]
      refine decide_eq_decide.mpr ⟨fun k => List.cons_lt_cons_iff.mpr (.inl k), fun k => ?_⟩
      exact (List.cons_lt_cons_iff.mp k).elim id fun z => absurd (cps_inj z.1) h
theorem le_tx (xs ys : List Str) : leD (txD xs) (txD ys) = decide (xs.map (fun x => x.cps.toList) ≤ ys.map fun x => x.cps.toList) := by
  show (!PySem.W.dataLt (txD ys) (txD xs)) = _
  rw [dataLt_tx, ← decide_not]
  exact decide_eq_decide.mpr List.not_lt
theorem sort_tx {α : Type} (g : α → List Str) (S : List α) : (S.map fun a => txD (g a)).mergeSort leD = (S.mergeSort (leF fun a => (g a).map fun x => x.cps.toList)).map fun a => txD (g a) :=
  (PySem.W.sort_maps (s := leD) (fun a => txD (g a)) fun p _ q _ => by rw [le_tx]; rfl).symm
theorem eqv_tx : ∀ xs ys : List Str, PyData.eqv (txD xs) (txD ys) = decide (xs = ys)
  | [], [] => by simp [txD, PyData.eqv, PyData.eqvAll]
  | [], y :: ys => by simp [txD, PyData.eqv, PyData.eqvAll]
  | x :: xs, [] => by simp [txD, PyData.eqv, PyData.eqvAll]
  | x :: xs, y :: ys => by
    have ih := eqv_tx xs ys
    simp only [txD, PyData.eqv, List.map_cons, PyData.eqvAll] at ih ⊢
    rw [ih]
    by_cases h : x = y
    · subst h; simp
    · have : (x == y) = false := beq_eq_false_iff_ne.mpr h
      rw [this, Bool.false_and, decide_eq_false (fun e => h (List.cons.inj e).1)]
end Ag

set_option Elab.async false
set_option linter.all false
set_option maxRecDepth 100000
set_option maxHeartbeats 4000000
/-! sorted(tuple of texts). -/
namespace Ag
open PySem PySem.Spec PyProof.Rows L2
section
variable {P : Program} {w : World} {A : Around} {E : Value → Shared → Prop} {s : Shared}
/-- what is collected from a tuple, and where the heap ends behind it -/
theorem collect_tup {a : Addr} {o : Obj} {its : Array Value} {n : Nat} {Q : List Value → Shared → Prop} (ho : s.heap.get? a = some o) (hc : o.cls = .type "tuple") (hd : o.data = .seq its n) (hz : its.size ≤ sizeLine)
    (k : ∀ h', (∀ b u, s.heap.get? b = some u → h'.get? b = some u) → s.heap.objs.size ≤ h'.objs.size → Q its.toList { s with heap := h' }) : wpAny (model P w) A (collect (.ref a)) Q E s := by
  obtain ⟨N, hN⟩ : ∃ N : Obj, N = { cls := .type "list", data := .seq ([] : List Value).toArray } := ⟨_, rfl⟩
  have new : (s.heap.push N).get? s.heap.objs.size = some N := by subst hN; exact Heap.get?_push_size _ rfl
  have kept : ∀ b u, s.heap.get? b = some u → ((s.heap.push N).update s.heap.objs.size (Obj.mapSeq (· ++ its))).get? b = some u := fun b u e =>
    (Heap.get?_update_other _ _ (Nat.ne_of_gt (Heap.lt_size e))).trans (Heap.get?_push_of_some _ e)
  have big : s.heap.objs.size ≤ ((s.heap.push N).update s.heap.objs.size (Obj.mapSeq (· ++ its))).objs.size := by
    have e1 : ((s.heap.push N).update s.heap.objs.size (Obj.mapSeq (· ++ its))).get? s.heap.objs.size ≠ none := by
      rw [Heap.get?_update_self _ new (by subst hN; rfl)]; exact fun z => nomatch z
    cases q : ((s.heap.push N).update s.heap.objs.size (Obj.mapSeq (· ++ its))).get? s.heap.objs.size with
    | none => exact absurd q e1
    | some u => exact Nat.le_of_lt (Heap.lt_size q)
  have got : ((s.heap.push N).update s.heap.objs.size (Obj.mapSeq (· ++ its))).get? s.heap.objs.size = some (Obj.mapSeq (· ++ its) N) := Heap.get?_update_self _ new (by subst hN; rfl)
  have last : wpAny (model P w) A (match Value.ref s.heap.objs.size with | Value.ref b => (do match (← load b).data with | Data.seq xs _ => pure xs.toList | _ => unsupported "internal:collect") | _ => unsupported "internal:collect") Q E { s with heap := (s.heap.push N).update s.heap.objs.size (Obj.mapSeq (· ++ its)) } := by
    show wpAny _ A (load s.heap.objs.size >>= _) _ _ _
    apply wpAny_bind
    apply wpAny_load got
    subst hN
    apply wpAny_pure
    have e : ((#[] : Array Value) ++ its).toList = its.toList := by simp
    show Q ((#[] : Array Value) ++ its).toList _
    rw [e]
    exact k _ kept big
  unfold collect
  apply wpAny_bind
  apply wpAny_runValue
  apply codeAny_builtin F.entry_proto_collect
  rw [show Around.under A (.builtin "proto.collect" ⟨[.ref a], []⟩) = A.in1 from Around.under_plainId F.plain_proto_collect _]
  show wpAny _ A.in1 (newList [] >>= fun l => again (.builtin "list.__iadd__" ⟨[l, .ref a], []⟩)) _ _ s
  apply wpAny_bind
  refine wpAny_newObj_type ?_
  refine wpAny_pure ?_
  refine ⟨plainId_quiet F.plain_list_iadd _, codeAny_builtin F.entry_list_iadd ?_⟩
  rw [show ∀ B, Around.under B (.builtin "list.__iadd__" ⟨[.ref s.heap.objs.size, .ref a], []⟩) = B.in1 from fun B => Around.under_plainId F.plain_list_iadd _]
  show wpAny _ A.in1 (Builtin.List.listExtendWith (.ref s.heap.objs.size) (.ref a) (.ref s.heap.objs.size)) _ _ _
  subst hN
  have run := wpAny_extend_seq (hsz := hz) (A := A) (R := fun r t => r = .ok (.ret (.ref s.heap.objs.size)) ∧ t = { s with heap := (s.heap.push { cls := .type "list", data := .seq ([] : List Value).toArray }).update s.heap.objs.size (Obj.mapSeq (· ++ its)) })
    (prog := P) (w := w) (s := { s with heap := s.heap.push { cls := .type "list", data := .seq ([] : List Value).toArray } }) s.heap.objs.size a (.ref s.heap.objs.size) 0 (.inr rfl) new (Heap.get?_push_of_some _ ho) hc hd ⟨rfl, rfl⟩
  refine wpAny_mono run (fun f t h => ?_) (fun e t h => absurd h.1 (by simp))
  cases f with
  | done f =>
    obtain ⟨e, rfl⟩ := h
    cases e
    exact last
  | again c => exact ⟨h.1, codeAny_mono h.2 fun r t2 hr => by obtain ⟨rfl, rfl⟩ := hr; exact last⟩
theorem sorted_of_tup {a : Addr} {o : Obj} {its : Array Value} {n : Nat} {xs : List Str} {Q : Value → Shared → Prop} (ho : s.heap.get? a = some o) (hc : o.cls = .type "tuple") (hd : o.data = .seq its n) (hz : its.size ≤ sizeLine) (hx : StrsAre its.toList xs)
    (k : ∀ h' p (out : Array Value) (c : Nat) (ys : List Str), (∀ b u, s.heap.get? b = some u → h'.get? b = some u) → s.heap.objs.size ≤ p → h'.get? p = some (seqObj "list" out c) → StrsAre out.toList ys → sortedS ys = true → ys.Perm xs → Q (.ref p) { s with heap := h' }) :
    wpAny (model P w) A (call (.builtin "sorted") [.ref a]) Q E s := by
  refine Calls.call_function_entry kind_sorted plain_sorted entry_sorted (args_sorted1 _) ?_
  unfold Builtin.«sorted»
  apply wpAny_bind (m := checkCount "sorted" 1 1 _)
  apply wpAny_pure
  apply wpAny_bind
  refine collect_tup (A := A.in1) ho hc hd hz fun h1 k1 z1 => ?_
  have small : its.toList.length ≤ sizeLine := by rw [Array.length_toList]; exact hz
  refine wpAny_bind (wpAny_newList ?_ small)
  have hoL : (h1.push (seqObj "list" its.toList.toArray 0)).get? h1.objs.size = some (seqObj "list" its.toList.toArray 0) := Heap.get?_push_size _ rfl
  refine wpAny_bind (wpAny_holding (wpAny_call_entry slot_list_sort ⟨_, hoL, rfl⟩ entry_list_sort (list_sort_treeKAny (s := { s with heap := h1.push (seqObj "list" its.toList.toArray 0) }) strKind_oneLt hoL hx.keysOf (fun v₁ v₂ rest e => keyKind_strs (by rw [← e]; exact hx)) small fun st' hp hs => ⟨_, rfl, ?_⟩) (args_list_sort _)))
  obtain ⟨ys, a1, a2, a3⟩ := sorted_out_str hx hp hs
  obtain ⟨c, hc2⟩ := sortedHeap_at (vs := its.toList) (out := (arrOf st').map (·.2)) hoL
  refine wpAny_pure ⟨_, rfl, k _ h1.objs.size _ c ys (fun b u e => ?_) z1 hc2 a1 a3 a2⟩
  have q := k1 b u e
  have lt := Heap.lt_size q
  rw [sortedHeap_old (Nat.ne_of_lt lt) (by rw [size_push']; exact Nat.lt_succ_of_lt lt)]
  exact Heap.get?_push_of_some _ q
end
def rSortTS (K : PySem.W.Frag) : List V → Hp → VK → Prop := fun vs H Q => ∃ (a : Addr) (xs : List Str), vs = [V.ref a] ∧ SqT K H a (xs.map V.str) ∧ ∀ ys p, ys.Perm xs → sortedS ys = true → H p = none → Q (.ref p) (upd H p (.lst (ys.map V.str)))
theorem cr_sortTS {X : Cx} : CallR X (.builtin "sorted") (rSortTS X.K) := by
  intro pins s σ H vs us Q I r h
  obtain ⟨a, xs, rfl, ha, q⟩ := h
  obtain ⟨its, rv, ⟨o, ho, hc, n, hd⟩, hz⟩ := I.tuple ha
  rw [Vals.ref1 r]
  refine sorted_of_tup ho hc hd (by rw [List.size_toArray, ← rv.length]; exact hz) rv.strs fun h' p out c ys kp hp hg hout srt pm => ?_
  have hn : H p = none := I.hok.fresh hp
  have small : (ys.map V.str).length ≤ sizeLine := by
    rw [List.length_map] at hz ⊢
    rw [pm.length_eq]; exact hz
  exact ⟨.ref p, _, I.laid (t' := s.toks) (o := .lst (ys.map V.str)) kp hp ⟨small, out.toList, c, vals_of_strs hout, hg⟩, rfl, q ys p pm srt hn⟩
end Ag

set_option Elab.async false
set_option linter.all false
set_option maxRecDepth 100000
set_option maxHeartbeats 1000000
set_option pp.maxSteps 300
namespace Ag
open PySem PySem.Spec PyProof.Rows L2
theorem up_rising : ∀ (l : List Str) (p : Str), risingS p l = true → (p :: l).Pairwise fun a b => a.cps.toList ≤ b.cps.toList
  | [], p, _ => List.pairwise_singleton _ _
  | x :: r, p, h => by
    have h' : (!ltCps x.cps.toList p.cps.toList && risingS x r) = true := h
    obtain ⟨h1, h2⟩ := Bool.and_eq_true_iff.mp h'
    have ih := up_rising r x h2
    have le : p.cps.toList ≤ x.cps.toList := by
      rw [ltCps_eq] at h1
      have : ¬ x.cps.toList < p.cps.toList := by simpa using h1
      exact List.not_lt.mp this
    refine List.pairwise_cons.mpr ⟨fun y hy => ?_, ih⟩
    rcases List.mem_cons.mp hy with rfl | hy
    · exact le
    · exact List.le_trans le ((List.pairwise_cons.mp ih).1 y hy)
theorem rkS_lt {a b : Str} (h : a.cps.toList ≤ b.cps.toList) (n : a ≠ b) : rkS a < rkS b := by
  refine List.cons_lt_cons_iff.mpr (.inl (List.not_le.mp fun c => n (cps_inj (List.le_antisymm h c))))
/-- unlike texts, as sorted -/
theorem up_sortedS {l : List Str} (h : sortedS l = true) (nd : l.Nodup) : Up rkS l := by
  have : l.Pairwise fun a b => a.cps.toList ≤ b.cps.toList := by
    cases l with
    | nil => exact .nil
    | cons x r => exact up_rising r x h
  exact List.Pairwise.imp (fun {a b} h => rkS_lt h.1 h.2) (this.and (List.nodup_iff_pairwise_ne.mp nd))
section
variable {κ : Type} [DecidableEq κ]
theorem keys_of_put (kvs : List (κ × V)) (k : κ) (v : V) : (putK kvs k v).map (·.1) = if k ∈ kvs.map (·.1) then kvs.map (·.1) else kvs.map (·.1) ++ [k] := by
  have e : (kvs.any fun kv => decide (kv.1 = k)) = true ↔ k ∈ kvs.map (·.1) := by
    rw [List.any_eq_true]
    constructor
    · rintro ⟨kv, h, d⟩
      exact List.mem_map.mpr ⟨kv, h, of_decide_eq_true d⟩
    · intro h
      obtain ⟨kv, h, d⟩ := List.mem_map.mp h
      exact ⟨kv, h, decide_eq_true d⟩
  unfold putK
  by_cases h : k ∈ kvs.map (·.1)
  · rw [if_pos (e.mpr h), if_pos h, List.map_map]
    refine List.map_congr_left fun kv _ => ?_
    show (if kv.1 = k then (kv.1, v) else kv).1 = kv.1
    split <;> rfl
  · rw [if_neg fun z => h (e.mp z), if_neg h, List.map_append]; rfl
theorem once_put {kvs : List (κ × V)} (h : (kvs.map (·.1)).Nodup) (k : κ) (v : V) : ((putK kvs k v).map (·.1)).Nodup := by
  rw [keys_of_put]
  split
  · exact h
  · rename_i n
    exact List.nodup_append.mpr ⟨h, List.nodup_cons.mpr ⟨fun z => (nomatch z), List.nodup_nil⟩, fun a ha b hb e => n (by rw [List.mem_singleton.mp hb] at e; exact e ▸ ha)⟩
theorem mem_put {kvs : List (κ × V)} {k j : κ} {v : V} : j ∈ (putK kvs k v).map (·.1) ↔ j = k ∨ j ∈ kvs.map (·.1) := by
  rw [keys_of_put]
  split
  · rename_i h
    exact ⟨.inr, fun z => z.elim (fun e => e ▸ h) id⟩
  · rw [List.mem_append, List.mem_singleton, or_comm]
theorem put_le {κ : Type} [DecidableEq κ] (kvs : List (κ × V)) (k : κ) (v : V) : (putK kvs k v).length ≤ kvs.length + 1 := by
  unfold putK
  split
  · rw [List.length_map]; omega
  · rw [List.length_append]; exact Nat.le_refl _
theorem valV_get {kvs : List (κ × V)} (nd : (kvs.map (·.1)).Nodup) {i : Nat} {k : κ} {v : V} (h : kvs[i]? = some (k, v)) : valV kvs k = some v := by
  induction kvs generalizing i with
  | nil => simp at h
  | cons kv r ih =>
    rw [List.map_cons, List.nodup_cons] at nd
    cases i with
    | zero =>
      simp at h; subst h
      exact valV_pos rfl
    | succ i =>
      have h : r[i]? = some (k, v) := by simpa using h
      rw [valV_neg (fun e => nd.1 (by rw [e]; exact List.mem_map.mpr ⟨(k, v), List.mem_of_getElem? h, rfl⟩))]
      exact ih nd.2 h
theorem valV_mem {kvs : List (κ × V)} {k : κ} : k ∈ kvs.map (·.1) ↔ ∃ v, valV kvs k = some v := by
  cases e : valV kvs k with
  | none => exact ⟨fun h => absurd h (valV_not e), fun ⟨_, h⟩ => nomatch h⟩
  | some v => exact ⟨fun _ => ⟨v, rfl⟩, fun _ => L2.valV_in e⟩
end
end Ag

set_option Elab.async false
set_option linter.all false
set_option maxRecDepth 100000
set_option maxHeartbeats 2000000
set_option pp.maxSteps 300
namespace Ag
open PySem PySem.Spec PyProof.Rows L2
/-! ### rows: hall, call, other -/
def rowK (r : Rw) : List Key := [.inr r.1, .inr r.2.1, .inr r.2.2]
def rowD (r : Rw) : PyData := .tuple [.str r.1, .str r.2.1, .str r.2.2]
def rowV (r : Rw) : List V := [.str r.1, .str r.2.1, .str r.2.2]
def hcK (h c : Str) : List Key := [.inr h, .inr c]
theorem rowK_inj {r s : Rw} (h : rowK r = rowK s) : r = s := by
  obtain ⟨a, b, c⟩ := r
  obtain ⟨d, e, f⟩ := s
  unfold rowK at h
  injection h with h1 h
  injection h with h2 h
  injection h with h3 h
  injection h1 with h1
  injection h2 with h2
  injection h3 with h3
  subst h1 h2 h3; rfl
theorem hcK_inj {h c h' c' : Str} (e : hcK h c = hcK h' c') : h = h' ∧ c = c' := by
  unfold hcK at e
  injection e with h1 e
  injection e with h2 e
  injection h1 with h1
  injection h2 with h2
  exact ⟨h1, h2⟩
def goodR (r : Rw) : Prop := nameB r.1 = true ∧ nameB r.2.1 = true ∧ nameB r.2.2 = true
/-- the answers of a call at a hall, in the order of the rows -/
def ansOf (S : List Rw) (h c : Str) : List Str := (S.filter fun r => decide (r.1 = h) && decide (r.2.1 = c)).map fun r => r.2.2
theorem ansOf_snoc (S : List Rw) (h c x h' c' : Str) : ansOf (S ++ [(h, c, x)]) h' c' = if h' = h ∧ c' = c then ansOf S h' c' ++ [x] else ansOf S h' c' := by
  unfold ansOf
  rw [List.filter_append, List.map_append]
  by_cases e : h' = h ∧ c' = c
  · rw [if_pos e, e.1, e.2]
    simp
  · rw [if_neg e]
    have : (decide (h = h') && decide (c = c')) = false := by
      rw [Bool.and_eq_false_iff, decide_eq_false_iff_not, decide_eq_false_iff_not]
      by_cases q : h = h'
      · exact .inr fun z => e ⟨q.symm, z.symm⟩
      · exact .inl q
    simp [this]
theorem mem_ansOf {S : List Rw} {h c o : Str} : o ∈ ansOf S h c ↔ (h, c, o) ∈ S := by
  unfold ansOf
  rw [List.mem_map]
  constructor
  · rintro ⟨r, hr, rfl⟩
    obtain ⟨h1, h2⟩ := List.mem_filter.mp hr
    rw [Bool.and_eq_true, decide_eq_true_eq, decide_eq_true_eq] at h2
    rw [← h2.1, ← h2.2]; exact h1
  · intro hm
    exact ⟨(h, c, o), List.mem_filter.mpr ⟨hm, by simp⟩, rfl⟩
theorem ansOf_len (S : List Rw) (h c : Str) : (ansOf S h c).length ≤ S.length := by
  unfold ansOf
  rw [List.length_map]; exact List.length_filter_le _ _
/-- answers by hall and call: what stands in a dict, A telling how the values stand -/
structure Ans (A : Hp → Addr → List V → Prop) (H : Hp) (kvs : List (List Key × V)) (S : List Rw) : Prop where
  len : kvs.length ≤ S.length
  at_ : ∀ h c, (ansOf S h c = [] ∧ valV kvs (hcK h c) = none) ∨ (ansOf S h c ≠ [] ∧ ∃ a : Addr, valV kvs (hcK h c) = some (.ref a) ∧ A H a ((ansOf S h c).map V.str))
  key : ∀ k ∈ kvs.map (·.1), ∃ h c, k = hcK h c ∧ ansOf S h c ≠ []
  once : (kvs.map (·.1)).Nodup
section
variable {A : Hp → Addr → List V → Prop} {H H' : Hp} {kvs : List (List Key × V)} {S : List Rw}
theorem Ans.nil : Ans A H [] [] := ⟨Nat.le_refl _, fun _ _ => .inl ⟨rfl, rfl⟩, fun _ h => (nomatch h), List.nodup_nil⟩
theorem Ans.kept (h : Ans A H kvs S) (k : ∀ a xs, A H a xs → A H' a xs) : Ans A H' kvs S := ⟨h.len, fun x c => (h.at_ x c).imp id fun ⟨n, a, e1, e2⟩ => ⟨n, a, e1, k _ _ e2⟩, h.key, h.once⟩
theorem Ans.mem (hA : Ans A H kvs S) {h c : Str} : hcK h c ∈ kvs.map (·.1) ↔ ansOf S h c ≠ [] := by
  rw [valV_mem]
  rcases hA.at_ h c with ⟨e1, e2⟩ | ⟨e1, a, e2, _⟩
  · exact ⟨fun ⟨v, z⟩ => (nomatch (e2.symm.trans z)), fun z => absurd e1 z⟩
  · exact ⟨fun _ => e1, fun _ => ⟨_, e2⟩⟩
theorem Ans.put (hA : Ans A H kvs S) (kp : ∀ a xs, A H a xs → A H' a xs) {h c x : Str} {a : Addr} (ha : A H' a ((ansOf S h c ++ [x]).map V.str)) : Ans A H' (putK kvs (hcK h c) (.ref a)) (S ++ [(h, c, x)]) where
  len := by
    have := put_le kvs (hcK h c) (V.ref a)
    have := hA.len
    rw [List.length_append]; show _ ≤ S.length + 1; omega
  at_ := fun h' c' => by
    rw [ansOf_snoc, valV_put]
    by_cases e : h' = h ∧ c' = c
    · rw [if_pos e, e.1, e.2, if_pos rfl]
      exact .inr ⟨by simp, a, rfl, ha⟩
    · rw [if_neg e, if_neg fun z => e (hcK_inj z)]
      exact (hA.at_ h' c').imp id fun ⟨n, b, e1, e2⟩ => ⟨n, b, e1, kp _ _ e2⟩
  key := fun k hk => by
    rcases mem_put.mp hk with rfl | hk
    · exact ⟨h, c, rfl, by rw [ansOf_snoc, if_pos ⟨rfl, rfl⟩]; simp⟩
    · obtain ⟨h', c', e, n⟩ := hA.key k hk
      refine ⟨h', c', e, ?_⟩
      rw [ansOf_snoc]
      split
      · simp
      · exact n
  once := once_put hA.once _ _
end
section
variable {K : PySem.W.Frag}
def RowsAt (K : PySem.W.Frag) (H : Hp) (zs : List (Addr × Rw)) : Prop := ∀ z ∈ zs, SqT K H z.1 (rowV z.2) ∧ goodR z.2
theorem RowsAt.same {H H' : Hp} {zs : List (Addr × Rw)} (s : Same H H') (h : RowsAt K H zs) : RowsAt K H' zs := fun z hz => ⟨s.stA (h z hz).1, (h z hz).2⟩
theorem row_dp {H : Hp} {a : Addr} {r : Rw} (h : SqT K H a (rowV r)) : Dp K H (.ref a) (rowD r) := .tup h (.cons (.str _) (.cons (.str _) (.cons (.str _) .nil)))
theorem rows_dps {H : Hp} : ∀ {zs : List (Addr × Rw)}, RowsAt K H zs → DpAll K H (zs.map fun z => V.ref z.1) (zs.map fun z => rowD z.2)
  | [], _ => .nil
  | z :: zs, h => .cons (row_dp (h z List.mem_cons_self).1) (rows_dps fun y hy => h y (List.mem_cons_of_mem _ hy))
/-- data that are rows: where they stand -/
theorem rows_at {H : Hp} : ∀ {vs : List V} {R : List Rw}, DpAll K H vs (R.map rowD) → (∀ r ∈ R, goodR r) → ∃ zs : List (Addr × Rw), vs = zs.map (fun z => V.ref z.1) ∧ zs.map Prod.snd = R ∧ RowsAt K H zs
  | [], [], _, _ => ⟨[], rfl, rfl, fun z hz => (nomatch hz)⟩
  | v :: vs, r :: R, h, g => by
    cases h with
    | cons a t =>
      obtain ⟨zs, e1, e2, e3⟩ := rows_at t fun y hy => g y (List.mem_cons_of_mem _ hy)
      cases a with
      | tup hs q =>
        rename_i b xs
        cases q with
        | cons q1 q =>
          cases q with
          | cons q2 q =>
            cases q with
            | cons q3 q =>
              cases q; cases q1; cases q2; cases q3
              exact ⟨(b, r) :: zs, by rw [List.map_cons, e1], by rw [List.map_cons, e2], fun z hz => by
                rcases List.mem_cons.mp hz with rfl | hz
                · exact ⟨hs, g _ List.mem_cons_self⟩
                · exact e3 z hz⟩
end
theorem rowD_inj {r s : Rw} (h : rowD r = rowD s) : r = s := by
  obtain ⟨a, b, c⟩ := r
  obtain ⟨d, e, f⟩ := s
  unfold rowD at h
  injection h with h
  injection h with h1 h
  injection h with h2 h
  injection h with h3 _
  injection h1 with h1
  injection h2 with h2
  injection h3 with h3
  exact Prod.ext h1 (Prod.ext h2 h3)
theorem sort_rows (R : List Rw) : (R.map rowD).mergeSort leD = (R.mergeSort (leF rkR)).map rowD := sort_tx (fun r : Rw => [r.1, r.2.1, r.2.2]) R
theorem eqv_row (r s : Rw) : PyData.eqv (rowD r) (rowD s) = decide (r = s) := by
  have := eqv_tx [r.1, r.2.1, r.2.2] [s.1, s.2.1, s.2.2]
  refine this.trans (decide_eq_decide.mpr ⟨fun h => ?_, fun h => by rw [h]⟩)
  injection h with h1 h
  injection h with h2 h
  injection h with h3 _
  exact Prod.ext h1 (Prod.ext h2 h3)
theorem nodup_len {α : Type} [DecidableEq α] : ∀ (ys xs : List α), ys.Nodup → (∀ y ∈ ys, y ∈ xs) → ys.length ≤ xs.length
  | [], _, _, _ => Nat.zero_le _
  | y :: ys, xs, nd, h => by
    obtain ⟨n1, n2⟩ := List.nodup_cons.mp nd
    have hy := h y List.mem_cons_self
    have ih := nodup_len ys (xs.erase y) n2 fun z hz => (List.mem_erase_of_ne (fun e => n1 (by rw [← e]; exact hz))).mpr (h z (List.mem_cons_of_mem _ hz))
    have l := List.length_erase_of_mem hy
    have p : 0 < xs.length := List.length_pos_of_mem hy
    rw [List.length_cons]; omega
/-- the rows that a list of rows has, ascending, each once -/
def Srt (R S : List Rw) : Prop := Up rkR S ∧ ∀ r, r ∈ S ↔ r ∈ R
theorem Srt.uniq {R S S' : List Rw} (a : Srt R S) (b : Srt R S') : S = S' := up_ext rkR_inj a.1 b.1 fun z => (a.2 z).trans (b.2 z).symm
theorem Srt.len {R S : List Rw} (a : Srt R S) : S.length ≤ R.length := nodup_len _ _ a.1.nodup fun y hy => (a.2 y).mp hy
theorem Srt.self {S : List Rw} (u : Up rkR S) : Srt S S := ⟨u, fun _ => Iff.rfl⟩
end Ag

set_option Elab.async false
set_option linter.all false
set_option maxRecDepth 100000
set_option maxHeartbeats 2000000
set_option pp.maxSteps 400
namespace Ag
open PySem PySem.Spec PyProof.Rows L2
/-! ### what stands at an address is no data -/
def NoDat (H : Hp) (a : Addr) : Prop := ∀ o, H a = some o → (∀ xs, o ≠ .lst xs) ∧ (∀ xs, o ≠ .tup xs) ∧ ∀ x u, o ≠ .frz x u
theorem nodat_ins {H : Hp} {b C dx : Addr} {fs : List (Str × V)} (h : H b = some (.ins C dx fs)) : NoDat H b := fun o e => by
  rw [h] at e; cases e; exact ⟨fun _ z => (nomatch z), fun _ z => (nomatch z), fun _ _ z => nomatch z⟩
theorem nodat_dT {H : Hp} {b : Addr} {kvs : List (List Key × V)} (h : H b = some (.dT kvs)) : NoDat H b := fun o e => by
  rw [h] at e; cases e; exact ⟨fun _ z => (nomatch z), fun _ z => (nomatch z), fun _ _ z => nomatch z⟩
theorem nodat_dK {H : Hp} {b : Addr} {kvs : List (Key × V)} (h : H b = some (.dK kvs)) : NoDat H b := fun o e => by
  rw [h] at e; cases e; exact ⟨fun _ z => (nomatch z), fun _ z => (nomatch z), fun _ _ z => nomatch z⟩
section
variable {K : PySem.W.Frag} {H H' : Hp} {b : Addr}
theorem NoDat.st {a : Addr} {xs : List V} (n : NoDat H b) (t : But b H H') (h : SqT K H a xs) : SqT K H' a xs := h.imp (fun z => by
  rcases z with z | ⟨o, z⟩
  · refine .inl (t _ _ (fun e => ?_) z)
    subst e; exact (n _ z).2.1 _ rfl
  · refine .inr ⟨o, t _ _ (fun e => ?_) z⟩
    subst e; exact (n _ z).2.2 _ _ rfl) id
theorem But.updb {o : HO} : But b H (L2.upd H b o) := fun a u n e => by rw [upd_ne n]; exact e
theorem st_free {a D : Addr} {xs : List V} (hD : H D = none) (t : But D H H') (h : SqT K H a xs) : SqT K H' a xs := h.imp (fun z => by
  rcases z with z | ⟨o, z⟩
  · exact .inl (t _ _ (ne_of_none z hD) z)
  · exact .inr ⟨o, t _ _ (ne_of_none z hD) z⟩) id
/-- what was kept under a lock is kept behind it -/
theorem unlock_but {d : Addr} {od : Obj} {u : HO} (e : H d = some u) (t : But b (L2.upd H d (.frz od u)) H') : But b H (L2.upd H' d u) := fun a o n h => by
  by_cases q : a = d
  · subst q; rw [e] at h; cases h; exact upd_same
  · rw [upd_ne q]; exact t a o n (by rw [upd_ne q]; exact h)
theorem unlock_st {d a : Addr} {od : Obj} {kvs : List (List Key × V)} {xs : List V} (e : H' d = some (.frz od (.dT kvs))) (h : SqT K H' a xs) : SqT K (L2.upd H' d (.dT kvs)) a xs := h.imp (fun z => by
  rcases z with z | ⟨o, z⟩
  · exact .inl (by rw [upd_ne (fun q => by rw [q, e] at z; cases z)]; exact z)
  · exact .inr ⟨o, by rw [upd_ne (fun q => by rw [q, e] at z; cases z)]; exact z⟩) id
theorem unlock_stK {d a : Addr} {od : Obj} {kvs : List (Key × V)} {xs : List V} (e : H' d = some (.frz od (.dK kvs))) (h : SqT K H' a xs) : SqT K (L2.upd H' d (.dK kvs)) a xs := h.imp (fun z => by
  rcases z with z | ⟨o, z⟩
  · exact .inl (by rw [upd_ne (fun q => by rw [q, e] at z; cases z)]; exact z)
  · exact .inr ⟨o, by rw [upd_ne (fun q => by rw [q, e] at z; cases z)]; exact z⟩) id
end
theorem But.trans' {b : Addr} {H1 H2 H3 : Hp} (x : But b H1 H2) (y : But b H2 H3) : But b H1 H3 := fun a o n e => y a o n (x a o n e)
theorem But.same {b : Addr} {H1 H2 : Hp} (x : Same H1 H2) : But b H1 H2 := fun a o _ e => x a o e
/-- the calls of a hall, of pairs -/
def callsOf (ps : List (Str × Str)) (h : Str) : List Str := (ps.filter fun p => decide (p.1 = h)).map (·.2)
theorem callsOf_snoc (ps : List (Str × Str)) (h c h' : Str) : callsOf (ps ++ [(h, c)]) h' = if h' = h then callsOf ps h' ++ [c] else callsOf ps h' := by
  unfold callsOf
  rw [List.filter_append, List.map_append]
  by_cases e : h' = h
  · rw [if_pos e, e]; simp
  · rw [if_neg e]
    have : decide (h = h') = false := decide_eq_false fun z => e z.symm
    simp [this]
theorem mem_callsOf {ps : List (Str × Str)} {h c : Str} : c ∈ callsOf ps h ↔ (h, c) ∈ ps := by
  unfold callsOf
  rw [List.mem_map]
  constructor
  · rintro ⟨r, hr, rfl⟩
    obtain ⟨h1, h2⟩ := List.mem_filter.mp hr
    rw [← of_decide_eq_true h2]; exact h1
  · intro hm
    exact ⟨(h, c), List.mem_filter.mpr ⟨hm, decide_eq_true rfl⟩, rfl⟩
theorem callsOf_len (ps : List (Str × Str)) (h : Str) : (callsOf ps h).length ≤ ps.length := by
  unfold callsOf
  rw [List.length_map]; exact List.length_filter_le _ _
theorem callsOf_once {ps : List (Str × Str)} (nd : ps.Nodup) (h : Str) : (callsOf ps h).Nodup := by
  unfold callsOf
  have := List.Pairwise.filter (fun p : Str × Str => decide (p.1 = h)) (List.nodup_iff_pairwise_ne.mp nd)
  refine List.nodup_iff_pairwise_ne.mpr (List.pairwise_map.mpr (List.Pairwise.imp_of_mem ?_ this))
  rintro ⟨a, b⟩ ⟨c, d⟩ h1 h2 ne e
  have e1 := of_decide_eq_true (List.mem_filter.mp h1).2
  have e2 := of_decide_eq_true (List.mem_filter.mp h2).2
  exact ne (Prod.ext (e1.trans e2.symm) e)
/-- calls by hall, as they are told one behind the other -/
structure KnA (K : PySem.W.Frag) (H : Hp) (kn : List (Key × V)) (ps : List (Str × Str)) : Prop where
  len : kn.length ≤ ps.length
  at_ : ∀ h, (callsOf ps h = [] ∧ valV kn (.inr h) = none) ∨ (callsOf ps h ≠ [] ∧ ∃ a : Addr, valV kn (.inr h) = some (.ref a) ∧ SqT K H a ((callsOf ps h).map V.str))
  key : ∀ k ∈ kn.map (·.1), ∃ h, k = .inr h ∧ callsOf ps h ≠ []
  once : (kn.map (·.1)).Nodup
theorem KnA.nil {K : PySem.W.Frag} {H : Hp} : KnA K H [] [] := ⟨Nat.le_refl _, fun _ => .inl ⟨rfl, rfl⟩, fun _ h => (nomatch h), List.nodup_nil⟩
theorem KnA.kept {K : PySem.W.Frag} {H H' : Hp} {kn : List (Key × V)} {ps : List (Str × Str)} (h : KnA K H kn ps) (k : ∀ a xs, SqT K H a xs → SqT K H' a xs) : KnA K H' kn ps := ⟨h.len, fun x => (h.at_ x).imp id fun ⟨n, a, e1, e2⟩ => ⟨n, a, e1, k _ _ e2⟩, h.key, h.once⟩
theorem KnA.put {K : PySem.W.Frag} {H H' : Hp} {kn : List (Key × V)} {ps : List (Str × Str)} (hK : KnA K H kn ps) (kp : ∀ a xs, SqT K H a xs → SqT K H' a xs) {h c : Str} {a : Addr} (ha : SqT K H' a ((callsOf ps h ++ [c]).map V.str)) : KnA K H' (putK kn (.inr h) (.ref a)) (ps ++ [(h, c)]) where
  len := by
    have := put_le kn (.inr h) (V.ref a)
    have := hK.len
    rw [List.length_append]; show _ ≤ ps.length + 1; omega
  at_ := fun h' => by
    rw [callsOf_snoc, valV_put]
    by_cases e : h' = h
    · rw [if_pos e, e, if_pos rfl]
      exact .inr ⟨by simp, a, rfl, ha⟩
    · rw [if_neg e, if_neg fun z => e (Sum.inr.inj z)]
      exact (hK.at_ h').imp id fun ⟨n, b, e1, e2⟩ => ⟨n, b, e1, kp _ _ e2⟩
  key := fun k hk => by
    rcases mem_put.mp hk with rfl | hk
    · exact ⟨h, rfl, by rw [callsOf_snoc, if_pos rfl]; simp⟩
    · obtain ⟨h', e, n⟩ := hK.key k hk
      refine ⟨h', e, ?_⟩
      rw [callsOf_snoc]
      split
      · simp
      · exact n
  once := once_put hK.once _ _
/-- the calls that are known at a hall, ascending -/
def KnF (K : PySem.W.Frag) (H : Hp) (kd : List (Key × V)) (S : List Rw) : Prop := ∀ h, ∃ cs : List Str, Up rkS cs ∧ (∀ c, c ∈ cs ↔ ansOf S h c ≠ []) ∧ ((cs = [] ∧ valV kd (.inr h) = none) ∨ (cs ≠ [] ∧ ∃ a : Addr, valV kd (.inr h) = some (.ref a) ∧ SqT K H a (cs.map V.str)))
theorem KnF.kept {K : PySem.W.Frag} {H H' : Hp} {kd : List (Key × V)} {S : List Rw} (h : KnF K H kd S) (k : ∀ a xs, SqT K H a xs → SqT K H' a xs) : KnF K H' kd S := fun x => let ⟨cs, e1, e2, e3⟩ := h x; ⟨cs, e1, e2, e3.imp id fun ⟨n, a, z1, z2⟩ => ⟨n, a, z1, k _ _ z2⟩⟩
theorem kvs_at {kvs : List (List Key × V)} {i : Nat} {k : List Key} {v : V} (h : kvs[i]? = some (k, v)) : k ∈ kvs.map (·.1) := List.mem_map.mpr ⟨(k, v), List.mem_of_getElem? h, rfl⟩
theorem alike_rows (r s : Rw) : PySem.W.alike (rowD r) (rowD s) = true := by simp [rowD, PySem.W.alike, PySem.W.alikeAll]
/-- rows as keys, sorted -/
theorem rows_sorted {zs : List (Addr × Rw)} {L ws : List (Addr × List Key)} (g : Has (zs.map fun z => (z.1, rowK z.2)) (zs.map fun z => (z.1, rowK z.2)).length L) (nd : (L.map Prod.snd).Nodup) (pm : ws.Perm L) (ez : (ws.map fun z => keyD z.2) = (L.map fun z => keyD z.2).mergeSort leD) :
    ∃ ys : List (Addr × Rw), ws = ys.map (fun z => (z.1, rowK z.2)) ∧ (∀ y ∈ ys, y ∈ zs) ∧ Srt (zs.map Prod.snd) (ys.map Prod.snd) := by
  have memL : ∀ y ∈ L, ∃ z ∈ zs, y = (z.1, rowK z.2) := fun y hy => by
    obtain ⟨z, hz, e⟩ := List.mem_map.mp (List.mem_of_mem_take (g.of y hy))
    exact ⟨z, hz, e.symm⟩
  have all : ∀ l : List (Addr × List Key), (∀ y ∈ l, ∃ z ∈ zs, y = (z.1, rowK z.2)) → ∃ ys : List (Addr × Rw), l = ys.map (fun z => (z.1, rowK z.2)) ∧ ∀ y ∈ ys, y ∈ zs := by
    intro l
    induction l with
    | nil => exact fun _ => ⟨[], rfl, fun y hy => nomatch hy⟩
    | cons a l ih =>
      intro h
      obtain ⟨ys, e, m⟩ := ih fun y hy => h y (List.mem_cons_of_mem _ hy)
      obtain ⟨z, hz, ez⟩ := h a List.mem_cons_self
      exact ⟨z :: ys, by rw [List.map_cons, ← e, ez], fun y hy => (List.mem_cons.mp hy).elim (fun q => q ▸ hz) (m y)⟩
  obtain ⟨ls, el, _⟩ := all L memL
  obtain ⟨ys, e, m⟩ := all ws fun y hy => memL y (pm.mem_iff.mp hy)
  have kd : ∀ l : List (Addr × Rw), ((l.map fun z => ((z.1, rowK z.2) : Addr × List Key)).map fun z => keyD z.2) = (l.map Prod.snd).map rowD := fun l => by rw [List.map_map, List.map_map]; rfl
  rw [e, el, kd, kd, sort_rows] at ez
  have ez : ys.map Prod.snd = (ls.map Prod.snd).mergeSort (leF rkR) := by
    have inj : ∀ a b : List Rw, a.map rowD = b.map rowD → a = b := by
      intro a
      induction a with
      | nil => intro b h; cases b with | nil => rfl | cons x b => cases h
      | cons x a ih =>
        intro b h
        cases b with
        | nil => cases h
        | cons y b =>
          rw [List.map_cons, List.map_cons] at h
          injection h with h1 h2
          rw [rowD_inj h1, ih b h2]
    exact inj _ _ ez
  have ndl : (ls.map Prod.snd).Nodup := by
    rw [el, List.map_map] at nd
    rw [show (Prod.snd ∘ fun z : Addr × Rw => ((z.1, rowK z.2) : Addr × List Key)) = rowK ∘ Prod.snd from rfl, ← List.map_map] at nd
    exact (List.pairwise_map.mp nd).imp fun h e => h (by rw [e])
  refine ⟨ys, e, m, by rw [ez]; exact up_sort rkR_inj ndl, fun r => ⟨fun hr => ?_, fun hr => ?_⟩⟩
  · obtain ⟨y, hy, rfl⟩ := List.mem_map.mp hr
    exact List.mem_map.mpr ⟨y, m y hy, rfl⟩
  · obtain ⟨z, hz, rfl⟩ := List.mem_map.mp hr
    have h1 : ((z.1, rowK z.2) : Addr × List Key) ∈ (zs.map fun z => (z.1, rowK z.2)).take (zs.map fun z => (z.1, rowK z.2)).length := by
      rw [List.take_length]; exact List.mem_map.mpr ⟨z, hz, rfl⟩
    have h2 := g.all _ h1
    have h3 : rowK z.2 ∈ ws.map Prod.snd := (pm.map Prod.snd).mem_iff.mpr h2
    rw [e, List.map_map] at h3
    obtain ⟨y, hy, ey⟩ := List.mem_map.mp h3
    exact List.mem_map.mpr ⟨y, hy, rowK_inj ey⟩
theorem run_sortset {P : Program} {w : World} {K : PySem.W.Frag} {σ : L2.St} {H : Hp} {i : Nat} {ra : Addr} {zs : List (Addr × Rw)} {Q : VK} (h : σ[i]? = some (some (.ref ra))) (hra : SqL K H ra (zs.map fun z => V.ref z.1) ∨ SqT K H ra (zs.map fun z => V.ref z.1)) (hz : RowsAt K H zs) (zl : zs.length < 301)
    (k : ∀ q ys H', Same H H' → H' q = some (.lst (ys.map fun z : Addr × Rw => V.ref z.1)) → RowsAt K H' ys → Srt (zs.map Prod.snd) (ys.map Prod.snd) → ys.length ≤ zs.length → Q (.ref q) H') :
    tCB (rSortQ K P w) (tCons (tCB (rSetQ K P w) (tCons (tVar i) tNil)) tNil) σ H Q := by
  have em : (zs.map fun z => V.ref z.1) = (zs.map fun z => ((z.1, rowK z.2) : Addr × List Key)).map fun z => V.ref z.1 := by rw [List.map_map]; rfl
  have rd : ∀ d ∈ (zs.map fun z => ((z.1, rowK z.2) : Addr × List Key)).map fun z => keyD z.2, ∃ r, d = rowD r := fun d hd => by
    rw [List.map_map] at hd
    obtain ⟨z, _, rfl⟩ := List.mem_map.mp hd
    exact ⟨z.2, rfl⟩
  refine ⟨_, h, ra, zs.map fun z => (z.1, rowK z.2), rfl, by rw [← em]; exact hra, fun z hz' => ?_, by rw [List.length_map]; exact zl, fun p hp => ?_⟩
  · obtain ⟨y, hy, rfl⟩ := List.mem_map.mp hz'
    exact (hz y hy).1
  have s2 := Same.newA (o := KeySet P w p (zs.map fun z => (z.1, rowK z.2))) hp
  refine ⟨p, zs.map fun z => (z.1, rowK z.2), rfl, upd_same, fun z hz' => ?_, fun d hd e he => ?_, .inl fun d hd => ?_, fun L ws q hL nd pm ez hq => ?_⟩
  · obtain ⟨y, hy, rfl⟩ := List.mem_map.mp hz'
    exact s2.stA (hz y hy).1
  · obtain ⟨r, rfl⟩ := rd d hd
    obtain ⟨r2, rfl⟩ := rd e he
    exact alike_rows r r2
  · obtain ⟨r, rfl⟩ := rd d hd
    exact ⟨_, _, rfl⟩
  obtain ⟨ys, rfl, my, srt⟩ := rows_sorted hL nd pm ez
  have s3 := Same.newA (o := .lst ((ys.map fun z => ((z.1, rowK z.2) : Addr × List Key)).map fun z => V.ref z.1)) hq
  have yl := srt.len
  rw [List.length_map, List.length_map] at yl
  exact k q ys _ (s2.trans s3) (by rw [upd_same, List.map_map]; rfl) (fun y hy => ⟨(s2.trans s3).stA (hz y (my y hy)).1, (hz y (my y hy)).2⟩) srt yl
/-! ### d[h, c] = d.get((h, c), ..) + .. -/
theorem cat_one {K : PySem.W.Frag} {H : Hp} {a u : Addr} {os : List Str} {x : Str} {Q : VK} (ha : SqT K H a (os.map V.str)) (hu : H u = some (.tup [.str x])) (l : os.length ≤ 10000) (k : ∀ z H1, Same H H1 → SqT K H1 z ((os ++ [x]).map V.str) → Q (.ref z) H1) : rCatA K (.ref a) (.ref u) H Q :=
  run_catT (F := nn H) (xs := os.map .str) (ys := [.str x]) (.tup ha (dfs_strs os)) (.tup (SqT.of hu) (.cons (.str _) .nil)) (by rw [List.length_map]; show os.length + 1 ≤ 100000; omega) fun z H1 s1 hz => by
    rw [show (os.map PyData.str ++ [.str x]) = (os ++ [x]).map PyData.str by rw [List.map_append]; rfl] at hz
    cases hz with
    | tup h r =>
      have e := strs_dps (dfs_dps r)
      subst e
      exact k _ _ s1 h
section
variable {K : PySem.W.Frag} {σ : L2.St} {H : Hp} {D : Ends} {i j l m : Nat} {td : Addr} {h c x : Str} {R : List Rw}
theorem put_ans {kvs : List (List Key × V)} (h2 : σ[i]? = some (some (.ref td))) (h3 : σ[j]? = some (some (.str h))) (h4 : σ[l]? = some (some (.str c))) (h5 : σ[m]? = some (some (.str x))) (e : H td = some (.dT kvs)) (hA : Ans (SqT K) H kvs R) (sz : R.length < 10000)
    (k : ∀ kvs' H', But td H H' → H' td = some (.dT kvs') → Ans (SqT K) H' kvs' (R ++ [(h, c, x)]) → D.nx σ H') :
    sDPut (tVar i) (tTup (tCons (tVar j) (tCons (tVar l) tNil))) (tOp (rCatA K) (tDGet2 (tVar i) (tTup (tCons (tVar j) (tCons (tVar l) tNil))) (tTup tNil)) (tTup (tCons (tVar m) tNil))) D σ H := by
  refine ⟨_, h2, td, rfl, .inr ⟨kvs, .inl e⟩, _, h3, _, h4, (by show 2 ≤ sizeLine; decide), fun t ht => ⟨(by show 0 ≤ sizeLine; decide), fun n hn => ?_⟩⟩
  have s1 := Same.newA (o := .tup [.str h, .str c]) ht
  have s2 := Same.newA (o := .tup []) hn
  have gt := s2 _ _ (upd_same (H := H) (a := t) (o := .tup [.str h, .str c]))
  have gn := upd_same (H := upd H t (.tup [.str h, .str c])) (a := n) (o := .tup [])
  have s12 := s1.trans s2
  have al := ansOf_len R h c
  revert gt gn s12
  generalize upd (upd H t (.tup [.str h, .str c])) n (.tup []) = G
  intro gt gn s12
  have eG := s12 _ _ e
  have fin : ∀ (a : Addr), SqT K G a ((ansOf R h c).map V.str) → tTup (tCons (tVar m) tNil) σ G fun y H1 => rCatA K (.ref a) y H1 fun z H2 => tVar i σ H2 fun d H3 => tTup (tCons (tVar j) (tCons (tVar l) tNil)) σ H3 fun y H4 => ∃ a H5, d = .ref a ∧ DPut H4 a y z H5 ∧ D.nx σ H5 := fun a ha => by
    refine ⟨_, h5, (by show 1 ≤ sizeLine; decide), fun u hu => ?_⟩
    have s3 := Same.newA (o := .tup [.str x]) hu
    refine cat_one (s3.stA ha) upd_same (by omega) fun z H1 s4 hz => ⟨_, h2, _, h3, _, h4, (by show 2 ≤ sizeLine; decide), fun t2 ht2 => ?_⟩
    have s5 := Same.newA (o := .tup [.str h, .str c]) ht2
    have sA := s3.trans (s4.trans s5)
    have e6 := sA _ _ eG
    refine ⟨td, _, rfl, DPut.t (k := hcK h c) e6 upd_same (lt5 (by have := hA.len; omega)), ?_⟩
    have sK : ∀ a xs, SqT K H a xs → SqT K (upd (upd H1 t2 (.tup [.str h, .str c])) td (.dT (putK kvs (hcK h c) (.ref z)))) a xs := fun a xs ha => (nodat_dT e6).st .updb ((s12.trans sA).stA ha)
    exact k _ _ ((But.same (s12.trans sA)).trans' .updb) upd_same (hA.put sK ((nodat_dT e6).st .updb (s5.stA hz)))
  rcases hA.at_ h c with ⟨e2, e1⟩ | ⟨_, a, e1, e2⟩
  · refine ⟨none, by rw [← e1]; exact DGet.t eG gt, ?_⟩
    exact fin n (by rw [e2]; exact SqT.of gn)
  · refine ⟨some (.ref a), by rw [← e1]; exact DGet.t eG gt, ?_⟩
    exact fin a (s12.stA e2)
abbrev lstA : Hp → Addr → List V → Prop := fun H a xs => H a = some (.lst xs)
theorem put_lst {kvs : List (List Key × V)} (h2 : σ[i]? = some (some (.ref td))) (h3 : σ[j]? = some (some (.str h))) (h4 : σ[l]? = some (some (.str c))) (h5 : σ[m]? = some (some (.str x))) (e : H td = some (.dT kvs)) (hA : Ans lstA H kvs R) (sz : R.length < 10000)
    (k : ∀ kvs' H', But td H H' → H' td = some (.dT kvs') → Ans lstA H' kvs' (R ++ [(h, c, x)]) → D.nx σ H') :
    sDPut (tVar i) (tTup (tCons (tVar j) (tCons (tVar l) tNil))) (tOp rCat (tDGet2 (tVar i) (tTup (tCons (tVar j) (tCons (tVar l) tNil))) (tLst tNil)) (tLst (tCons (tVar m) tNil))) D σ H := by
  refine ⟨_, h2, td, rfl, .inr ⟨kvs, .inl e⟩, _, h3, _, h4, (by show 2 ≤ sizeLine; decide), fun t ht => ⟨(by show 0 ≤ sizeLine; decide), fun n hn => ?_⟩⟩
  have s1 := Same.newA (o := .tup [.str h, .str c]) ht
  have s2 := Same.newA (o := .lst []) hn
  have gt := s2 _ _ (upd_same (H := H) (a := t) (o := .tup [.str h, .str c]))
  have gn := upd_same (H := upd H t (.tup [.str h, .str c])) (a := n) (o := .lst [])
  have s12 := s1.trans s2
  have al := ansOf_len R h c
  revert gt gn s12
  generalize upd (upd H t (.tup [.str h, .str c])) n (.lst []) = G
  intro gt gn s12
  have eG := s12 _ _ e
  have fin : ∀ (a : Addr), G a = some (.lst ((ansOf R h c).map V.str)) → tLst (tCons (tVar m) tNil) σ G fun y H1 => rCat (.ref a) y H1 fun z H2 => tVar i σ H2 fun d H3 => tTup (tCons (tVar j) (tCons (tVar l) tNil)) σ H3 fun y H4 => ∃ a H5, d = .ref a ∧ DPut H4 a y z H5 ∧ D.nx σ H5 := fun a ha => by
    refine ⟨_, h5, (by show 1 ≤ sizeLine; decide), fun u hu => ?_⟩
    have s3 := Same.newA (o := .lst [.str x]) hu
    refine ⟨a, u, _, _, rfl, rfl, s3 _ _ ha, upd_same, small5 (by rw [List.length_map]; show _ + 1 ≤ 100000; omega), fun z hz => ⟨_, h2, _, h3, _, h4, (by show 2 ≤ sizeLine; decide), fun t2 ht2 => ?_⟩⟩
    have s4 := Same.newA (o := .lst ((ansOf R h c).map V.str ++ [V.str x])) hz
    have s5 := Same.newA (o := .tup [.str h, .str c]) ht2
    have sA := s3.trans (s4.trans s5)
    have e6 := sA _ _ eG
    refine ⟨td, _, rfl, DPut.t (k := hcK h c) e6 upd_same (lt5 (by have := hA.len; omega)), ?_⟩
    have gz := s5 _ _ (upd_same (H := upd G u (.lst [.str x])) (a := z) (o := .lst ((ansOf R h c).map V.str ++ [V.str x])))
    have sK : ∀ a xs, lstA H a xs → lstA (upd (upd (upd (upd G u (.lst [.str x])) z (.lst ((ansOf R h c).map V.str ++ [V.str x]))) t2 (.tup [.str h, .str c])) td (.dT (putK kvs (hcK h c) (.ref z)))) a xs := fun a xs ha => by
      show _ = _
      rw [upd_ne (ne_of ha e (fun q => nomatch q))]
      exact (s12.trans sA) _ _ ha
    refine k _ _ ((But.same (s12.trans sA)).trans' .updb) upd_same (hA.put sK ?_)
    show _ = _
    rw [upd_ne (ne_of gz e6 (fun q => nomatch q)), List.map_append]; exact gz
  rcases hA.at_ h c with ⟨e2, e1⟩ | ⟨_, a, e1, e2⟩
  · refine ⟨none, by rw [← e1]; exact DGet.t eG gt, ?_⟩
    exact fin n (by rw [e2]; exact gn)
  · refine ⟨some (.ref a), by rw [← e1]; exact DGet.t eG gt, ?_⟩
    exact fin a (s12 _ _ e2)
theorem put_kn {kn : List (Key × V)} {ps : List (Str × Str)} (h2 : σ[i]? = some (some (.ref td))) (h3 : σ[j]? = some (some (.str h))) (h5 : σ[m]? = some (some (.str c))) (e : H td = some (.dK kn)) (hK : KnA K H kn ps) (sz : ps.length < 10000)
    (k : ∀ kn' H', But td H H' → H' td = some (.dK kn') → KnA K H' kn' (ps ++ [(h, c)]) → D.nx σ H') :
    sDPut (tVar i) (tVar j) (tOp (rCatA K) (tDGet2 (tVar i) (tVar j) (tTup tNil)) (tTup (tCons (tVar m) tNil))) D σ H := by
  refine ⟨_, h2, td, rfl, .inl ⟨kn, .inl e⟩, _, h3, (by show 0 ≤ sizeLine; decide), fun t ht => ?_⟩
  have s1 := Same.newA (o := .tup []) ht
  have eG := s1 _ _ e
  have al := callsOf_len ps h
  have fin : ∀ (a : Addr), SqT K (upd H t (.tup [])) a ((callsOf ps h).map V.str) → tTup (tCons (tVar m) tNil) σ (upd H t (.tup [])) fun y H1 => rCatA K (.ref a) y H1 fun z H2 => tVar i σ H2 fun d H3 => tVar j σ H3 fun y H4 => ∃ a H5, d = .ref a ∧ DPut H4 a y z H5 ∧ D.nx σ H5 := fun a ha => by
    refine ⟨_, h5, (by show 1 ≤ sizeLine; decide), fun u hu => ?_⟩
    have s3 := Same.newA (o := .tup [.str c]) hu
    refine cat_one (s3.stA ha) upd_same (by omega) fun z H1 s4 hz => ⟨_, h2, _, h3, td, _, rfl, DPut.k (k := .inr h) (s4 _ _ (s3 _ _ eG)) (lt5 (by have := hK.len; omega)), ?_⟩
    have e6 := s4 _ _ (s3 _ _ eG)
    exact k _ _ ((But.same (s1.trans (s3.trans s4))).trans' .updb) upd_same (hK.put (fun a xs ha => (nodat_dK e6).st .updb ((s1.trans (s3.trans s4)).stA ha)) ((nodat_dK e6).st .updb hz))
  refine ⟨_, DGet.k (k := .inr h) eG, ?_⟩
  rcases hK.at_ h with ⟨e2, e1⟩ | ⟨_, a, e1, e2⟩
  · rw [e1]; exact fin t (by rw [e2]; exact SqT.of upd_same)
  · rw [e1]; exact fin a (s1.stA e2)
end
def srvFs (rt td kd : Addr) : List (Str × V) := [("rows", .ref rt), ("_answers", .ref td), ("_known", .ref kd)]
/-- a Server of the rows S -/
structure SvParts (K : PySem.W.Frag) (C b dx rt td kd : Addr) (kvs : List (List Key × V)) (kn : List (Key × V)) (S : List Rw) (H : Hp) : Prop where
  obj : H b = some (.ins C dx (srvFs rt td kd))
  rows : Dp K H (.ref rt) (.tuple (S.map rowD))
  ansd : H td = some (.dT kvs)
  ans : Ans (SqT K) H kvs S
  knd : H kd = some (.dK kn)
  knw : KnF K H kn S
  knk : ∀ k ∈ kn.map (·.1), ∃ h, k = Sum.inr h
  up : Up rkR S
  good : ∀ r ∈ S, goodR r
  len : S.length < 301
def ServerAt (K : PySem.W.Frag) (C b : Addr) (S : List Rw) (H : Hp) : Prop := ∃ dx rt td kd kvs kn, SvParts K C b dx rt td kd kvs kn S H
theorem ServerAt.same {K : PySem.W.Frag} {C b : Addr} {S : List Rw} {H H' : Hp} (s : Same H H') (h : ServerAt K C b S H) : ServerAt K C b S H' := by
  obtain ⟨dx, rt, td, kd, kvs, kn, h⟩ := h
  exact ⟨dx, rt, td, kd, kvs, kn, s _ _ h.obj, dp_mono s h.rows, s _ _ h.ansd, h.ans.kept fun a xs e => s.stA e, s _ _ h.knd, h.knw.kept fun a xs e => s.stA e, h.knk, h.up, h.good, h.len⟩
end Ag

set_option Elab.async false
set_option linter.all false
set_option maxRecDepth 100000
set_option maxHeartbeats 4000000
set_option pp.maxSteps 400
namespace Ag
open PySem PySem.Spec PyProof.Rows L2
/-! ### _law_some, _law_mixed -/
def spSome (K : PySem.W.Frag) : Sp := fun vs H Q _ => ∃ (p c a : Addr) (xs : List V) (n mo : Nat), vs = [.ref p, .ref a, .int (mo : Nat)] ∧ Pen p c n H ∧ (SqL K H a xs ∨ SqT K H a xs) ∧ xs.length < 1000 ∧ mo < 1000 ∧ n + 200000 < 1000000000000 ∧
  ∀ (l : Addr) (ys : List V) H', (∀ y ∈ ys, y ∈ xs) → ys.length ≤ mo → ys.length ≤ xs.length → (xs.Nodup → ys.Nodup) → H l = none → H' l = some (.lst ys) → But p H H' → Pen p c (n + xs.length + 1) H' → Q (.ref l) H'
def spMixed (K : PySem.W.Frag) : Sp := fun vs H Q _ => ∃ (p c a : Addr) (xs : List V) (n : Nat), vs = [.ref p, .ref a] ∧ Pen p c n H ∧ (SqL K H a xs ∨ SqT K H a xs) ∧ xs.length < 1000 ∧ n + 500000 < 1000000000000 ∧
  ∀ (l : Addr) (ys more : List V) H', ys.Perm (xs ++ more) → (∀ y ∈ more, y ∈ xs) → more.length ≤ 3 → H l = none → H' l = some (.lst ys) → But p H H' → Pen p c (n + 2 * xs.length + 4) H' → Q (.ref l) H'
theorem cutV_to {xs : List V} {k : Nat} : cutV xs none (some (k : Int)) = xs.take (min k xs.length) := by
  unfold cutV
  rw [HT.sIx_none, HT.sIx_nat, List.drop_zero, Nat.sub_zero]
section
variable {P : Program} {w : World} {K : PySem.W.Frag} {mg : Str → Option Value} {base : Heap} (T : Txt w K mg)
theorem ok_some : FnOk P w K mg base CX0 3 T.a_law_some T.d_law_some ["pen", "some", "most"] (spSome K) := by
  have G_law_draw := ok_draw (P := P) (base := base) T
  have G_law_shuffled := ok_shuf (P := P) (base := base) T
  refine T.D_law_some.fn.ok sc_law_some (fun vs H Q E h => ?_) (fun cdv A outer s H vs Q E hr h => ?_)
  · obtain ⟨p, c, a, xs, n, mo, rfl, _⟩ := h; rfl
  · obtain ⟨p, c, a, xs, n, mo, rfl, P0, hs, hx, hmo, hn, k⟩ := h
    refine ⟨_, (pss_one (ps_ret (pe_slice sl_list (pe_call (G_law_shuffled) (hr.mono (by omega)) (by rfl) T.D_law_shuffled.mg T.D_law_shuffled.fn.kp T.D_law_shuffled.bd .nil pass0 (pa_cons (pv 0) (pa_cons (pv 1) pa_nil))) po_none (po_some (pe_call (G_law_draw) (hr.mono (by omega)) (by rfl) T.D_law_draw.mg T.D_law_draw.fn.kp T.D_law_draw.bd .nil pass0 (pa_cons (pv 0) (pa_cons (pe_op op_add (pe_callB (call_min2 rfl) (by rfl) T.b_min bt_min (pa_cons (pv 2) (pa_cons (pe_callB call_len (by rfl) T.b_len bt_len (pa_cons (pv 1) pa_nil)) pa_nil))) pe_int) pa_nil))))))), ?_⟩
    refine ⟨_, rfl, _, rfl, p, c, a, xs, n, rfl, P0, hs, by omega, by omega, fun l ys H1 pm hl e1 b1 P1 => ?_⟩
    have hs1 := hs.imp (P0.sl b1) (P0.st b1)
    refine ⟨_, rfl, _, rfl, _, rfl, _, _, rfl, hs1.elim (fun z => .inl ⟨_, z, rfl⟩) (fun z => .inr ⟨_, z, rfl⟩), mo, xs.length, rfl, _, _, rfl, rfl, p, c, _, _, rfl, P1, by omega, by omega, by omega, fun d H2 d0 d1 b2 P2 => ⟨_, rfl, ?_⟩⟩
    obtain ⟨m, rfl⟩ : ∃ m : Nat, d = m := ⟨d.toNat, by omega⟩
    refine ⟨l, ys, rfl, SqL.of (b2 _ _ (P1.ne e1 (fun _ z => nomatch z)) e1), fun q hq => ?_⟩
    rw [cutV_to]
    have s3 := Same.newA (o := .lst (ys.take (min m ys.length))) hq
    exact k q _ _ (fun y hy => pm.mem_iff.mp (List.mem_of_mem_take hy)) (by rw [List.length_take]; omega) (by rw [List.length_take]; omega) (fun nd => List.Nodup.sublist (List.take_sublist _ _) (pm.nodup_iff.mpr nd)) ((b1.trans b2).free hq (P2.ne_p hq)) upd_same (b1.trans (b2.trans (But.of s3))) (P2.same s3)
theorem ok_mixed : FnOk P w K mg base CX0 4 T.a_law_mixed T.d_law_mixed ["pen", "some"] (spMixed K) := by
  have G_law_some := ok_some (P := P) (base := base) T
  have G_law_shuffled := ok_shuf (P := P) (base := base) T
  refine T.D_law_mixed.fn.ok sc_law_mixed (fun vs H Q E h => ?_) (fun cdv A outer s H vs Q E hr h => ?_)
  · obtain ⟨p, c, a, xs, n, rfl, _⟩ := h; rfl
  · obtain ⟨p, c, a, xs, n, rfl, P0, hs, hx, hn, k⟩ := h
    refine ⟨_, (pss_one (ps_ret (pe_call (G_law_shuffled) (hr.mono (by omega)) (by rfl) T.D_law_shuffled.mg T.D_law_shuffled.fn.kp T.D_law_shuffled.bd .nil pass0 (pa_cons (pv 0) (pa_cons (pe_op op_cat (pe_callTy call_list_of (by rfl) T.b_list bt_list (pa_cons (pv 1) pa_nil)) (pe_call (G_law_some) (hr.mono (by omega)) (by rfl) T.D_law_some.mg T.D_law_some.fn.kp T.D_law_some.bd .nil pass0 (pa_cons (pv 0) (pa_cons (pv 1) (pa_cons pe_int pa_nil))))) pa_nil))))), ?_⟩
    refine ⟨_, rfl, _, rfl, a, xs, rfl, hs, fun q hq => ?_⟩
    have s1 := Same.newA (o := .lst xs) hq
    have P1 := P0.same s1
    have eq : (upd H q (.lst xs)) q = some (.lst xs) := upd_same
    refine ⟨_, rfl, _, rfl, p, c, a, xs, n, 3, rfl, P1, hs.imp s1.slA s1.stA, hx, by omega, by omega, fun l ys H2 ym yl _ _ _ e2 b2 P2 => ?_⟩
    have eq2 := b2 _ _ (P1.ne eq (fun _ z => nomatch z)) eq
    refine ⟨q, l, _, _, rfl, rfl, eq2, e2, small5 (by omega), fun r hr => ?_⟩
    have s3 := Same.newA (o := .lst (xs ++ ys)) hr
    have P3 := P2.same s3
    refine ⟨p, c, r, xs ++ ys, _, rfl, P3, .inl (.of upd_same), by rw [List.length_append]; omega, by omega, fun l2 zs H4 pm hl2 e4 b4 P4 => ?_⟩
    exact k l2 zs ys H4 pm ym yl (((But.of s1).trans (b2.trans (But.of s3))).free hl2 (P3.ne_p hl2)) e4 ((But.of s1).trans (b2.trans ((But.of s3).trans b4))) (P4.more (by rw [List.length_append]; omega))
end
/-! ### the law's server -/
def lsKV (rl ad pl : Addr) : List (Key × V) := [(ck "rows", .ref rl), (ck "answers", .ref ad), (ck "places", .ref pl)]
theorem lk1 : ¬ ck "rows" = ck "answers" := by decide +kernel
theorem lk2 : ¬ ck "rows" = ck "places" := by decide +kernel
theorem lk3 : ¬ ck "answers" = ck "places" := by decide +kernel
theorem lt1 : ¬ Str.ofString "rows" = Str.ofString "answers" := by decide +kernel
theorem lt2 : ¬ Str.ofString "rows" = Str.ofString "places" := by decide +kernel
theorem lt3 : ¬ Str.ofString "answers" = Str.ofString "places" := by decide +kernel
theorem merge_ls {rl ad pl : Addr} : mergeK [] [(ck "rows", V.ref rl), (ck "answers", .ref ad), (ck "places", .ref pl)] = lsKV rl ad pl := by
  unfold mergeK
  simp [putK, lsKV, ck, lt1, lt2, lt3]
section
variable {rl ad pl : Addr} {H : Hp} {m : Addr}
theorem ls_rows (h : H m = some (.dK (lsKV rl ad pl))) : DGet H m (.str "rows") (some (.ref rl)) := by
  have q := DGet.k (k := ck "rows") h
  rw [show valV (lsKV rl ad pl) (ck "rows") = some (.ref rl) from valV_pos rfl] at q; exact q
theorem ls_answers (h : H m = some (.dK (lsKV rl ad pl))) : DGet H m (.str "answers") (some (.ref ad)) := by
  have q := DGet.k (k := ck "answers") h
  rw [show valV (lsKV rl ad pl) (ck "answers") = some (.ref ad) by unfold lsKV; rw [valV_neg lk1]; exact valV_pos rfl] at q; exact q
theorem ls_places (h : H m = some (.dK (lsKV rl ad pl))) : DGet H m (.str "places") (some (.ref pl)) := by
  have q := DGet.k (k := ck "places") h
  rw [show valV (lsKV rl ad pl) (ck "places") = some (.ref pl) by unfold lsKV; rw [valV_neg lk2, valV_neg lk3]; exact valV_pos rfl] at q; exact q
end
structure LsParts (K : PySem.W.Frag) (m rl ad pl : Addr) (ys : List (Addr × Rw)) (kvs : List (List Key × V)) (ps : List Str) (S : List Rw) (H : Hp) : Prop where
  dict : H m = some (.dK (lsKV rl ad pl))
  rows : H rl = some (.lst (ys.map fun z => V.ref z.1))
  good : RowsAt K H ys
  snd : ys.map Prod.snd = S
  up : Up rkR S
  ansd : H ad = some (.dT kvs)
  ans : Ans lstA H kvs S
  plc : H pl = some (.lst (ps.map V.str))
  pup : Up rkS ps
  pmem : ∀ x, x ∈ ps ↔ ∃ r ∈ S, x = r.1 ∨ x = r.2.2
  len : S.length < 301
def LsAt (K : PySem.W.Frag) (m : Addr) (S : List Rw) (H : Hp) : Prop := ∃ rl ad pl ys kvs ps, LsParts K m rl ad pl ys kvs ps S H
theorem LsAt.same {K : PySem.W.Frag} {m : Addr} {S : List Rw} {H H' : Hp} (s : Same H H') (h : LsAt K m S H) : LsAt K m S H' := by
  obtain ⟨rl, ad, pl, ys, kvs, ps, h⟩ := h
  exact ⟨rl, ad, pl, ys, kvs, ps, ⟨s _ _ h.dict, s _ _ h.rows, h.good.same s, h.snd, h.up, s _ _ h.ansd, h.ans.kept fun a xs e => s _ _ e, s _ _ h.plc, h.pup, h.pmem, h.len⟩⟩
theorem LsAt.but {K : PySem.W.Frag} {m p c : Addr} {n : Nat} {S : List Rw} {H H' : Hp} (P : Pen p c n H) (b : But p H H') (h : LsAt K m S H) : LsAt K m S H' := by
  obtain ⟨rl, ad, pl, ys, kvs, ps, h⟩ := h
  have nm : m ≠ p := fun z => by
    subst z
    obtain ⟨ce, a', dd, k, f, hp, _⟩ := P
    have z := HO.dK.inj (Option.some.inj (h.dict.symm.trans hp))
    have := congrArg List.length z
    unfold lsKV penKV at this
    cases this
  exact ⟨rl, ad, pl, ys, kvs, ps, ⟨b _ _ nm h.dict, b _ _ (P.ne h.rows (fun _ z => nomatch z)) h.rows, fun y hy => ⟨P.st b (h.good y hy).1, (h.good y hy).2⟩, h.snd, h.up, b _ _ (P.ne h.ansd (fun _ z => nomatch z)) h.ansd, h.ans.kept fun a xs e => b _ _ (P.ne e (fun _ z => nomatch z)) e, b _ _ (P.ne h.plc (fun _ z => nomatch z)) h.plc, h.pup, h.pmem, h.len⟩⟩
theorem LsAt.goodR {K : PySem.W.Frag} {m : Addr} {S : List Rw} {H : Hp} (h : LsAt K m S H) : ∀ r ∈ S, goodR r := fun r hr => by
  obtain ⟨rl, ad, pl, ys, kvs, ps, h⟩ := h
  rw [← h.snd] at hr
  obtain ⟨y, hy, rfl⟩ := List.mem_map.mp hr
  exact (h.good y hy).2
end Ag

set_option Elab.async false
set_option linter.all false
set_option maxRecDepth 100000
set_option maxHeartbeats 4000000
set_option pp.maxSteps 400
namespace Ag
open PySem PySem.Spec PyProof.Rows L2
def spServerOf (K : PySem.W.Frag) : Sp := fun vs H Q _ => ∃ (ra : Addr) (zs : List (Addr × Rw)), vs = [.ref ra] ∧ SqL K H ra (zs.map fun z => V.ref z.1) ∧ RowsAt K H zs ∧ zs.length < 301 ∧
  ∀ m S H', Same H H' → Srt (zs.map Prod.snd) S → LsAt K m S H' → Q (.ref m) H'
section
variable {P : Program} {w : World} {K : PySem.W.Frag} {mg : Str → Option Value} {base : Heap} (T : Txt w K mg)
theorem ok_server_of : FnOk P w K mg base CX0 1 T.a_law_server_of T.d_law_server_of ["rows"] (spServerOf K) := by
  refine T.D_law_server_of.fn.ok sc_law_server_of (fun vs H Q E h => ?_) (fun cdv A outer s H vs Q E hr h => ?_)
  · obtain ⟨ra, zs, rfl, _⟩ := h; rfl
  · obtain ⟨ra, zs, rfl, hra, hz, zl, k⟩ := h
    refine ⟨_, (pss_cons (ps_asg (pe_tup (pa_cons pe_dnewT (pa_cons (pe_lst pa_nil) pa_nil))) (pg_tup rfl (pgs_cons (pg_name (i := 1) sc_law_server_of.nd rfl (by first | exact Or.inl rfl | exact Or.inr rfl)) (pgs_cons (pg_name (i := 2) sc_law_server_of.nd rfl (by first | exact Or.inl rfl | exact Or.inr rfl)) pgs_nil))))
      (pss_cons (ps_for PassesOwn.never rfl (pi_list (pe_callB (cr_sortQ rfl hr.units) (by rfl) T.b_sorted bt_sorted (pa_cons (pe_callTy (cr_setQ rfl (Nat.lt_of_le_of_lt (Nat.add_le_add_left (show 3 ≤ 64 by decide) _) hr.units)) (by rfl) T.b_set bt_set (pa_cons (pv 0) pa_nil)) pa_nil))) (pg_tup rfl (pgs_cons (pg_name (i := 3) sc_law_server_of.nd rfl (by first | exact Or.inl rfl | exact Or.inr rfl)) (pgs_cons (pg_name (i := 4) sc_law_server_of.nd rfl (by first | exact Or.inl rfl | exact Or.inr rfl)) (pgs_cons (pg_name (i := 5) sc_law_server_of.nd rfl (by first | exact Or.inl rfl | exact Or.inr rfl)) pgs_nil)))) (pss_cons (ps_dput (hu_of hr) (pv 1) (pe_tup (pa_cons (pv 3) (pa_cons (pv 4) pa_nil))) (pe_op op_cat (pe_dget2 (hu_of hr) (pv 1) (pe_tup (pa_cons (pv 3) (pa_cons (pv 4) pa_nil))) (pe_lst pa_nil) ⟨rfl, rfl, rfl, rfl⟩) (pe_lst (pa_cons (pv 5) pa_nil))) rfl)
      (pss_one (ps_set (i := 2) sc_law_server_of.nd rfl (by first | exact Or.inl rfl | exact Or.inr rfl) (pe_op op_cat (pv 2) (pe_lc (own := [("one", 6)]) rfl sc_law_server_of.nd (pi_list (pe_lst (pa_cons (pv 3) (pa_cons (pv 5) pa_nil)))) (blkOk_by (own := [("one", 6)]) (N := ["rows", "answers", "places", "place", "call", "other", "one"]) (sc := defScope s_law_server_of) (by decide +kernel)) (fun _ _ _ _ _ => (pg_name (i := 6) sc_law_server_of.nd rfl (by first | exact Or.inl rfl | exact Or.inr rfl))) (fun _ _ _ _ _ => (pts_one (pt_cmpR (r := rIn K true) op_notIn_seq (pv 6) (pv 2) (by rfl)))) (fun _ _ _ _ _ => (pv 6))))))))
      (pss_one (ps_ret (pe_disp (pps_cons pe_str (pe_callB (cr_sortQ rfl hr.units) (by rfl) T.b_sorted bt_sorted (pa_cons (pe_callTy (cr_setQ rfl (Nat.lt_of_le_of_lt (Nat.add_le_add_left (show 3 ≤ 64 by decide) _) hr.units)) (by rfl) T.b_set bt_set (pa_cons (pv 0) pa_nil)) pa_nil)) (pps_cons pe_str (pv 1) (pps_cons pe_str (pe_callB (cr_sortSetS rfl) (by rfl) T.b_sorted bt_sorted (pa_cons (pe_callTy (cr_setS rfl) (by rfl) T.b_set bt_set (pa_cons (pv 2) pa_nil)) pa_nil)) pps_nil))) (by rfl) (by rfl) (fun z => by cases z) (by decide)))))), ?_⟩
    intro td htd
    refine ⟨(by show 0 ≤ sizeLine; decide), fun pl hpl => ⟨(by show 2 ≤ sizeLine; decide), fun t0 ht0 => ⟨t0, _, rfl, .of upd_same, rfl, _, _, rfl, _, _, rfl, rfl, ?_⟩⟩⟩
    have s1 := Same.newA (o := .dT []) htd
    have s2 := Same.newA (o := .lst []) hpl
    have s3 := Same.newA (o := .tup [.ref td, .ref pl]) ht0
    have etd := (s2.trans s3) _ _ (upd_same (H := H) (a := td) (o := .dT []))
    have epl := s3 _ _ (upd_same (H := upd H td (.dT [])) (a := pl) (o := .lst []))
    have s12 := s1.trans (s2.trans s3)
    revert etd epl s12
    generalize upd (upd (upd H td (.dT [])) pl (.lst [])) t0 (.tup [.ref td, .ref pl]) = H1
    intro etd epl s12
    clear s1 s2 s3 hpl ht0
    have hz1 := hz.same s12
    refine run_sortset (K := K) (P := P) (w := w) (i := 0) rfl (.inl (s12.slA hra)) hz1 zl fun q ys G sG eq hy srt yl => ⟨q, rfl, ⟨_, SqL.of eq⟩, for_list (K := K) (a := q) (xs := ys.map fun z => V.ref z.1) (fun i σ' H' => ∃ (o3 o4 o5 : Option V) (pl' : Addr) (kvs : List (List Key × V)) (ps : List Str), σ' = [some (.ref ra), some (.ref td), some (.ref pl'), o3, o4, o5, none] ∧ But td G H' ∧ H' td = some (.dT kvs) ∧ Ans lstA H' kvs ((ys.map Prod.snd).take i) ∧ H' pl' = some (.lst (ps.map V.str)) ∧ (∀ x, x ∈ ps ↔ ∃ r ∈ (ys.map Prod.snd).take i, x = r.1 ∨ x = r.2.2) ∧ ps.length ≤ 2 * i)
      ⟨none, none, none, pl, [], [], rfl, But.of (Same.refl _), sG _ _ etd, Ans.nil, sG _ _ epl, (fun x => ⟨fun h => (nomatch h), fun ⟨r, hr, _⟩ => nomatch hr⟩), Nat.le_refl _⟩ (fun i σ' H' _ ⟨_, _, _, _, _, _, _, t, _⟩ => SqL.of (t _ _ (ne_of eq (sG _ _ etd) (fun z => nomatch z)) eq)) ?_ ?_⟩
    · rintro i v σ' H2 hv ⟨o3, o4, o5, pl', kvs, ps, rfl, t2, e2, a2, ep, al, pn⟩
      rw [List.getElem?_map] at hv
      cases e : ys[i]? with
      | none => rw [e] at hv; cases hv
      | some y =>
        rw [e] at hv
        cases hv
        have li : i < ys.length := (List.getElem?_eq_some_iff.mp e).1
        obtain ⟨hy1, gy⟩ := hy y (List.mem_of_getElem? e)
        have hy2 := (nodat_dT (sG _ _ etd)).st t2 hy1
        obtain ⟨u, h, c, x⟩ := y
        refine ⟨u, _, rfl, hy2, rfl, _, _, rfl, _, _, rfl, _, _, rfl, rfl, ?_⟩
        refine put_lst (i := 1) (j := 3) (l := 4) (m := 5) rfl rfl rfl rfl e2 a2 (by rw [List.length_take, List.length_map]; omega) fun kvs' H3 t3 e3 a3 => ?_
        have ep3 : H3 pl' = some (.lst (ps.map V.str)) := t3 _ _ (ne_of ep e2 (fun z => nomatch z)) ep
        dsimp only [tNext]
        refine ⟨_, rfl, _, rfl, _, rfl, (by show 2 ≤ sizeLine; decide), fun l hl => ⟨l, rfl, ⟨_, SqL.of upd_same⟩, fun D hD => lc_list (K := K) (a := l) (xs := [V.str h, V.str x]) (fun j H' => ∃ acc : List Str, H' D = some (.lst (acc.map V.str)) ∧ acc = ([h, x].take j).filter (fun z => !decide (z ∈ ps)) ∧ But D (upd H3 l (.lst [V.str h, V.str x])) H') ⟨[], upd_same, rfl, But.same (Same.newA hD)⟩ (fun j H' _ ⟨_, _, _, t⟩ => SqL.of (t _ _ (fun z => by rw [← z, upd_same] at hD; cases hD) upd_same)) ?_ ?_⟩⟩
        · rintro j v H4 hj ⟨acc, g1, g2, t4⟩
          obtain ⟨z, hz2, rfl⟩ : ∃ z, [h, x][j]? = some z ∧ v = V.str z := by
            match j, hj with
            | 0, hj => cases hj; exact ⟨h, rfl, rfl⟩
            | 1, hj => cases hj; exact ⟨x, rfl, rfl⟩
          have tk : [h, x].take (j + 1) = [h, x].take j ++ [z] := by rw [List.take_succ, hz2]; rfl
          have npl : pl' ≠ D := fun q => by rw [← q, upd_ne (fun q2 => by rw [q2] at ep3; rw [hl] at ep3; cases ep3), ep3] at hD; cases hD
          have ep4 : H4 pl' = some (.lst (ps.map V.str)) := t4 _ _ npl (by rw [upd_ne (fun q2 => by rw [q2] at ep3; rw [hl] at ep3; cases ep3)]; exact ep3)
          refine ⟨rfl, ?_⟩
          refine (et_test (ed_notInSeq (F := nn H4) (x := z) (xs := ps) (ed_var (i := 6) rfl (.str _)) (ed_var (i := 2) rfl (dp_df (.lst (SqL.of ep4) (dps_strs ps)))) (.inr rfl))) H4 (Same.refl _) _ fun H5 s5 => ?_
          have g5 := s5 _ _ g1
          have t5 := t4.trans' (But.same s5)
          refine ite2 (fun hb => ?_) fun hb => ?_
          · refine ⟨_, rfl, _, g5, lt5 (by rw [List.length_map, g2]; exact Nat.lt_of_le_of_lt (List.length_filter_le _ _) (by rw [List.length_take]; exact Nat.lt_of_le_of_lt (Nat.min_le_right _ _) (by show 2 < 100000; decide))), acc ++ [z], by rw [upd_same, List.map_append]; rfl, ?_, t5.trans' .updb⟩
            rw [tk, List.filter_append, ← g2, show List.filter (fun z => !decide (z ∈ ps)) [z] = [z] from (List.filter_cons).trans (if_pos hb)]
          · refine ⟨acc, g5, ?_, t5⟩
            rw [tk, List.filter_append, ← g2, show List.filter (fun z => !decide (z ∈ ps)) [z] = [] from (List.filter_cons).trans (if_neg hb), List.append_nil]
        · rintro H4 ⟨acc, g1, g2, t4⟩
          have npl0 : pl' ≠ l := fun q2 => by rw [q2, hl] at ep3; cases ep3
          have npl : pl' ≠ D := fun q => by rw [← q, upd_ne npl0, ep3] at hD; cases hD
          have ep4 : H4 pl' = some (.lst (ps.map V.str)) := t4 _ _ npl (by rw [upd_ne npl0]; exact ep3)
          have sl := Same.newA (o := .lst [V.str h, V.str x]) hl
          have sK : ∀ a o, H3 a = some o → H4 a = some o := fun a o z => t4 a o (ne_of_none (sl _ _ z) hD) (sl _ _ z)
          have al2 : acc.length ≤ 2 := by rw [g2]; exact Nat.le_trans (List.length_filter_le _ _) (by rw [List.length_take]; exact Nat.min_le_right _ _)
          refine ⟨pl', D, _, _, rfl, rfl, ep4, g1, small5 (by rw [List.length_map, List.length_map]; omega), fun q2 hq2 => ?_⟩
          have s5 := Same.newA (o := .lst (ps.map V.str ++ acc.map V.str)) hq2
          have ek : (ys.map Prod.snd).take (i + 1) = (ys.map Prod.snd).take i ++ [(h, c, x)] := by rw [List.take_succ, List.getElem?_map, e]; rfl
          have mem : ∀ z, z ∈ acc ↔ (z = h ∨ z = x) ∧ z ∉ ps := fun z => by
            rw [g2, List.mem_filter]
            show z ∈ [h, x] ∧ _ ↔ _
            rw [List.mem_cons, List.mem_singleton, Bool.not_eq_true', decide_eq_false_iff_not]
          have cov2 : ∀ z, z = h ∨ z = x → z ∈ ps ++ acc := fun z hz => by
            by_cases q : z ∈ ps
            · exact List.mem_append_left _ q
            · exact List.mem_append_right _ ((mem z).mpr ⟨hz, q⟩)
          refine ⟨_, _, _, q2, kvs', ps ++ acc, rfl, (t2.trans' t3).trans' (fun a o n z => s5 _ _ (sK a o z)), s5 _ _ (sK _ _ e3), by rw [ek]; exact a3.kept fun a xs z => s5 _ _ (sK _ _ z), by rw [upd_same, List.map_append], fun z => ?_, by rw [List.length_append]; omega⟩
          rw [ek, List.mem_append, mem]
          constructor
          · rintro (hz | ⟨hz, _⟩)
            · obtain ⟨r, h1, h2⟩ := (al z).mp hz
              exact ⟨r, List.mem_append_left _ h1, h2⟩
            · exact ⟨(h, c, x), List.mem_append_right _ List.mem_cons_self, hz⟩
          · rintro ⟨r, h1, h2⟩
            rcases List.mem_append.mp h1 with h1 | h1
            · exact .inl ((al z).mpr ⟨r, h1, h2⟩)
            · rw [List.mem_singleton.mp h1] at h2
              exact List.mem_append.mp (cov2 z h2) |>.imp id fun q => (mem z).mp q
    · rintro σ' H2 ⟨o3, o4, o5, pl', kvs, ps, rfl, t2, e2, a2, ep, al, pn⟩
      rw [List.length_map] at a2 al pn
      rw [← List.length_map (f := Prod.snd), List.take_length] at a2
      rw [← List.length_map (f := Prod.snd), List.take_length] at al
      have fH : H td = none := htd
      have s02 : Same H H2 := fun a o z => t2 a o (ne_of_none z fH) (sG _ _ (s12 _ _ z))
      -- what is given
      intro m hm
      have sm := Same.newA (o := .dK []) hm
      have em : (upd H2 m (.dK [])) m = some (.dK []) := upd_same
      have s03 := s02.trans sm
      refine run_sortset (K := K) (P := P) (w := w) (i := 0) rfl (.inl (s03.slA hra)) (hz.same s03) zl fun q2 ws G2 sG2 eq2 hw srt2 wl => ?_
      have ep3 := sG2 _ _ (sm _ _ ep)
      refine ⟨_, rfl, _, rfl, pl', ps, rfl, SqL.of ep3, by omega, fun st hst => ?_⟩
      have s4 := Same.newA (o := StrSet P w st ps) hst
      refine ⟨st, ps, rfl, upd_same, fun us ul usrt und umem hul => ?_⟩
      have s5 := Same.newA (o := .lst (us.map V.str)) hul
      have sA := s4.trans s5
      have sB := sG2.trans sA
      have ulen : us.length ≤ ps.length := nodup_len us ps und fun z hz => (umem z).mp hz
      have gul := upd_same (H := upd G2 st (StrSet P w st ps)) (a := ul) (o := .lst (us.map V.str))
      refine ⟨sB _ _ em, [(ck "rows", V.ref q2), (ck "answers", .ref td), (ck "places", .ref ul)], rfl, (by decide : 3 ≤ 15), ?_⟩
      rw [merge_ls]
      have keep : ∀ a o, a ≠ m → (upd H2 m (.dK [])) a = some o → (upd (upd (upd G2 st (StrSet P w st ps)) ul (.lst (us.map V.str))) m (.dK (lsKV q2 td ul))) a = some o := fun a o n z => by rw [upd_ne n]; exact sB _ _ z
      have keep2 : ∀ a o, H2 a = some o → (upd (upd (upd G2 st (StrSet P w st ps)) ul (.lst (us.map V.str))) m (.dK (lsKV q2 td ul))) a = some o := fun a o z => keep a o (ne_of_none z hm) (sm _ _ z)
      have nm : ∀ a xs, (upd (upd G2 st (StrSet P w st ps)) ul (.lst (us.map V.str))) a = some (.lst xs) → a ≠ m := fun a xs z => ne_of z (sB _ _ em) (fun q => nomatch q)
      have gq2 : (upd (upd G2 st (StrSet P w st ps)) ul (.lst (us.map V.str))) q2 = some (.lst (ws.map fun z => V.ref z.1)) := sA _ _ eq2
      refine k m _ _ (fun a o z => keep2 _ _ (s02 _ _ z)) srt ⟨q2, td, ul, ws, kvs, us, ⟨upd_same, by rw [upd_ne (nm _ _ gq2)]; exact gq2, fun y hy => ⟨(nodat_dK (sB _ _ em)).st .updb (sA.stA (hw y hy).1), (hw y hy).2⟩, srt2.uniq srt, srt.1, keep2 _ _ e2, (a2.kept fun a xs z => keep2 _ _ z), by rw [upd_ne (nm _ _ gul)]; exact gul, up_sortedS usrt und, fun x => (umem x).trans (al x), by rw [List.length_map]; omega⟩⟩
end
end Ag

set_option Elab.async false
set_option linter.all false
set_option maxRecDepth 100000
set_option maxHeartbeats 1000000
/-! What is a list or a tuple: asked for its kind, walked, sliced. -/
namespace Ag
open PySem PySem.Spec PyProof.Rows L2
def iVE (K : PySem.W.Frag) (i : Nat) : TI := fun σ H R => ∃ a, σ[i]? = some (some (.ref a)) ∧ (((∃ xs, SqL K H a xs) ∧ R (Itl K a) H) ∨ ((∃ xs, SqT K H a xs) ∧ R (Itt K a) H))
theorem pi_ve {X : Cx} {tg e : Expr} {i : Nat} (h : PE X e (tVar i)) : PI X tg e (iVE X.K i) := ⟨fun pins s σ H R I ⟨a, h1, h2⟩ => by
  rcases h2 with ⟨l, r⟩ | ⟨l, r⟩
  · exact (pi_list h).run pins s σ H R I ⟨_, h1, a, rfl, l, r⟩
  · exact (pi_tup h).run pins s σ H R I ⟨_, h1, a, rfl, l, r⟩⟩
section
variable {K : PySem.W.Frag} {σ : L2.St} {F : Addr → Prop} {H : Hp} {te ta : TE} {d : PyData} {ds : List PyData}
theorem ei_ve {i : Nat} {v : V} (h : σ[i]? = some (some v)) (hd : Df K F H v d) (he : d = .list ds ∨ d = .tuple ds) : EI K (iVE K i) σ F H ds := fun H1 s R q => by
  have hd1 := df_mono (G := Fr F H1) s (fun _ z => .inl z) hd
  rcases he with rfl | rfl
  · cases hd1 with
    | lst hs r => exact ⟨_, h, .inl ⟨⟨_, hs.imp (fun z => z.1) id⟩, q _ H1 (Same.refl _) (wk_list hs r)⟩⟩
  · cases hd1 with
    | tup hs r => exact ⟨_, h, .inr ⟨⟨_, hs⟩, q _ H1 (Same.refl _) (wk_tup hs r)⟩⟩
/-- isinstance(x, (tuple, list)) -/
theorem ed_isiTL (ha : ED K ta σ F H d) : ED K (tCB (rIsiT K) (tCons ta (tCons (tTup (tCons (tC (.ty "tuple")) (tCons (tC (.ty "list")) tNil))) tNil))) σ F H (.bool (isiB "tuple" d || isiB "list" d)) := fun H1 s Q q =>
  ha H1 s _ fun x H2 s2 hx => ⟨(by show 2 ≤ sizeLine; decide), fun p hp => by
    have hx3 := df_mono (G := Fr F H1) (Same.newA (o := .tup [.ty "tuple", .ty "list"]) hp) (fun _ z => z) hx
    refine ⟨x, p, _, .type (tyName d), [.type "tuple", .type "list"], _, rfl, upd_same, .cons (.ty _) (.cons (.ty _) .nil), tyx_of (df_dp hx3), ?_, q _ _ (s2.trans (Same.newA hp)) (.bl _)⟩
    have h1 := kit_all (T := "tuple") (.inr (.inl rfl)) (df_dp hx3)
    have h2 := kit_all (T := "list") (.inr (.inr (.inl rfl))) (df_dp hx3)
    unfold PySem.W.kitAny
    rw [h1]
    cases isiB "tuple" d with
    | true => rfl
    | false =>
      unfold PySem.W.kitAny
      rw [h2]
      cases isiB "list" d <;> rfl⟩
end
end Ag

set_option Elab.async false
set_option linter.all false
set_option maxRecDepth 100000
set_option maxHeartbeats 1000000
set_option pp.maxSteps 300
/-! A bool, a number handed back. -/
namespace Ag
open PySem PySem.Spec PyProof.Rows L2
section
variable {K : PySem.W.Frag} {σ : L2.St} {F : Addr → Prop} {H : Hp} {te : TE} {D : Ends} {ds : List PyData}
theorem s_retB {b c : Bool} (h : ED K te σ F H (.bool b)) (e : b = c) (k : ∀ H1, Same H H1 → D.rt (.bl c) H1) : tRet te D σ H := s_ret h fun v H1 s1 hv => by
  cases hv; subst e; exact k H1 s1
theorem s_retI {b c : Int} (h : ED K te σ F H (.int b)) (e : b = c) (k : ∀ H1, Same H H1 → D.rt (.int c) H1) : tRet te D σ H := s_ret h fun v H1 s1 hv => by
  cases hv; subst e; exact k H1 s1
theorem s_for {wi : TI} {g : TG} {tb : TS} (I : Nat → L2.St → Hp → Prop) (hi : EI K wi σ F H ds) (h0 : ∀ H1, Same H H1 → I 0 σ H1)
    (step : ∀ i σ1 H1, Same H H1 → I i σ1 H1 → ∀ d v H2, ds[i]? = some d → Same H1 H2 → Df K (Fr F H) H2 v d → g v σ1 H2 fun σ2 H3 => tb { D with nx := fun σ3 H4 => Same H1 H4 ∧ I (i + 1) σ3 H4, ct := fun σ3 H4 => Same H1 H4 ∧ I (i + 1) σ3 H4, bk := D.nx } σ2 H3)
    (fin : ∀ σ1 H1, Same H H1 → I ds.length σ1 H1 → D.nx σ1 H1) : tFor wi g tb D σ H := hi H (Same.refl _) _ fun J H2 s2 W => by
  refine ⟨fun i m σ1 H1 => m = ds.length - i ∧ i ≤ ds.length ∧ Same H2 H1 ∧ I i σ1 H1, ⟨_, rfl, Nat.zero_le _, Same.refl _, h0 _ s2⟩, ?_⟩
  rintro i m σ1 H1 ⟨rfl, hl, s3, hI⟩
  by_cases lt : i < ds.length
  · refine .inr ⟨W.go i H1 s3.F lt, _, fun σ3 H4 (z : Same H1 H4 ∧ I (i + 1) σ3 H4) => ⟨ds.length - (i + 1), by omega, rfl, lt, s3.trans z.1, z.2⟩, fun x H3 y => ?_⟩
    obtain ⟨d, hd, s4, hx⟩ := W.yld i H1 x H3 lt s3.F y
    exact step i σ1 H1 (s2.trans s3) hI d x H3 hd s4 (df_mono (Same.refl _) (fun a z => z.1) hx)
  · have : i = ds.length := by omega
    subst this
    exact .inl ⟨W.stop H1 s3.F, fin _ _ (s2.trans s3) hI⟩
end
end Ag

set_option Elab.async false
set_option linter.all false
set_option maxRecDepth 100000
set_option maxHeartbeats 1000000
set_option pp.maxSteps 300
namespace Ag
open PySem PySem.Spec PyProof.Rows L2
section
variable {K : PySem.W.Frag} {H H' : Hp} {b : Addr}
theorem NoDat.rd {a : Addr} {u : HO} (n : NoDat H b) (t : But b H H') (hu : (∃ xs, u = .lst xs) ∨ ∃ xs, u = .tup xs) (h : Rd H a u) : Rd H' a u := by
  rcases h with h | ⟨o, h⟩
  · refine .inl (t _ _ (fun e => ?_) h)
    subst e
    obtain ⟨h1, h2, _⟩ := n _ h
    rcases hu with ⟨xs, e⟩ | ⟨xs, e⟩
    · exact h1 _ e
    · exact h2 _ e
  · refine .inr ⟨o, t _ _ (fun e => ?_) h⟩
    subst e
    exact (n _ h).2.2 _ _ rfl
theorem NoDat.sl {a : Addr} {xs : List V} (n : NoDat H b) (t : But b H H') (h : SqL K H a xs) : SqL K H' a xs := h.imp (n.rd t (.inl ⟨_, rfl⟩)) id
mutual
theorem NoDat.dp (n : NoDat H b) (t : But b H H') : ∀ {v : V} {d : PyData}, Dp K H v d → Dp K H' v d
  | _, _, .non => .non
  | _, _, .bl c => .bl c
  | _, _, .int i => .int i
  | _, _, .str x => .str x
  | _, _, .lst q r => .lst (n.sl t q) (NoDat.dps n t r)
  | _, _, .tup q r => .tup (n.st t q) (NoDat.dps n t r)
theorem NoDat.dps (n : NoDat H b) (t : But b H H') : ∀ {vs : List V} {ds : List PyData}, DpAll K H vs ds → DpAll K H' vs ds
  | _, _, .nil => .nil
  | _, _, .cons q r => .cons (NoDat.dp n t q) (NoDat.dps n t r)
end
end
/-! ### errors of two fields -/
def spEx2 (C : Addr) (f g : Str) : Sp := fun vs H Q _ => ∃ (a : Addr) (x y : V), vs = [.ref a, x, y] ∧ H a = some (exo a C none) ∧ ∀ (d : Addr) H', H d = none → d ≠ a → (∀ b o, b ≠ a → H b = some o → H' b = some o) → H' a = some (exo a C (some d)) → H' d = some (exd d [(g, y), (f, x)]) → Q .non H'
/-- what is let out -/
def Out2 (C : Addr) (f g : Str) (x y : V) (H : Hp) (E : XK) : Prop := ∀ d H', Same H H' → H d = none → H' d = some (.xd [(g, y), (f, x)]) → E (.ref C) (some d) H'
theorem Out2.same {C : Addr} {f g : Str} {x y : V} {H H1 : Hp} {E : XK} (s : Same H H1) (k : Out2 C f g x y H E) : Out2 C f g x y H1 E := fun d H' s2 hd e => k d H' (s.trans s2) (s.freshA hd) e
theorem raise2 {C : Addr} {f g w : Str} {σ : L2.St} {i : Nat} {y : V} {H : Hp} {E : XK} (hy : σ[i]? = some (some y)) (k : Out2 C f g (.str w) y H E) : tMkO C (spEx2 C f g) [] (tCons (tC (.str w)) (tCons (tVar i) tNil)) σ H E := by
  refine ⟨y, hy, (by decide : 2 ≤ 1000), fun a ha => ?_⟩
  refine ⟨a, .str w, y, rfl, upd_same, fun d H' hd nda keep ea ed => ⟨rfl, d, _, ea, ed, ?_, k d _ (fun b o e => ?_) ?_ upd_same⟩⟩
  · rw [upd_ne nda] at hd; exact hd
  · have nba : b ≠ a := ne_of_none e ha
    rw [upd_ne nda] at hd
    rw [upd_ne (ne_of_none e hd), del_ne nba]
    exact keep b o nba (by rw [upd_ne nba]; exact e)
  · rw [upd_ne nda] at hd; exact hd
/-- a field of an instance, as data -/
theorem ed_fldI {K : PySem.W.Frag} {σ : L2.St} {F : Addr → Prop} {H : Hp} {i : Nat} {b C dx : Addr} {fs : List (Str × V)} {f : Str} {v : V} {d : PyData} (h : σ[i]? = some (some (.ref b))) (hb : H b = some (.ins C dx fs)) (c : Cls K C) (n : NoAttr K C f) (l : fs.lookup f = some v) (hd : Df K F H v d) : ED K (tFld K (tVar i) f) σ F H d :=
  fun H1 s Q q => ⟨_, h, b, C, dx, fs, v, rfl, s _ _ hb, c, n, l, q v H1 (Same.refl _) (df_mono s Fr.base hd)⟩

def isRow : PyData → Bool
  | .tuple ds => decide (ds.length = 3) && ds.all isName
  | _ => false
theorem isRow_row {r : Rw} (g : goodR r) : isRow (rowD r) = true := by
  have h1 : isName (.str r.1) = true := g.1
  have h2 : isName (.str r.2.1) = true := g.2.1
  have h3 : isName (.str r.2.2) = true := g.2.2
  simp [isRow, rowD, h1, h2, h3]
theorem row_of {d : PyData} (h : isRow d = true) : ∃ r, d = rowD r ∧ goodR r := by
  cases d with
  | tuple ds =>
    simp only [isRow, Bool.and_eq_true, decide_eq_true_eq] at h
    obtain ⟨h1, h2⟩ := h
    match ds, h1 with
    | [a, b, c], _ =>
      simp only [List.all_cons, List.all_nil, Bool.and_true, Bool.and_eq_true] at h2
      obtain ⟨ha, hb, hc⟩ := h2
      cases a <;> first | cases ha | skip
      cases b <;> first | cases hb | skip
      cases c <;> first | cases hc | skip
      exact ⟨(_, _, _), rfl, ha, hb, hc⟩
  | _ => cases h
section
variable {P : Program} {w : World} {K : PySem.W.Frag} {mg : Str → Option Value} {base : Heap} (T : Txt w K mg)
theorem ok_BadRow_init : FnOk P w K mg base CX0 1 T.a_BadRow___init__ T.d_BadRow___init__ ["self", "what", "row"] (spEx2 T.C_BadRow "what" "row") := by
  refine T.D_BadRow___init__.fn.ok sc_BadRow___init__ (fun vs H Q E h => ?_) (fun cdv A outer s H vs Q E hr h => ?_)
  · obtain ⟨a, x, y, rfl, _⟩ := h; rfl
  · obtain ⟨a, x, y, rfl, ha, k⟩ := h
    refine ⟨_, (pss_cons (ps_ost (pv 0) (pv 1))
      (pss_one (ps_ost (pv 0) (pv 2)))), ?_⟩
    refine ⟨_, rfl, _, rfl, a, T.C_BadRow, rfl, T.ox_BadRow, T.na_BadRow_what, .inl ⟨ha, fun d hd nda => ?_⟩⟩
    refine ⟨_, rfl, _, rfl, a, T.C_BadRow, rfl, T.ox_BadRow, T.na_BadRow_row, .inr ⟨d, [("what", x)], upd_same, by rw [upd_ne nda]; exact upd_same, Nat.le_of_ble_eq_true rfl, ?_⟩⟩
    refine k d _ hd nda (fun b o nb e => ?_) (by rw [upd_ne (Ne.symm nda)]; exact upd_same) upd_same
    have nbd : b ≠ d := ne_of_none e hd
    rw [upd_ne nbd, upd_ne nb, upd_ne nbd]; exact e

theorem gd_tupI {ds : List PyData} (h : gd (.tuple ds) = true) : (∀ x ∈ ds, gd x = true) ∧ ds.length ≤ 1000 := by
  simp only [gd, Bool.and_eq_true, decide_eq_true_eq] at h
  exact ⟨gds_all h.1, h.2⟩
theorem ok_is_row : FnOk P w K mg base CX0 3 T.a_is_row T.d_is_row ["value"] (spB K (fun d => gd d = true) isRow) := by
  have G_is_name := ok_is_name (P := P) (base := base) T
  refine T.D_is_row.fn.ok sc_is_row (fun vs H Q E h => ?_) (fun cdv A outer s H vs Q E hr h => ?_)
  · obtain ⟨v, d, rfl, _⟩ := h; rfl
  · obtain ⟨v, d, rfl, hv, g, k⟩ := h
    refine ⟨_, (pss_one (ps_ret (pe_and (pe_callB call_isi (by rfl) T.b_isinstance bt_isinstance (pa_cons (pv 0) (pa_cons (pe_bltn (v := .ty "tuple") (by rfl) T.b_tuple bt_tuple rfl) pa_nil))) (pe_and (pe_cmpR op_eq (pe_callB call_len (by rfl) T.b_len bt_len (pa_cons (pv 0) pa_nil)) pe_int (nomark _)) (pe_one (pe_callB (cr_all rfl) (by rfl) T.b_all bt_all (pa_cons (pe_lc (own := [("part", 1)]) rfl sc_is_row.nd (pi_tup (pv 0)) (blkOk_by (own := [("part", 1)]) (N := ["value", "part"]) (sc := defScope s_is_row) (by decide +kernel)) (fun _ _ _ _ _ => (pg_name (i := 1) sc_is_row.nd rfl (by first | exact Or.inl rfl | exact Or.inr rfl))) (fun _ _ _ _ _ => pts_nil) (fun _ _ _ _ _ => (pe_call (G_is_name) (hr.mono (by omega)) (by rfl) T.D_is_name.mg T.D_is_name.fn.kp T.D_is_name.bd .nil pass0 (pa_cons (pv 1) pa_nil)))) pa_nil))))))), ?_⟩
    have hvar : ED K (tVar 0) (start ["value", "part"] [v]) (nn H) H d := ed_var rfl (dp_df hv)
    have isi := ed_isi (T := "tuple") hvar (.inr (.inl rfl))
    cases d with
    | tuple ds =>
      obtain ⟨g1, g2⟩ := gd_tupI g
      refine s_retB (F := nn H) (ed_andV isi fun _ => ed_andV (ed_eqI (ed_len hvar rfl) (ed_int (i := 3))) fun h3 => ed_all (bs := ds.map isName) (ed_is (ed_lc (f := fun _ => true) (m := fun s => .bool (isName s)) (ei_tup hvar) (by omega) fun F2 H2 e2 v2 d2 hm hd2 => ⟨_, fun Q q => q, rfl, et_yes, fun _ => ed_call (ea_cons (ed_var (i := 1) rfl hd2) ea_nil) (rdc_spB (g1 d2 hm))⟩) ?_)) ?_ k
      · rw [List.filter_eq_self.mpr fun _ _ => rfl, List.map_map]; rfl
      · show (true && (decide (((ds.length : Nat) : Int) = 3) && (ds.map isName).all id)) = (decide (ds.length = 3) && ds.all isName)
        rw [Bool.true_and, List.all_map, show decide (((ds.length : Nat) : Int) = 3) = decide (ds.length = 3) from decide_eq_decide.mpr (by omega)]; rfl
    | _ => exact s_retB (F := nn H) (ed_andV (b := true) isi fun h => nomatch h) rfl k
/-- the first item that is no row -/
def FBad (ds : List PyData) (x : PyData) : Prop := ∃ i : Nat, ds[i]? = some x ∧ (∀ (j : Nat) z, j < i → ds[j]? = some z → isRow z = true) ∧ isRow x = false
/-- raises BadRow for the first item that is no row -/
def spNeedR (K : PySem.W.Frag) (B : Addr) : Sp := fun vs H Q E => ∃ v d ds, vs = [v] ∧ Dp K H v d ∧ (d = .list ds ∨ d = .tuple ds) ∧ (∀ x ∈ ds, gd x = true) ∧ ds.length ≤ 50000 ∧
  (∀ x y H', Same H H' → FBad ds x → Dp K H' y x → Out2 B "what" "row" (.str "server") y H' E) ∧ ((∀ x ∈ ds, isRow x = true) → ∀ H', Same H H' → Q .non H')
theorem ok_need_rows : FnOk P w K mg base (L2.CX P w) 5 T.a_need_rows T.d_need_rows ["rows"] (spNeedR K T.C_BadRow) := by
  have G_is_row := ok_is_row (P := P) (base := base) T
  have G_BadRow___init__ := ok_BadRow_init (P := P) (base := base) (w := w) T
  refine T.D_need_rows.fn.okX sc_need_rows (fun vs H Q E h => ?_) (fun cdv A outer s H vs Q E hr h => ?_)
  · obtain ⟨v, d, ds, rfl, _⟩ := h; rfl
  · obtain ⟨v, d, ds, rfl, hv, hd, g, dl, k1, k2⟩ := h
    refine ⟨_, (pss_one (ps_for (passes_of rfl) rfl (pi_ve (pv 0)) (pg_name (i := 1) sc_need_rows.nd rfl (by first | exact Or.inl rfl | exact Or.inr rfl)) (pss_one (ps_if (pt_not (pt_val (pe_call (G_is_row) (hr.mono (by omega)) (by rfl) T.D_is_row.mg T.D_is_row.fn.kp T.D_is_row.bd .nil pass0 (pa_cons (pv 1) pa_nil)))) (pss_one (ps_raise rfl (takes_of rfl rfl rfl rfl) (pmk_oex T.ox_BadRow T.ic_BadRow T.ti_BadRow (G_BadRow___init__) (hr.mono (by omega)) T.D_BadRow___init__.bd .nil pass0 (by rfl) T.g_BadRow (pa_cons pe_str (pa_cons (pv 1) pa_nil))))) pss_nil)))), ?_⟩
    refine s_for (K := K) (F := nn H) (fun i σ H' => (∃ o, σ = [some v, o]) ∧ ∀ j z, j < i → ds[j]? = some z → isRow z = true) (ei_ve (ds := ds) rfl (dp_df hv) hd) (fun H1 s1 => ⟨⟨none, rfl⟩, fun j z h => absurd h (Nat.not_lt_zero _)⟩) ?_ ?_
    · rintro i σ1 H1 s1 ⟨⟨o, rfl⟩, all⟩ x y H2 hx s2 hy
      dsimp only [gName]
      refine s_if (b := !isRow x) (et_not (et_B (ed_call (ea_cons (ed_var (i := 1) (v := y) rfl hy) ea_nil) (rdc_spB (pre := fun d => gd d = true) (g x (List.mem_of_getElem? hx)))))) (fun hb H3 s3 => ?_) (fun hb H3 s3 => ?_)
      · exact raise2 rfl (k1 x y H3 (s1.trans (s2.trans s3)) ⟨i, hx, all, by simpa using hb⟩ (dp_mono s3 (df_dp hy)))
      · refine ⟨s2.trans s3, ⟨_, rfl⟩, fun j z hj hz => ?_⟩
        rcases Nat.lt_succ_iff_lt_or_eq.mp hj with hj | rfl
        · exact all j z hj hz
        · rw [hx] at hz; cases hz
          simpa using hb
    · rintro σ1 H1 s1 ⟨_, all⟩
      refine k2 (fun x hx => ?_) H1 s1
      obtain ⟨j, hj, e⟩ := List.getElem_of_mem hx
      exact all j x hj (by rw [List.getElem?_eq_getElem hj, e])
end
end Ag

set_option Elab.async false
set_option linter.all false
set_option maxRecDepth 100000
set_option maxHeartbeats 2000000
set_option pp.maxSteps 400
namespace Ag
open PySem PySem.Spec PyProof.Rows L2
theorem rows_all : ∀ {ds : List PyData}, (∀ x ∈ ds, isRow x = true) → ∃ R : List Rw, ds = R.map rowD ∧ ∀ r ∈ R, goodR r
  | [], _ => ⟨[], rfl, fun r h => nomatch h⟩
  | d :: ds, h => by
    obtain ⟨R, e, g⟩ := rows_all fun x hx => h x (List.mem_cons_of_mem _ hx)
    obtain ⟨r, rfl, gr⟩ := row_of (h d List.mem_cons_self)
    exact ⟨r :: R, by rw [e]; rfl, fun x hx => (List.mem_cons.mp hx).elim (fun z => z ▸ gr) (g x)⟩
theorem keys_pairs {A : Hp → Addr → List V → Prop} {H : Hp} {kvs : List (List Key × V)} {S : List Rw} (a : Ans A H kvs S) : ∃ ps : List (Str × Str), kvs.map (·.1) = ps.map (fun p => hcK p.1 p.2) ∧ ps.Nodup := by
  have all : ∀ l : List (List Key), (∀ k ∈ l, ∃ h c, k = hcK h c ∧ ansOf S h c ≠ []) → ∃ ps : List (Str × Str), l = ps.map fun p => hcK p.1 p.2 := by
    intro l
    induction l with
    | nil => exact fun _ => ⟨[], rfl⟩
    | cons k l ih =>
      intro h
      obtain ⟨ps, e⟩ := ih fun y hy => h y (List.mem_cons_of_mem _ hy)
      obtain ⟨x, c, ek, _⟩ := h k List.mem_cons_self
      exact ⟨(x, c) :: ps, by rw [List.map_cons, ← e, ek]⟩
  obtain ⟨ps, e⟩ := all _ a.key
  refine ⟨ps, e, ?_⟩
  have nd := a.once
  rw [e] at nd
  exact (List.pairwise_map.mp nd).imp fun h z => h (by rw [z])
theorem nodat_none {H : Hp} {D : Addr} (h : H D = none) : NoDat H D := fun o e => by rw [h] at e; cases e
/-- calls by hall, each list sorted, of the halls in ks -/
structure KsD (K : PySem.W.Frag) (H : Hp) (kd : List (Key × V)) (ps : List (Str × Str)) (ks : List Key) : Prop where
  keys : ∀ k ∈ kd.map (·.1), ∃ h, k = Sum.inr h
  at_ : ∀ h, (Sum.inr h ∉ ks ∧ valV kd (.inr h) = none) ∨ (Sum.inr h ∈ ks ∧ ∃ (a : Addr) (cs : List Str), valV kd (.inr h) = some (.ref a) ∧ Up rkS cs ∧ cs.Perm (callsOf ps h) ∧ SqT K H a (cs.map V.str))
theorem KsD.nil {K : PySem.W.Frag} {H : Hp} {ps : List (Str × Str)} : KsD K H [] ps [] := ⟨fun _ h => (nomatch h), fun _ => .inl ⟨fun h => (nomatch h), rfl⟩⟩
theorem KsD.kept {K : PySem.W.Frag} {H H' : Hp} {kd : List (Key × V)} {ps : List (Str × Str)} {ks : List Key} (a : KsD K H kd ps ks) (k : ∀ a xs, SqT K H a xs → SqT K H' a xs) : KsD K H' kd ps ks := ⟨a.keys, fun h => (a.at_ h).imp id fun ⟨n, x, cs, e1, e2, e3, e4⟩ => ⟨n, x, cs, e1, e2, e3, k _ _ e4⟩⟩
theorem KsD.put {K : PySem.W.Frag} {H H' : Hp} {kd : List (Key × V)} {ps : List (Str × Str)} {ks : List Key} (a : KsD K H kd ps ks) (k : ∀ a xs, SqT K H a xs → SqT K H' a xs) {h : Str} {x : Addr} {cs : List Str} (u : Up rkS cs) (p : cs.Perm (callsOf ps h)) (hx : SqT K H' x (cs.map V.str)) : KsD K H' (putK kd (.inr h) (.ref x)) ps (ks ++ [.inr h]) where
  keys := fun k hk => (mem_put.mp hk).elim (fun e => ⟨h, e⟩) (a.keys k)
  at_ := fun h' => by
    rw [valV_put]
    by_cases e : h' = h
    · rw [if_pos (by rw [e]), e]
      exact .inr ⟨List.mem_append_right _ List.mem_cons_self, x, cs, rfl, u, p, hx⟩
    · rw [if_neg fun z => e (Sum.inr.inj z)]
      refine (a.at_ h').imp (fun ⟨n, q⟩ => ⟨fun m => (List.mem_append.mp m).elim n fun m => e (Sum.inr.inj (List.mem_singleton.mp m)), q⟩) fun ⟨n, y, ds, e1, e2, e3, e4⟩ => ⟨List.mem_append_left _ n, y, ds, e1, e2, e3, k _ _ e4⟩
theorem KsD.done {K : PySem.W.Frag} {H : Hp} {kn kd : List (Key × V)} {ps : List (Str × Str)} {S : List Rw} (a : KsD K H kd ps (kn.map (·.1))) (k : ∀ h c, (h, c) ∈ ps ↔ ansOf S h c ≠ []) (hk : KnA K H kn ps) : KnF K H kd S := fun h => by
  have e : Sum.inr h ∈ kn.map (·.1) ↔ callsOf ps h ≠ [] := by
    rw [valV_mem]
    rcases hk.at_ h with ⟨e1, e2⟩ | ⟨e1, x, e2, _⟩
    · exact ⟨fun ⟨v, z⟩ => (nomatch (e2.symm.trans z)), fun z => absurd e1 z⟩
    · exact ⟨fun _ => e1, fun _ => ⟨_, e2⟩⟩
  rcases a.at_ h with ⟨n, q⟩ | ⟨n, x, cs, q, u, p, hx⟩
  · refine ⟨[], .nil, fun c => ⟨fun z => (nomatch z), fun z => ?_⟩, .inl ⟨rfl, q⟩⟩
    have := mem_callsOf.mpr ((k h c).mpr z)
    exact absurd (e.mpr fun w => by rw [w] at this; cases this) n
  · exact ⟨cs, u, fun c => (p.mem_iff.trans mem_callsOf).trans (k h c), .inr ⟨fun w => e.mp n (by rw [w] at p; exact List.nil_perm.mp p), x, q, hx⟩⟩
def spServer (K : PySem.W.Frag) (C B : Addr) : Sp := fun vs H Q E => ∃ b dx v d ds, vs = [.ref b, v] ∧ H b = some (.ins C dx []) ∧ Dp K H v d ∧ (d = .list ds ∨ d = .tuple ds) ∧ (∀ x ∈ ds, gd x = true) ∧ ds.length ≤ 300 ∧
  (∀ x y H', Same H H' → FBad ds x → Dp K H' y x → Out2 B "what" "row" (.str "server") y H' E) ∧
  (∀ R S H', ds = R.map rowD → (∀ r ∈ R, goodR r) → Srt R S → But b H H' → ServerAt K C b S H' → Q .non H')
section
variable {P : Program} {w : World} {K : PySem.W.Frag} {mg : Str → Option Value} {base : Heap} (T : Txt w K mg)
theorem ok_Server_init : FnOk P w K mg base (L2.CX P w) 6 T.a_Server___init__ T.d_Server___init__ ["self", "rows"] (spServer K T.C_Server T.C_BadRow) := by
  have G_need_rows := ok_need_rows (P := P) (base := base) T
  refine T.D_Server___init__.fn.okX sc_Server___init__ (fun vs H Q E h => ?_) (fun cdv A outer s H vs Q E hr h => ?_)
  · obtain ⟨b, dx, v, d, ds, rfl, _⟩ := h; rfl
  · obtain ⟨b, dx, v, d, ds, rfl, hb, hv, hd, g, dl, k1, k⟩ := h
    refine ⟨_, (pss_cons (ps_expr (pe_call (G_need_rows) (hr.mono (by omega)) (by rfl) T.D_need_rows.mg T.D_need_rows.fn.kp T.D_need_rows.bd .nil (passes_call (takes_of rfl rfl rfl rfl) fun _ _ _ _ z => z) (pa_cons (pv 1) pa_nil)))
      (pss_cons (ps_fld (pv 0) (pe_callTy call_tuple_of (by rfl) T.b_tuple bt_tuple (pa_cons (pe_callB (cr_sortQ rfl hr.units) (by rfl) T.b_sorted bt_sorted (pa_cons (pe_callTy (cr_setQ rfl (Nat.lt_of_le_of_lt (Nat.add_le_add_left (show 3 ≤ 64 by decide) _) hr.units)) (by rfl) T.b_set bt_set (pa_cons (pv 1) pa_nil)) pa_nil)) pa_nil)) rfl)
      (pss_cons (ps_set (i := 2) sc_Server___init__.nd rfl (by first | exact Or.inl rfl | exact Or.inr rfl) pe_dnewT)
      (pss_cons (ps_for (passes_of rfl) rfl (pi_tup (pe_fld (pv 0) rfl)) (pg_tup rfl (pgs_cons (pg_name (i := 3) sc_Server___init__.nd rfl (by first | exact Or.inl rfl | exact Or.inr rfl)) (pgs_cons (pg_name (i := 4) sc_Server___init__.nd rfl (by first | exact Or.inl rfl | exact Or.inr rfl)) (pgs_cons (pg_name (i := 5) sc_Server___init__.nd rfl (by first | exact Or.inl rfl | exact Or.inr rfl)) pgs_nil)))) (pss_one (ps_dput (hu_of hr) (pv 2) (pe_tup (pa_cons (pv 3) (pa_cons (pv 4) pa_nil))) (pe_op op_catA (pe_dget2 (hu_of hr) (pv 2) (pe_tup (pa_cons (pv 3) (pa_cons (pv 4) pa_nil))) (pe_tup pa_nil) ⟨rfl, rfl, rfl, rfl⟩) (pe_tup (pa_cons (pv 5) pa_nil))) rfl)))
      (pss_cons (ps_fld (pv 0) (pv 2) rfl)
      (pss_cons (ps_set (i := 6) sc_Server___init__.nd rfl (by first | exact Or.inl rfl | exact Or.inr rfl) pe_dnewK)
      (pss_cons (ps_lock (ps_for (passes_of rfl) rfl (pi_keys (pv 2)) (pg_tup rfl (pgs_cons (pg_name (i := 3) sc_Server___init__.nd rfl (by first | exact Or.inl rfl | exact Or.inr rfl)) (pgs_cons (pg_name (i := 4) sc_Server___init__.nd rfl (by first | exact Or.inl rfl | exact Or.inr rfl)) pgs_nil))) (pss_one (ps_dput (hu_of hr) (pv 6) (pv 3) (pe_op op_catA (pe_dget2 (hu_of hr) (pv 6) (pv 3) (pe_tup pa_nil) ⟨rfl, rfl, rfl, rfl⟩) (pe_tup (pa_cons (pv 4) pa_nil))) rfl))))
      (pss_one (ps_fld (pv 0) (pe_lock (pe_dc (own := [("hall", 3)]) rfl sc_Server___init__.nd (pi_keys (pv 6)) (blkOk_by (own := [("hall", 3)]) (N := ["self", "rows", "told", "hall", "call", "other", "known"]) (sc := defScope s_Server___init__) (by decide +kernel)) (fun _ _ _ _ _ => (pg_name (i := 3) sc_Server___init__.nd rfl (by first | exact Or.inl rfl | exact Or.inr rfl))) (fun _ _ _ _ _ => pts_nil) (fun _ _ _ _ _ => (pv 3)) (fun _ _ _ _ _ => (pe_callTy (r := tupR K) call_tuple_of (by rfl) T.b_tuple bt_tuple (pa_cons (pe_callB (r := rSortTS K) cr_sortTS (by rfl) T.b_sorted bt_sorted (pa_cons (pe_dget (hu_of hr) (pv 6) (pv 3) (fun _ _ => rfl)) pa_nil)) pa_nil))))) rfl))))))))), ?_⟩
    refine ⟨_, rfl, v, d, ds, rfl, hv, hd, g, by omega, k1, fun all H1 s1 => ?_⟩
    obtain ⟨R, rfl, gR⟩ := rows_all all
    obtain ⟨ra, zs, rfl, hra, ez, hz⟩ : ∃ ra zs, v = .ref ra ∧ (SqL K H ra (zs.map fun z : Addr × Rw => V.ref z.1) ∨ SqT K H ra (zs.map fun z : Addr × Rw => V.ref z.1)) ∧ zs.map Prod.snd = R ∧ RowsAt K H zs := by
      rcases hd with rfl | rfl
      · cases hv with
        | lst hs r =>
          obtain ⟨zs, rfl, e, hz⟩ := rows_at r gR
          exact ⟨_, zs, rfl, .inl hs, e, hz⟩
      · cases hv with
        | tup hs r =>
          obtain ⟨zs, rfl, e, hz⟩ := rows_at r gR
          exact ⟨_, zs, rfl, .inr hs, e, hz⟩
    have zl : zs.length < 301 := by
      rw [← ez, List.length_map, List.length_map] at dl; omega
    have hb1 := s1 _ _ hb
    have hra1 := hra.imp s1.slA s1.stA
    have hz1 := hz.same s1
    -- self.rows
    refine run_sortset (K := K) (P := P) (w := w) (i := 1) rfl hra1 hz1 zl fun q ys G sG eq hyG srt yl => ⟨q, _, rfl, .inl ⟨SqL.of eq, fun rt hrt => ?_⟩⟩
    have s4 := Same.newA (o := .tup (ys.map fun z => V.ref z.1)) hrt
    have grt := upd_same (H := G) (a := rt) (o := .tup (ys.map fun z => V.ref z.1))
    have s02 := s1.trans (sG.trans s4)
    have hb2 := s4 _ _ (sG _ _ hb1)
    have hy2 := hyG.same s4
    revert grt s02 hb2 hy2
    generalize upd G rt (.tup (ys.map fun z => V.ref z.1)) = H2
    intro grt s02 hb2 hy2
    clear s4 hrt eq hyG sG hb1 hra1 hz1 s1 hra
    refine ⟨_, rfl, b, _, dx, _, rfl, hb2, T.cl_Server, T.na_Server_rows, (by show 0 < 1000; decide), ?_⟩
    have ef1 : putF ("rows" : Str) (V.ref rt) [] = [(("rows" : Str), V.ref rt)] := rfl
    rw [ef1]
    have nrt : rt ≠ b := fun e => by rw [e, hb2] at grt; cases grt
    have b3 : But b H (upd H2 b (.ins T.C_Server dx [("rows", .ref rt)])) := (But.same s02).trans' .updb
    have hb3 : (upd H2 b (.ins T.C_Server dx [("rows", .ref rt)])) b = some (.ins T.C_Server dx [("rows", .ref rt)]) := upd_same
    have grt3 : (upd H2 b (.ins T.C_Server dx [("rows", .ref rt)])) rt = some (.tup (ys.map fun z => V.ref z.1)) := by
      rw [upd_ne nrt]; exact grt
    have hy3 : RowsAt K (upd H2 b (.ins T.C_Server dx [("rows", .ref rt)])) ys := fun y hy => ⟨(nodat_ins hb2).st .updb (hy2 y hy).1, (hy2 y hy).2⟩
    revert b3 hb3 grt3 hy3
    generalize upd H2 b (.ins T.C_Server dx [("rows", .ref rt)]) = H3
    intro b3 hb3 grt3 hy3
    clear hb2 hy2 s02 grt nrt ef1
    -- told
    intro td htd
    have ntd : td ≠ b := fun e => by rw [e, hb3] at htd; cases htd
    have fH : H td = none := by
      cases e : H td with
      | none => rfl
      | some o => have := b3 _ _ ntd e; rw [htd] at this; cases this
    have s4 := Same.newA (o := .dT []) htd
    have b4 := b3.trans' (But.same s4)
    have hb4 := s4 _ _ hb3
    have grt4 := s4 _ _ grt3
    have hy4 := hy3.same s4
    have e4 : (upd H3 td (.dT [])) td = some (.dT []) := upd_same
    revert b4 hb4 grt4 hy4 e4
    generalize upd H3 td (.dT []) = H4
    intro b4 hb4 grt4 hy4 e4
    clear s4 b3 hb3 grt3 hy3
    have N4 := nodat_dT e4
    dsimp only [gName]
    have hrt4 : SqT K H4 rt (ys.map fun z => V.ref z.1) := SqT.of grt4
    have dr4 : Dp K H4 (.ref rt) (.tuple ((ys.map Prod.snd).map rowD)) := .tup hrt4 (by rw [List.map_map]; exact rows_dps hy4)
    have gS : ∀ r ∈ ys.map Prod.snd, goodR r := fun r hr => by
      obtain ⟨y, hy, rfl⟩ := List.mem_map.mp hr
      exact (hy4 y hy).2
    refine ⟨_, rfl, b, _, dx, _, _, rfl, hb4, T.cl_Server, T.na_Server_rows, rfl, rt, rfl, ⟨_, hrt4⟩, for_tup (K := K) (a := rt) (xs := ys.map fun z => V.ref z.1) (fun i σ' H' => ∃ o3 o4 o5 kvs, σ' = [some (.ref b), some (.ref ra), some (.ref td), o3, o4, o5, none] ∧ But td H4 H' ∧ H' td = some (.dT kvs) ∧ Ans (SqT K) H' kvs ((ys.map Prod.snd).take i)) ⟨none, none, none, [], rfl, But.of (Same.refl _), e4, Ans.nil⟩ (fun i σ' H' _ ⟨_, _, _, _, _, t, _⟩ => N4.st t hrt4) ?_ ?_⟩
    · rintro i v σ' H5 hv ⟨o3, o4, o5, kvs, rfl, t5, e5, a5⟩
      rw [List.getElem?_map] at hv
      cases e : ys[i]? with
      | none => rw [e] at hv; cases hv
      | some y =>
        rw [e] at hv
        cases hv
        have hy5 := N4.st t5 (hy4 y (List.mem_of_getElem? e)).1
        obtain ⟨q, h, c, x⟩ := y
        refine ⟨q, _, rfl, hy5, rfl, _, _, rfl, _, _, rfl, _, _, rfl, rfl, ?_⟩
        refine put_ans (K := K) (i := 2) (j := 3) (l := 4) (m := 5) rfl rfl rfl rfl e5 a5 (by rw [List.length_take, List.length_map]; omega) fun kvs' H6 t6 e6 a6 => ?_
        have ek : (ys.map Prod.snd).take (i + 1) = (ys.map Prod.snd).take i ++ [(h, c, x)] := by rw [List.take_succ, List.getElem?_map, e]; rfl
        exact ⟨_, _, _, kvs', rfl, t5.trans' t6, e6, by rw [ek]; exact a6⟩
    · rintro σ' H5 ⟨o3, o4, o5, kvs, rfl, t5, e5, a5⟩
      rw [List.length_map, ← List.length_map (f := Prod.snd), List.take_length] at a5
      have hb5 := t5 _ _ (Ne.symm ntd) hb4
      have b5 : But b H H5 := fun a o n e => t5 a o (ne_of_none e fH) (b4 a o n e)
      have dr5 := N4.dp t5 dr4
      clear hrt4 b4 hb4 grt4 e4 N4 t5 hy4 dr4
      refine ⟨_, rfl, _, rfl, b, _, dx, _, rfl, hb5, T.cl_Server, T.na_Server__answers, (by show 1 < 1000; decide), ?_⟩
      have ef2 : putF ("_answers" : Str) (V.ref td) [(("rows" : Str), V.ref rt)] = [(("rows" : Str), V.ref rt), ("_answers", .ref td)] := rfl
      rw [ef2]
      have b6 := b5.trans' (But.updb (H := H5) (b := b) (o := .ins T.C_Server dx [(("rows" : Str), V.ref rt), ("_answers", .ref td)]))
      have hb6 : (upd H5 b (.ins T.C_Server dx [(("rows" : Str), V.ref rt), ("_answers", .ref td)])) b = some (.ins T.C_Server dx [(("rows" : Str), V.ref rt), ("_answers", .ref td)]) := upd_same
      have e6 : (upd H5 b (.ins T.C_Server dx [(("rows" : Str), V.ref rt), ("_answers", .ref td)])) td = some (.dT kvs) := by rw [upd_ne ntd]; exact e5
      have a6 := a5.kept fun a xs ha => (nodat_ins hb5).st (.updb (o := .ins T.C_Server dx [(("rows" : Str), V.ref rt), ("_answers", .ref td)])) ha
      have dr6 := (nodat_ins hb5).dp (.updb (o := .ins T.C_Server dx [(("rows" : Str), V.ref rt), ("_answers", .ref td)])) dr5
      revert b6 hb6 e6 a6 dr6
      generalize upd H5 b (.ins T.C_Server dx [(("rows" : Str), V.ref rt), ("_answers", .ref td)]) = H6
      intro b6 hb6 e6 a6 dr6
      clear b5 hb5 e5 a5 ef2 dr5
      -- known
      intro kd hkd
      dsimp only [gName]
      have nkb : kd ≠ b := fun e => by rw [e, hb6] at hkd; cases hkd
      have nkt : kd ≠ td := fun e => by rw [e, e6] at hkd; cases hkd
      have s7 := Same.newA (o := .dK []) hkd
      have gH : H kd = none := by
        cases e : H kd with
        | none => rfl
        | some o => have := b6 _ _ nkb e; rw [hkd] at this; cases this
      have b7 := b6.trans' (But.same s7)
      have hb7 := s7 _ _ hb6
      have e7 := s7 _ _ e6
      have a7 := a6.kept fun a xs ha => s7.stA ha
      have f7 : (upd H6 kd (.dK [])) kd = some (.dK []) := upd_same
      have dr7 := dp_mono s7 dr6
      revert b7 hb7 e7 a7 f7 dr7
      generalize upd H6 kd (.dK []) = H7
      intro b7 hb7 e7 a7 f7 dr7
      clear b6 hb6 e6 a6 s7 hkd dr6
      obtain ⟨ps, eps, psn⟩ := keys_pairs a7
      have psl : ps.length = kvs.length := by
        have := congrArg List.length eps
        rw [List.length_map, List.length_map] at this; exact this.symm
      refine ⟨td, .dT kvs, e7, trivial, fun od => ⟨_, rfl, td, od, rfl, .inr ⟨kvs, upd_same, for_it walk_keysT (fun i σ' H' => ∃ o3 o4 o5 kn, σ' = [some (.ref b), some (.ref ra), some (.ref td), o3, o4, o5, some (.ref kd)] ∧ But kd (upd H7 td (.frz od (.dT kvs))) H' ∧ H' kd = some (.dK kn) ∧ KnA K H' kn (ps.take i))
        ⟨o3, o4, o5, [], rfl, But.of (Same.refl _), by rw [upd_ne nkt]; exact f7, KnA.nil⟩ (fun i σ' H' _ ⟨_, _, _, _, _, t, _⟩ => t _ _ (Ne.symm nkt) upd_same) ?_ ?_⟩⟩⟩
      · rintro i x σ' H8 H8' hi ⟨o3, o4, o5, kn, rfl, t8, f8, k8⟩ ⟨rfl, ky, v, q, hk, rfl, hq⟩
        obtain ⟨pr, hpr, ek⟩ : ∃ pr, ps[i]? = some pr ∧ ky = hcK pr.1 pr.2 := by
          have := congrArg (fun l => l[i]?) eps
          simp only [List.getElem?_map, hk, Option.map_some] at this
          cases e : ps[i]? with
          | none => rw [e] at this; cases this
          | some pr => rw [e] at this; exact ⟨pr, rfl, Option.some.inj this⟩
        subst ek
        obtain ⟨h, c⟩ := pr
        refine ⟨q, _, rfl, .of hq, rfl, _, _, rfl, _, _, rfl, rfl, ?_⟩
        have kl := a7.len
        rw [List.length_map] at kl
        refine put_kn (K := K) (i := 6) (j := 3) (m := 4) rfl rfl rfl f8 k8 (by rw [List.length_take]; omega) fun kn' H9 t9 f9 k9 => ?_
        exact ⟨_, _, _, kn', rfl, t8.trans' t9, f9, by rw [take_snoc hpr]; exact k9⟩
      · rintro σ' H8 ⟨o3, o4, o5, kn, rfl, t8, f8, k8⟩
        have et8 := t8 _ _ (Ne.symm nkt) upd_same
        refine ⟨et8, ?_⟩
        have t9 := unlock_but e7 t8
        have a9 := a7.kept fun a xs ha => (nodat_dK f7).st t9 ha
        have hb9 := t9 _ _ (Ne.symm nkb) hb7
        have e9 := t9 _ _ (Ne.symm nkt) e7
        have f9 : (upd H8 td (.dT kvs)) kd = some (.dK kn) := by rw [upd_ne nkt]; exact f8
        have k9 := k8.kept fun a xs ha => unlock_st et8 ha
        have b9 : But b H (upd H8 td (.dT kvs)) := fun a o n e => t9 a o (ne_of_none e gH) (b7 a o n e)
        have dr9 := (nodat_dK f7).dp t9 dr7
        rw [← psl, List.take_length] at k9
        revert a9 hb9 e9 f9 k9 b9 dr9
        generalize upd H8 td (.dT kvs) = H9
        intro a9 hb9 e9 f9 k9 b9 dr9
        clear t8 f8 k8 et8 t9 b7 hb7 e7 a7 f7 dr7
        -- known, each sorted
        have kl := k9.len
        have kz := a9.len
        rw [List.length_map] at kz
        refine ⟨kd, .dK kn, f9, trivial, fun od2 => ⟨_, rfl, kd, od2, rfl, .inl ⟨kn, upd_same, fun D hD => ?_⟩⟩⟩
        have nDk : D ≠ kd := fun e => by rw [e, upd_same] at hD; cases hD
        have k10 : KnA K (upd H9 kd (.frz od2 (.dK kn))) kn ps := k9.kept fun a xs ha => (nodat_dK f9).st .updb ha
        have s10 := Same.newA (o := .dK []) hD
        refine dc_it walk_keys (fun i H' => ∃ kd2, H' D = some (.dK kd2) ∧ kd2.length ≤ i ∧ KsD K H' kd2 ps ((kn.take i).map (·.1)) ∧ But D (upd H9 kd (.frz od2 (.dK kn))) H') ⟨[], upd_same, Nat.le_refl _, KsD.nil, But.same s10⟩ (fun i H' _ ⟨_, _, _, _, t⟩ => t _ _ (Ne.symm nDk) upd_same) ?_ ?_
        · rintro i x H10 H10' hi ⟨kd2, g1, g2, g3, t⟩ ⟨rfl, ky, v, hk, rfl⟩
          refine ⟨rfl, ?_⟩
          obtain ⟨h, rfl, hc⟩ := k10.key ky (List.mem_map.mpr ⟨(ky, v), List.mem_of_getElem? hk, rfl⟩)
          rcases k10.at_ h with ⟨z, _⟩ | ⟨_, a, q, h1⟩
          · exact absurd z hc
          · have ek : H10' kd = some (.frz od2 (.dK kn)) := t _ _ (Ne.symm nDk) upd_same
            refine ⟨_, rfl, _, rfl, _, rfl, kd, _, rfl, .inl ⟨kn, .inr h, .inr ⟨od2, ek⟩, rfl, q.symm⟩, a, callsOf ps h, rfl, st_free hD t h1, fun ws p pm srt2 hp => ⟨p, _, rfl, .inl ⟨SqL.of upd_same, fun l hl => ?_⟩⟩⟩
            have s11 := Same.newA (o := .lst (ws.map V.str)) hp
            have s12 := Same.newA (o := .tup (ws.map V.str)) hl
            have sA := s11.trans s12
            have fD := sA _ _ g1
            refine ⟨kd2, .inr h, rfl, fD, lt5 (by omega), _, upd_same, Nat.le_trans (put_le _ _ _) (by omega), ?_, (t.trans' (But.same sA)).trans' .updb⟩
            rw [take_snoc hk, List.map_append]
            exact (g3.kept fun a xs ha => sA.stA ha).put (fun a xs ha => (nodat_dK fD).st .updb ha) (up_sortedS srt2 (pm.nodup_iff.mpr (callsOf_once psn h))) pm ((nodat_dK fD).st .updb (SqT.of upd_same))
        · rintro H10 ⟨kd2, g1, g2, g3, t⟩
          have ek : H10 kd = some (.frz od2 (.dK kn)) := t _ _ (Ne.symm nDk) upd_same
          refine ⟨ek, ?_⟩
          have nDb : D ≠ b := fun e => by rw [e, upd_ne (Ne.symm nkb), hb9] at hD; cases hD
          have nDt : D ≠ td := fun e => by rw [e, upd_ne (Ne.symm nkt), e9] at hD; cases hD
          have fD : H9 D = none := by rw [upd_ne nDk] at hD; exact hD
          have t11 := unlock_but f9 t
          have hb11 := t11 _ _ (Ne.symm nDb) hb9
          have e11 := t11 _ _ (Ne.symm nDt) e9
          have a11 := a9.kept fun a xs ha => st_free fD t11 ha
          have b11 : But b H (upd H10 kd (.dK kn)) := fun a o n e => t11 a o (ne_of_none (b9 a o n e) fD) (b9 a o n e)
          have dr11 := (nodat_none fD).dp t11 dr9
          have g11 : (upd H10 kd (.dK kn)) D = some (.dK kd2) := by rw [upd_ne nDk]; exact g1
          have h11 := g3.kept fun a xs ha => unlock_stK ek ha
          have k11 := k9.kept fun a xs ha => st_free fD t11 ha
          rw [List.take_length] at h11
          revert hb11 e11 a11 b11 dr11 g11 h11 k11
          generalize upd H10 kd (.dK kn) = H11
          intro hb11 e11 a11 b11 dr11 g11 h11 k11
          refine ⟨_, rfl, b, _, dx, _, rfl, hb11, T.cl_Server, T.na_Server__known, (by show 2 < 1000; decide), ?_⟩
          have ef3 : putF ("_known" : Str) (V.ref D) [(("rows" : Str), V.ref rt), ("_answers", .ref td)] = srvFs rt td D := rfl
          rw [ef3]
          have N := nodat_ins hb11
          refine k R _ _ rfl gR (ez ▸ srt) (b11.trans' .updb) ⟨dx, rt, td, D, kvs, kd2, upd_same, N.dp .updb dr11, by rw [upd_ne ntd]; exact e11, (a11.kept fun a xs ha => N.st .updb ha), by rw [upd_ne nDb]; exact g11, ?_, fun k hk => h11.keys k hk, srt.1, gS, by rw [List.length_map]; omega⟩
          refine KnF.kept (H := H11) (h11.done (fun h c => ?_) k11) fun a xs ha => N.st .updb ha
          rw [← a11.mem, eps, List.mem_map]
          constructor
          · intro hm
            exact ⟨(h, c), hm, rfl⟩
          · rintro ⟨p, hp, e⟩
            obtain ⟨e1, e2⟩ := hcK_inj e
            rw [← e1, ← e2]; exact hp
end
end Ag

set_option Elab.async false
set_option linter.all false
set_option maxRecDepth 100000
set_option maxHeartbeats 4000000
set_option pp.maxSteps 1500
namespace Ag
open PySem PySem.Spec PyProof.Rows L2
theorem run_edv {K : PySem.W.Frag} {σ : L2.St} {F : Addr → Prop} {H : Hp} {te : TE} {d : PyData} {Q : VK} (h : ED K te σ F H d) (k : ∀ v H1, Same H H1 → Df K (Fr F H) H1 v d → Q v H1) : te σ H Q := h H (Same.refl _) Q k
theorem st_upd {K : PySem.W.Frag} {H : Hp} {l a : Addr} {xs ys : List V} {o : HO} (h : H l = some (.lst ys)) (s : SqT K H a xs) : SqT K (upd H l o) a xs := s.imp (fun z => by
  rcases z with z | ⟨u, z⟩
  · exact .inl (by rw [upd_ne (ne_of z h (fun q => nomatch q))]; exact z)
  · exact .inr ⟨u, by rw [upd_ne (ne_of z h (fun q => nomatch q))]; exact z⟩) id
/-- rows that are being told -/
structure ScP (K : PySem.W.Frag) (p c rl kl pl : Addr) (ks ps : List Str) (H H' : Hp) (l n : Nat) (zs : List (Addr × Rw)) : Prop where
  erl : H' rl = some (.lst (zs.map fun z => V.ref z.1))
  rows : RowsAt K H' zs
  len : zs.length ≤ l
  ekl : H' kl = some (.lst (ks.map V.str))
  epl : H' pl = some (.lst (ps.map V.str))
  bt : But p H H'
  pn : Pen p c n H'
  plc : ∀ z ∈ zs, z.2.1 ∈ ps ∧ z.2.2.2 ∈ ps
theorem ScP.but {K : PySem.W.Frag} {p c rl kl pl : Addr} {ks ps : List Str} {H H' H2 : Hp} {l n n2 : Nat} {zs : List (Addr × Rw)} (a : ScP K p c rl kl pl ks ps H H' l n zs) (b : But p H' H2) (P : Pen p c n2 H2) : ScP K p c rl kl pl ks ps H H2 l n2 zs :=
  ⟨b _ _ (a.pn.ne a.erl fun _ e => nomatch e) a.erl, fun z hz => ⟨a.pn.st b (a.rows z hz).1, (a.rows z hz).2⟩, a.len, b _ _ (a.pn.ne a.ekl fun _ e => nomatch e) a.ekl, b _ _ (a.pn.ne a.epl fun _ e => nomatch e) a.epl, a.bt.trans b, P, a.plc⟩
theorem ScP.more {K : PySem.W.Frag} {p c rl kl pl : Addr} {ks ps : List Str} {H H' : Hp} {l n l2 n2 : Nat} {zs : List (Addr × Rw)} (a : ScP K p c rl kl pl ks ps H H' l n zs) (h1 : l ≤ l2) (h2 : n ≤ n2) : ScP K p c rl kl pl ks ps H H' l2 n2 zs := ⟨a.erl, a.rows, Nat.le_trans a.len h1, a.ekl, a.epl, a.bt, a.pn.more h2, a.plc⟩
theorem ScP.put {K : PySem.W.Frag} {p c rl kl pl t : Addr} {ks ps : List Str} {H H' : Hp} {l n : Nat} {zs : List (Addr × Rw)} {r : Rw} (a : ScP K p c rl kl pl ks ps H H' l n zs) (g : goodR r) (in1 : r.1 ∈ ps) (in2 : r.2.2 ∈ ps) (ht : H' t = none) (fr : H rl = none) (nk : kl ≠ rl) (np : pl ≠ rl) (npr : rl ≠ p) (ncr : rl ≠ c) :
    ScP K p c rl kl pl ks ps H (upd (upd H' t (.tup (rowV r))) rl (.lst (zs.map (fun z => V.ref z.1) ++ [.ref t]))) (l + 1) n (zs ++ [(t, r)]) := by
  have s := Same.newA (o := .tup (rowV r)) ht
  have e := s _ _ a.erl
  refine ⟨by rw [upd_same, List.map_append]; rfl, fun z hz => ?_, by rw [List.length_append]; exact Nat.succ_le_succ a.len, by rw [upd_ne nk]; exact s _ _ a.ekl, by rw [upd_ne np]; exact s _ _ a.epl, fun b o nb z => by rw [upd_ne (ne_of_none z fr)]; exact s _ _ (a.bt b o nb z), (a.pn.same s).upd npr ncr, fun z hz => (List.mem_append.mp hz).elim (a.plc z) fun hz => by rw [List.mem_singleton.mp hz]; exact ⟨in1, in2⟩⟩
  have nd : ∀ b ys, (upd H' t (.tup (rowV r))) b = some (.tup ys) → b ≠ rl := fun b ys h => ne_of h e fun z => nomatch z
  rcases List.mem_append.mp hz with hz | hz
  · exact ⟨st_upd e (s.stA (a.rows z hz).1), (a.rows z hz).2⟩
  · rw [List.mem_singleton.mp hz]
    exact ⟨SqT.of (by rw [upd_ne (nd _ _ upd_same)]; exact upd_same), g⟩
theorem row_lay {r : Rw} (h : goodR r) : (rowD r).canLay0 = true := by
  unfold rowD
  rw [PyData.canLay0]
  refine layAll_of fun d hd => ?_
  simp only [List.mem_cons, List.not_mem_nil, or_false] at hd
  rcases hd with rfl | rfl | rfl
  · exact gd_lay (name_gd h.1)
  · exact gd_lay (name_gd h.2.1)
  · exact gd_lay (name_gd h.2.2)
theorem rows_dpsJ {K : PySem.W.Frag} {H : Hp} : ∀ {zs : List (Addr × Rw)}, RowsAt K H zs → DpAll K H (zs.map fun z => V.ref z.1) (zs.map fun z => rowD z.2)
  | [], _ => .nil
  | z :: zs, h => .cons (row_dp (h z List.mem_cons_self).1) (rows_dpsJ fun y hy => h y (List.mem_cons_of_mem _ hy))
def spScene (K : PySem.W.Frag) : Sp := fun vs H Q _ => ∃ (p c n : Nat), vs = [.ref p] ∧ Pen p c n H ∧ n + 3000000 < 1000000000000 ∧
  ∀ t g m M ps S H', But p H H' → Pen p c (n + 4000) H' → SqT K H' t [.ref g, .ref m] → LsAt K m S H' → M ≤ 4 → Nms M ps → (∀ r ∈ S, r.1 ∈ ps ∧ r.2.2 ∈ ps) → S ≠ [] → S.length ≤ 40 → Q (.ref t) H'
section
variable {P : Program} {w : World} {K : PySem.W.Frag} {mg : Str → Option Value} {base : Heap} (T : Txt w K mg)
theorem ok_scene : FnOk P w K mg base CX0 6 T.a_law_scene T.d_law_scene ["pen"] (spScene K) := by
  have G_law_draw := ok_draw (P := P) (base := base) T
  have G_law_pick := ok_pick (P := P) (base := base) T
  have G_law_names := ok_names (P := P) (base := base) T
  have G_law_goal := ok_goal (P := P) (base := base) T
  have G_law_server_of := ok_server_of (P := P) (base := base) T
  refine T.D_law_scene.fn.ok sc_law_scene (fun vs H Q E h => ?_) (fun cdv A outer s H vs Q E hr h => ?_)
  · obtain ⟨p, c, n, rfl, _⟩ := h; rfl
  · obtain ⟨p, c, n, rfl, P0, hn, k⟩ := h
    refine ⟨_, (pss_cons (ps_par3 (i := 1) (j := 2) (l := 3) (by rfl) sc_law_scene.nd rfl rfl rfl (by decide) (by decide) (by decide) rfl rfl rfl (pa_cons (pe_call (G_law_goal) (hr.mono (by omega)) (by rfl) T.D_law_goal.mg T.D_law_goal.fn.kp T.D_law_goal.bd .nil pass0 (pa_cons (pv 0) pa_nil)) (pa_cons (pe_call (G_law_names) (hr.mono (by omega)) (by rfl) T.D_law_names.mg T.D_law_names.fn.kp T.D_law_names.bd .nil pass0 (pa_cons (pv 0) (pa_cons (pe_op op_add pe_int (pe_call (G_law_draw) (hr.mono (by omega)) (by rfl) T.D_law_draw.mg T.D_law_draw.fn.kp T.D_law_draw.bd .nil pass0 (pa_cons (pv 0) (pa_cons pe_int pa_nil)))) pa_nil))) (pa_cons (pe_lst pa_nil) pa_nil))) (by rfl))
      (C8.pss_cut (ps_set (i := 4) sc_law_scene.nd rfl (by first | exact Or.inl rfl | exact Or.inr rfl) (pe_op op_cat (pe_callTy call_list_of (by rfl) T.b_list bt_list (pa_cons (pe_dget (hu_of hr) (pv 1) pe_str (fun _ _ => rfl)) pa_nil)) (pe_ifExp (pt_cmpR op_eq (pe_call (G_law_draw) (hr.mono (by omega)) (by rfl) T.D_law_draw.mg T.D_law_draw.fn.kp T.D_law_draw.bd .nil pass0 (pa_cons (pv 0) (pa_cons pe_int pa_nil))) pe_int (nomark _)) (pe_lst (pa_cons pe_str pa_nil)) (pe_lst pa_nil))))
      (pss_cons (ps_for PassesOwn.never rfl (pi_enum (by rfl) T.b_enumerate (pa_cons (pv 2) pa_nil)) (pg_tup rfl (pgs_cons (pg_name (i := 5) sc_law_scene.nd rfl (by first | exact Or.inl rfl | exact Or.inr rfl)) (pgs_cons (pg_name (i := 6) sc_law_scene.nd rfl (by first | exact Or.inl rfl | exact Or.inr rfl)) pgs_nil))) (pss_one (ps_for PassesOwn.never rfl (pi_list (pv 4)) (pg_name (i := 7) sc_law_scene.nd rfl (by first | exact Or.inl rfl | exact Or.inr rfl)) (pss_one (ps_if (pt_cmpR op_gt (pe_call (G_law_draw) (hr.mono (by omega)) (by rfl) T.D_law_draw.mg T.D_law_draw.fn.kp T.D_law_draw.bd .nil pass0 (pa_cons (pv 0) (pa_cons pe_int pa_nil))) pe_int (nomark _)) (C8.pss_cut (ps_expr (pe_bm PySem.F.plainAttrs_list PySem.F.slot_list_append PySem.F.type_list_append mt_append (pv 3) (pa_cons (pe_tup (pa_cons (pv 6) (pa_cons (pv 7) (pa_cons (pe_ifExp (pt_cmpR op_eq (pe_call (G_law_draw) (hr.mono (by omega)) (by rfl) T.D_law_draw.mg T.D_law_draw.fn.kp T.D_law_draw.bd .nil pass0 (pa_cons (pv 0) (pa_cons pe_int pa_nil))) pe_int (nomark _)) (pe_ix (r := rIx K) ix_seq (pv 2) (pe_op op_mod (pe_op op_add (pv 5) pe_int) (pe_callB call_len (by rfl) T.b_len bt_len (pa_cons (pv 2) pa_nil))) (fun _ _ => rfl)) (pe_call (G_law_pick) (hr.mono (by omega)) (by rfl) T.D_law_pick.mg T.D_law_pick.fn.kp T.D_law_pick.bd .nil pass0 (pa_cons (pv 0) (pa_cons (pv 2) pa_nil)))) pa_nil)))) pa_nil)))
      (pss_one (ps_if (pt_cmpR op_eq (pe_call (G_law_draw) (hr.mono (by omega)) (by rfl) T.D_law_draw.mg T.D_law_draw.fn.kp T.D_law_draw.bd .nil pass0 (pa_cons (pv 0) (pa_cons pe_int pa_nil))) pe_int (nomark _)) (pss_one (ps_expr (pe_bm PySem.F.plainAttrs_list PySem.F.slot_list_append PySem.F.type_list_append mt_append (pv 3) (pa_cons (pe_tup (pa_cons (pv 6) (pa_cons (pv 7) (pa_cons (pe_call (G_law_pick) (hr.mono (by omega)) (by rfl) T.D_law_pick.mg T.D_law_pick.fn.kp T.D_law_pick.bd .nil pass0 (pa_cons (pv 0) (pa_cons (pv 2) pa_nil))) pa_nil)))) pa_nil)))) pss_nil))) pss_nil)))))
      (C8.pss_cut (ps_if (pt_cmpR (op_eqE hr.units) (pv 3) (pe_lst pa_nil) (nomark _)) (pss_one (ps_set (i := 3) sc_law_scene.nd rfl (by first | exact Or.inl rfl | exact Or.inr rfl) (pe_lst (pa_cons (pe_tup (pa_cons (pe_ix (r := rIx K) ix_seq (pv 2) pe_int (fun _ _ => rfl)) (pa_cons (pe_ix (r := rIx K) ix_seq (pv 4) pe_int (fun _ _ => rfl)) (pa_cons (pe_ix (r := rIx K) ix_seq (pv 2) (pe_un un_neg pe_int) (fun _ _ => rfl)) pa_nil)))) pa_nil)))) pss_nil)
      (pss_one (ps_ret (pe_tup (pa_cons (pv 1) (pa_cons (pe_call (G_law_server_of) (hr.mono (by omega)) (by rfl) T.D_law_server_of.mg T.D_law_server_of.fn.kp T.D_law_server_of.bd .nil pass0 (pa_cons (pv 3) pa_nil)) pa_nil))))))))), ?_⟩
    refine par3_of ⟨_, rfl, p, c, n, rfl, P0, by omega, fun g cs rs H1 b1 P1 ga rok r1 r5 c2 c3 nam => ⟨_, rfl, _, rfl, p, c, 3, _, rfl, P1, by decide, by decide, by omega, fun d H2 d0 d3 b2 P2 => ?_⟩⟩
    obtain ⟨M, hM, M2, M4⟩ : ∃ M : Nat, 2 + d = (M : Int) ∧ 2 ≤ M ∧ M ≤ 4 := ⟨(2 + d).toNat, by omega, by omega, by omega⟩
    refine ⟨_, _, rfl, rfl, p, c, M, _, by show [V.ref p, V.int (2 + d)] = _; rw [hM], P2, by omega, by omega, fun pl ps H3 hps fpl epl b3 P3 => ⟨(by show 0 ≤ sizeLine; decide), fun rl hrl => ⟨_, _, _, rfl, ?_⟩⟩⟩
    have pln := nms_len hps
    have pnam : ∀ x ∈ ps, nameB x = true := fun x hx => by
      obtain ⟨j, hj, hn2⟩ := nms_mem hps hx
      exact nm_name (by omega) hn2
    obtain ⟨ct, _, _, _, eg, hct, _⟩ := ga
    have b23 := b2.trans b3
    have eg := b23 _ _ (goal_ne P1 eg) eg
    have hct := P1.st b23 hct
    have bh := b1.trans b23
    have npr := P3.ne_p hrl
    have ncr := P3.ne_c hrl
    have fr : H rl = none := by
      cases e : H rl with
      | none => rfl
      | some o => have := bh _ _ npr e; rw [hrl] at this; cases this
    have s4 := Same.newA (o := .lst []) hrl
    have erl := upd_same (H := H3) (a := rl) (o := .lst [])
    have P4 := P3.same s4
    have b4 := bh.trans (But.of s4)
    have eg := s4 _ _ eg
    have hct := s4.stA hct
    have epl := s4 _ _ epl
    clear b1 P1 b2 P2 b3 b23 bh P3 s4 fpl hrl rok
    revert erl P4 b4 eg hct epl
    generalize upd H3 rl (.lst []) = H4
    intro erl P4 b4 eg hct epl
    refine ⟨fun σ' H' => ∃ (kl : Addr) (ks : List Str), σ' = [some (.ref p), some (.ref g), some (.ref pl), some (.ref rl), some (.ref kl), none, none, none] ∧ H' kl = some (.lst (ks.map V.str)) ∧ (∀ x ∈ ks, nameB x = true) ∧ 2 ≤ ks.length ∧ ks.length ≤ 4 ∧ H' pl = some (.lst (ps.map V.str)) ∧ H' rl = some (.lst []) ∧ But p H H' ∧ Pen p c (n + 3000) H', ?_, ?_⟩
    · refine ⟨_, rfl, g, _, rfl, gk_calls eg, ct, _, rfl, .inr hct, fun q1 hq1 => ?_⟩
      have s5 := Same.newA (o := .lst (cs.map V.str)) hq1
      have eq1 := upd_same (H := H4) (a := q1) (o := .lst (cs.map V.str))
      have P5 := P4.same s5
      refine ⟨_, rfl, p, c, 3, _, rfl, P5, by decide, by decide, by omega, fun d H6 _ _ b6 P6 => ⟨rfl, _, rfl, ite2 (fun _ => ⟨(by show 1 ≤ sizeLine; decide), fun q2 hq2 => ?_⟩) fun _ => ⟨(by show 0 ≤ sizeLine; decide), fun q2 hq2 => ?_⟩⟩⟩
      · have s7 := Same.newA (o := .lst [.str ("look" : Str)]) hq2
        have e6 := s7 _ _ (b6 _ _ (P4.ne_p hq1) eq1)
        refine ⟨q1, q2, _, _, rfl, rfl, e6, upd_same, small5 (by rw [List.length_map]; show _ + 1 ≤ 100000; omega), fun kl hkl => ?_⟩
        have s8 := Same.newA (o := .lst (cs.map V.str ++ [.str ("look" : Str)])) hkl
        have kp : ∀ a o, a ≠ p → H4 a = some o → (upd (upd H6 q2 (.lst [.str ("look" : Str)])) kl (.lst (cs.map V.str ++ [.str ("look" : Str)]))) a = some o := fun a o na e => s8 _ _ (s7 _ _ (b6 _ _ na (s5 _ _ e)))
        refine ⟨kl, cs ++ [("look" : Str)], rfl, by rw [upd_same, List.map_append]; rfl, fun x hx => ?_, by rw [List.length_append]; omega, by rw [List.length_append]; show _ + 1 ≤ 4; omega, kp _ _ (P4.ne epl fun _ e => nomatch e) epl, kp _ _ npr erl, fun a o na e => kp _ _ na (b4 _ _ na e), (P6.same (s7.trans s8)).more (by omega)⟩
        rcases List.mem_append.mp hx with hx | hx
        · exact nam x hx
        · rw [List.mem_singleton.mp hx]; decide +kernel
      · have s7 := Same.newA (o := .lst []) hq2
        have e6 := s7 _ _ (b6 _ _ (P4.ne_p hq1) eq1)
        refine ⟨q1, q2, _, _, rfl, rfl, e6, upd_same, small5 (by rw [List.length_map]; show _ + 0 ≤ 100000; omega), fun kl hkl => ?_⟩
        have s8 := Same.newA (o := .lst (cs.map V.str ++ [])) hkl
        have kp : ∀ a o, a ≠ p → H4 a = some o → (upd (upd H6 q2 (.lst [])) kl (.lst (cs.map V.str ++ []))) a = some o := fun a o na e => s8 _ _ (s7 _ _ (b6 _ _ na (s5 _ _ e)))
        exact ⟨kl, cs, rfl, by rw [upd_same, List.append_nil], nam, by omega, by omega, kp _ _ (P4.ne epl fun _ e => nomatch e) epl, kp _ _ npr erl, fun a o na e => kp _ _ na (b4 _ _ na e), (P6.same (s7.trans s8)).more (by omega)⟩
    · clear erl P4 b4 eg hct epl
      rintro σ' H4 ⟨kl, ks, rfl, ekl, knam, k2, k4, epl, erl, b4, P4⟩
      have nk : kl ≠ rl := fun e => by
        rw [e, erl] at ekl
        have := congrArg List.length (HO.lst.inj (Option.some.inj ekl))
        rw [List.length_map, List.length_nil] at this; omega
      have np : pl ≠ rl := fun e => by
        rw [e, erl] at epl
        have := congrArg List.length (HO.lst.inj (Option.some.inj epl))
        rw [List.length_map, List.length_nil] at this; omega
      refine run_enS ⟨_, rfl, pl, ps.map V.str, rfl, SqL.of epl, fun i σ' H' => ∃ (o5 o6 o7 : Option V) (zs : List (Addr × Rw)), σ' = [some (.ref p), some (.ref g), some (.ref pl), some (.ref rl), some (.ref kl), o5, o6, o7] ∧ ScP K p c rl kl pl ks ps H H' (i * 8) (n + 3000 + i * 40) zs,
        ⟨_, _, _, [], rfl, erl, (fun z hz => nomatch hz), Nat.zero_le _, ekl, epl, b4, P4, fun z hz => nomatch hz⟩, fun i σ' H' _ h => by obtain ⟨_, _, _, _, _, a⟩ := h; exact SqL.of a.epl, ?_, ?_⟩ (fun Q Q' f ⟨x, e, q⟩ => ⟨x, e, f _ _ q⟩)
      · clear ekl epl erl b4 P4
        rintro i v σ' H5 t0 hv ⟨o5, o6, o7, zs, rfl, a⟩ ht0
        obtain ⟨place, hpl, rfl⟩ := str_at hv
        have il : i < ps.length := (List.getElem?_eq_some_iff.mp hpl).1
        have pm := List.mem_of_getElem? hpl
        refine ⟨t0, _, rfl, .of upd_same, rfl, _, _, rfl, _, _, rfl, rfl, ?_⟩
        have s6 := Same.newA (o := .tup [.int (i : Nat), .str place]) ht0
        replace a := a.but (But.of s6) (a.pn.same s6)
        revert a
        generalize upd H5 t0 (.tup [.int (i : Nat), .str place]) = H6
        intro a
        dsimp only [gName]
        refine ⟨_, rfl, kl, rfl, ⟨_, SqL.of a.ekl⟩, for_list (K := K) (a := kl) (xs := ks.map V.str) (fun j σ' H' => ∃ (o7 : Option V) (zs : List (Addr × Rw)), σ' = [some (.ref p), some (.ref g), some (.ref pl), some (.ref rl), some (.ref kl), some (.int (i : Nat)), some (.str place), o7] ∧ ScP K p c rl kl pl ks ps H H' (i * 8 + 2 * j) (n + 3000 + i * 40 + 10 * j) zs)
          ⟨_, zs, rfl, a⟩ (fun j σ' H' _ h => by obtain ⟨_, _, _, a⟩ := h; exact SqL.of a.ekl) ?_ ?_⟩
        · clear a
          rintro j v σ' H7 hv ⟨o7, zs, rfl, a⟩
          obtain ⟨call, hcl, rfl⟩ := str_at hv
          have jl : j < ks.length := (List.getElem?_eq_some_iff.mp hcl).1
          have cm := List.mem_of_getElem? hcl
          have zl := a.len
          dsimp only [gName]
          refine ⟨_, rfl, p, c, 5, _, rfl, a.pn, by decide, by decide, by omega, fun d H8 _ _ b8 P8 => ⟨_, _, rfl, rfl, _, rfl, ite2 (fun _ => ?_) fun _ => ?_⟩⟩
          · have a8 := a.but b8 P8
            refine ⟨fun σ' H' => ∃ (zs : List (Addr × Rw)), σ' = [some (.ref p), some (.ref g), some (.ref pl), some (.ref rl), some (.ref kl), some (.int (i : Nat)), some (.str place), some (.str call)] ∧ ScP K p c rl kl pl ks ps H H' (i * 8 + 2 * j + 1) (n + 3000 + i * 40 + 10 * j + 4) zs, ?_, ?_⟩
            · refine ⟨_, rfl, .inl ⟨rfl, _, SqL.of a8.erl⟩, _, rfl, _, rfl, _, rfl, p, c, 2, _, rfl, a8.pn, by decide, by decide, by omega, fun d H9 _ _ b9 P9 => ⟨rfl, _, rfl, ite2 (fun _ => ?_) fun _ => ?_⟩⟩
              · have a9 := a8.but b9 P9
                have hx : (ps.map PyData.str)[(i + 1) % ps.length]? = some (.str (ps.getD ((i + 1) % ps.length) Str.empty)) := by rw [List.getElem?_map, List.getD_eq_getElem?_getD, List.getElem?_eq_getElem (Nat.mod_lt _ (by omega))]; rfl
                refine run_edv (K := K) (F := nn H9) (ed_ixL (j := (i + 1) % ps.length) (ed_var (i := 2) rfl (dp_df (.lst (SqL.of a9.epl) (dps_strs ps)))) (ed_is (ed_mod (ed_add (ed_var (i := 5) rfl (.int _)) ed_int) (ed_len (ed_var (i := 2) rfl (dp_df (.lst (SqL.of a9.epl) (dps_strs ps)))) rfl) (by rw [lenL, List.length_map]; omega)) (by rw [lenL, List.length_map, Int.natCast_emod, Int.natCast_add]; rfl)) hx) fun v H10 s10 hv10 => ?_
                cases hv10
                refine ⟨(by show 3 ≤ sizeLine; decide), fun t ht => ?_⟩
                have a10 := a9.but (But.of s10) (a9.pn.same s10)
                refine ⟨rl, _, _, rfl, rfl, Same.newA ht _ _ a10.erl, lt5 (by rw [List.length_map]; omega), zs ++ [(t, (place, call, ps.getD ((i + 1) % ps.length) Str.empty))], rfl, ?_⟩
                exact (a10.put (r := (place, call, ps.getD ((i + 1) % ps.length) Str.empty)) ⟨pnam _ pm, knam _ cm, pnam _ (by rw [List.getD_eq_getElem?_getD, List.getElem?_eq_getElem (Nat.mod_lt _ (by omega))]; exact List.getElem_mem _)⟩ pm (by show _ ∈ ps; rw [List.getD_eq_getElem?_getD, List.getElem?_eq_getElem (Nat.mod_lt _ (by omega))]; exact List.getElem_mem _) ht fr nk np npr ncr).more (Nat.le_refl _) (by omega)
              · have a9 := a8.but b9 P9
                refine ⟨_, rfl, _, rfl, p, c, pl, ps.map V.str, _, rfl, a9.pn, .inl (SqL.of a9.epl), by rw [List.length_map]; omega, by rw [List.length_map]; omega, by omega, fun y v H10 hv10 b10 P10 => ?_⟩
                obtain ⟨x, hx, rfl⟩ := str_at hv10
                refine ⟨(by show 3 ≤ sizeLine; decide), fun t ht => ?_⟩
                have a10 := a9.but b10 P10
                refine ⟨rl, _, _, rfl, rfl, Same.newA ht _ _ a10.erl, lt5 (by rw [List.length_map]; omega), zs ++ [(t, (place, call, x))], rfl, ?_⟩
                exact (a10.put (r := (place, call, x)) ⟨pnam _ pm, knam _ cm, pnam _ (List.mem_of_getElem? hx)⟩ pm (List.mem_of_getElem? hx) ht fr nk np npr ncr).more (Nat.le_refl _) (by omega)
            · rintro σ' H9 ⟨zs2, rfl, a9⟩
              have zl2 := a9.len
              refine ⟨_, rfl, p, c, 4, _, rfl, a9.pn, by decide, by decide, by omega, fun d H10 _ _ b10 P10 => ⟨rfl, _, rfl, ite2 (fun _ => ?_) fun _ => ?_⟩⟩
              · have a10 := a9.but b10 P10
                refine ⟨_, rfl, .inl ⟨rfl, _, SqL.of a10.erl⟩, _, rfl, _, rfl, _, rfl, _, rfl, p, c, pl, ps.map V.str, _, rfl, a10.pn, .inl (SqL.of a10.epl), by rw [List.length_map]; omega, by rw [List.length_map]; omega, by omega, fun y v H11 hv11 b11 P11 => ?_⟩
                obtain ⟨x, hx, rfl⟩ := str_at hv11
                refine ⟨(by show 3 ≤ sizeLine; decide), fun t ht => ?_⟩
                have a11 := a10.but b11 P11
                refine ⟨rl, _, _, rfl, rfl, Same.newA ht _ _ a11.erl, lt5 (by rw [List.length_map]; omega), _, zs2 ++ [(t, (place, call, x))], rfl, ?_⟩
                exact (a11.put (r := (place, call, x)) ⟨pnam _ pm, knam _ cm, pnam _ (List.mem_of_getElem? hx)⟩ pm (List.mem_of_getElem? hx) ht fr nk np npr ncr).more (by omega) (by omega)
              · exact ⟨_, zs2, rfl, (a9.but b10 P10).more (by omega) (by omega)⟩
          · exact ⟨_, zs, rfl, (a.but b8 P8).more (by omega) (by omega)⟩
        · rintro σ' H7 ⟨o7, zs, rfl, a⟩
          rw [List.length_map] at a
          exact ⟨_, _, _, zs, rfl, a.more (by omega) (by omega)⟩
      · clear ekl epl erl b4 P4
        rintro σ' H5 ⟨o5, o6, o7, zs, rfl, a⟩
        rw [List.length_map] at a
        have zl := a.len
        refine ⟨fun σ' H' => ∃ (rl2 : Addr) (zs2 : List (Addr × Rw)), σ' = [some (.ref p), some (.ref g), some (.ref pl), some (.ref rl2), some (.ref kl), o5, o6, o7] ∧ H' rl2 = some (.lst (zs2.map fun z => V.ref z.1)) ∧ RowsAt K H' zs2 ∧ (∀ z ∈ zs2, z.2.1 ∈ ps ∧ z.2.2.2 ∈ ps) ∧ zs2 ≠ [] ∧ zs2.length ≤ 32 ∧ But p H H' ∧ Pen p c (n + 3500) H', ?_, ?_⟩
        · refine s_if (b := (zs.map fun z => rowD z.2).isEmpty) (et_test (ed_eqE (K := K) (F := nn H5) (ds := zs.map fun z => rowD z.2) (ed_var (i := 3) rfl (dp_df (.lst (SqL.of a.erl) (rows_dpsJ a.rows)))) (ed_lst ea_nil (by show 0 ≤ 100000; decide)) (layAll_of fun d hd => by obtain ⟨z, hz, rfl⟩ := List.mem_map.mp hd; exact row_lay (a.rows z hz).2))) (fun hb H6 s6 => ?_) (fun hb H6 s6 => ?_)
          · have a6 := a.but (But.of s6) (a.pn.same s6)
            have p0 : ps[0]? = some (ps.getD 0 Str.empty) := by rw [List.getD_eq_getElem?_getD, List.getElem?_eq_getElem (by omega)]; rfl
            have p1 : ps[ps.length - 1]? = some (ps.getD (ps.length - 1) Str.empty) := by rw [List.getD_eq_getElem?_getD, List.getElem?_eq_getElem (by omega)]; rfl
            have k0 : ks[0]? = some (ks.getD 0 Str.empty) := by rw [List.getD_eq_getElem?_getD, List.getElem?_eq_getElem (by omega)]; rfl
            refine ⟨_, rfl, .inl ⟨pl, _, 0, .str (ps.getD 0 Str.empty), rfl, rfl, SqL.of a6.epl, atI_nat (j := 0) (by rw [List.getElem?_map, p0]; rfl), _, rfl, .inl ⟨kl, _, 0, .str (ks.getD 0 Str.empty), rfl, rfl, SqL.of a6.ekl, atI_nat (j := 0) (by rw [List.getElem?_map, k0]; rfl), _, rfl, 1, rfl, .inl ⟨pl, _, -1, .str (ps.getD (ps.length - 1) Str.empty), rfl, rfl, SqL.of a6.epl, atI_neg (k := 1) (by decide) (by rw [List.length_map]; omega) (by rw [List.length_map, List.getElem?_map, p1]; rfl), (by show 3 ≤ sizeLine; decide), fun t ht => ⟨(by show 1 ≤ sizeLine; decide), fun rl2 hrl2 => ?_⟩⟩⟩⟩⟩
            have s7 := Same.newA (o := .tup (rowV (ps.getD 0 Str.empty, ks.getD 0 Str.empty, ps.getD (ps.length - 1) Str.empty))) ht
            have s8 := Same.newA (o := .lst [.ref t]) hrl2
            refine ⟨rl2, [(t, (ps.getD 0 Str.empty, ks.getD 0 Str.empty, ps.getD (ps.length - 1) Str.empty))], rfl, upd_same, fun z hz => ?_, (fun z hz => by rw [List.mem_singleton.mp hz]; exact ⟨List.mem_of_getElem? p0, List.mem_of_getElem? p1⟩), List.cons_ne_nil _ _, (by show 1 ≤ 32; decide), a6.bt.trans (But.of (s7.trans s8)), (a6.pn.same (s7.trans s8)).more (by omega)⟩
            rw [List.mem_singleton.mp hz]
            exact ⟨SqT.of (s8 _ _ upd_same), pnam _ (List.mem_of_getElem? p0), knam _ (List.mem_of_getElem? k0), pnam _ (List.mem_of_getElem? p1)⟩
          · have a6 := a.but (But.of s6) (a.pn.same s6)
            refine ⟨rl, zs, rfl, a6.erl, a6.rows, a6.plc, (fun e => by rw [e] at hb; cases hb), (by omega), a6.bt, a6.pn.more (by omega)⟩
        · rintro σ' H6 ⟨rl2, zs2, rfl, e2, rows2, in2, ne2, l2, b6, P6⟩
          refine ⟨_, rfl, _, rfl, rl2, zs2, rfl, SqL.of e2, rows2, by omega, fun m S H7 s7 srt ls => ⟨(by show 2 ≤ sizeLine; decide), fun t ht => ?_⟩⟩
          have s8 := Same.newA (o := .tup [.ref g, .ref m]) ht
          refine k t g m M ps S _ (b6.trans (But.of (s7.trans s8))) ((P6.same (s7.trans s8)).more (by omega)) (SqT.of upd_same) (ls.same s8) M4 hps (fun r hr => ?_) (fun e => ?_) ?_
          · obtain ⟨z, hz, rfl⟩ := List.mem_map.mp ((srt.2 r).mp hr)
            exact in2 z hz
          · cases zs2 with
            | nil => exact ne2 rfl
            | cons z zs2 =>
              have := (srt.2 z.2).mpr List.mem_cons_self
              rw [e] at this; cases this
          · have := srt.len
            rw [List.length_map] at this; omega
end
end Ag

set_option Elab.async false
set_option linter.all false
set_option maxRecDepth 100000
set_option maxHeartbeats 2000000
set_option pp.maxSteps 300
/-! a != b of two instances whose class has an own == and no !=. -/
namespace Ag
open PySem PySem.Spec PyProof.Rows L2
section
variable {prog : Program} {w : World} {A : Around} {E : Value → Shared → Prop} {s : Shared} {K : PySem.W.Frag} {x C f : Addr} {ox : Obj} {od : Option Obj}
theorem ne_entry {b : Value} (X : K.In s.heap) (I : PySem.W.InstAt s.heap x ox C od) (he : PySem.W.findIn K (.ref C) "__eq__" = some (some (.ref f))) (hf : PySem.W.isFn K (.ref f) = true) (hu : A.units < cLine) {Q : Fin → Shared → Prop}
    (hc : wpAny (model prog w) A (call (.ref f) [.ref x, b]) (fun v s' => ∃ c, v = .bool c ∧ Q (.done (.ret (.bool (!c)))) s') E s) : wpAny (model prog w) A (Builtin.«object.__ne__» ⟨[.ref x, b], []⟩) Q E s := by
  have one : wpAny (model prog w) A (callSpecialIfBound? (.ref x) (Str.ofString "__eq__") [b]) (fun r s' => ∃ c, r = some (.bool c) ∧ Q (.done (.ret (.bool (!c)))) s') E s :=
    PySem.W.ifBound_K X I he hf (wpAny_mono hc (fun v s' ⟨c, e, q⟩ => ⟨c, by rw [e], q⟩) fun _ _ e => e)
  obtain ⟨h, g, d, t, os⟩ := s
  unfold Builtin.«object.__ne__»
  repeat (first
    | with_reducible refine wpAny_cRoomFor hu ?_
    | (refine wpAny_bind (m := callSpecialIfBound? (.ref x) (Str.ofString "__eq__") [b]) (wpAny_mono one (fun r s' hr => by
          obtain ⟨c, rfl, hq⟩ := hr
          repeat (first | exact hq | exact wpAny_pure hq | exact wpAny_truthy_bool hq | (refine wpAny_bind (m := truthy (.bool _)) (wpAny_truthy_bool ?_)) | wp_step)) fun _ _ e => e))
    | wp_step)
theorem ifBound_objNe {args : List Value} {Q : Option Value → Shared → Prop} (X : K.In s.heap) (I : PySem.W.InstAt s.heap x ox C od) (hs : PySem.W.findIn K (.ref C) "__ne__" = some (some (.builtin "object.__ne__")))
    (h : wpAny (model prog w) A (call (.builtin "object.__ne__") (.ref x :: args)) (fun v => Q (some v)) E s) : wpAny (model prog w) A (callSpecialIfBound? (.ref x) "__ne__" args) Q E s := by
  have fin : wpAny (model prog w) A (call (.builtin "object.__ne__") ([.ref x] ++ args) >>= fun v => pure (some v)) Q E s := wpAny_bind (wpAny_mono h (fun v s' z => wpAny_pure z) fun _ _ z => z)
  unfold callSpecialIfBound? bindSpecialIfBound?
  refine wpAny_holding (wpAny_bind (wpAny_bind (wpAny_bind (I.type.here ((PySem.W.looks_findIn X hs).here ?_)))))
  refine wpAny_bind (wpAny_askSetting (wpAny_ite ?_))
  split
  · exact wpAny_bind (wpAny_of_eq (F.cmp_object.ne.bind _) (wpAny_pure (by exact fin)))
  · exact wpAny_tryCatch (wpAny_bind (wpAny_of_eq (F.cmp_object.ne.bind _) (wpAny_pure (by exact fin))))
theorem try_ne {b : Value} (X : K.In s.heap) (I : PySem.W.InstAt s.heap x ox C od) (hm : PySem.W.mroIn K C (.type "object") = some true) (hs : PySem.W.findIn K (.ref C) "__ne__" = some (some (.builtin "object.__ne__"))) (he : PySem.W.findIn K (.ref C) "__eq__" = some (some (.ref f))) (hf : PySem.W.isFn K (.ref f) = true)
    (hu : A.units + 1 < cLine) {Q : Option Value → Shared → Prop} (hc : wpAny (model prog w) A.in1 (call (.ref f) [.ref x, b]) (fun v s' => ∃ c, v = .bool c ∧ Q (some (.bool (!c))) s') E s) : wpAny (model prog w) A (tryCompare (.ref x) "__ne__" b) Q E s := by
  unfold tryCompare
  refine wpAny_bind (ifBound_objNe X I hs (wpAny_call (codeAny_call_builtin F.cmp_object.ne.plain F.cmpEntry_ne (PySem.W.check_slot F.cmpKind_ne F.cmpSplit_ne (I.type.andThen (PySem.W.looks_mroIn X hm)) (F.cmpArgs_ne _ _) (ne_entry X I he hf hu (wpAny_mono hc (fun v s' hv => ?_) fun _ _ z => z))))))
  obtain ⟨c, e, q⟩ := hv
  exact ⟨c, e, wpAny_pure q⟩
theorem rc_ne {y : Addr} {oy : Obj} {od2 : Option Obj} (X : K.In s.heap) (I : PySem.W.InstAt s.heap x ox C od) (J : PySem.W.InstAt s.heap y oy C od2) (hm : PySem.W.mroIn K C (.type "object") = some true) (hs : PySem.W.findIn K (.ref C) "__ne__" = some (some (.builtin "object.__ne__"))) (he : PySem.W.findIn K (.ref C) "__eq__" = some (some (.ref f))) (hf : PySem.W.isFn K (.ref f) = true)
    (hu : A.units + 1 < cLine) {Q : Value → Shared → Prop} (hc : wpAny (model prog w) A.in1 (call (.ref f) [.ref x, .ref y]) (fun v s' => ∃ c, v = .bool c ∧ Q (.bool (!c)) s') E s) : wpAny (model prog w) A (richCompare .NotEq (.ref x) (.ref y)) Q E s := by
  simp only [richCompare, cmpInfo_NotEq, oneThing_ref]
  refine wpAny_holding (wpAny_bind (wpAny_cRoomFor (by omega) ?_))
  refine wpAny_bind (I.type.here ?_)
  refine wpAny_bind (J.type.here ?_)
  rw [if_neg (by simp)]
  refine wpAny_bind (wpAny_pure ?_)
  simp only [Bool.false_eq_true, if_false]
  refine wpAny_bind (m := tryCompare (.ref x) _ (.ref y)) (try_ne X I hm hs he hf hu (wpAny_mono hc (fun v s' hv => ?_) fun _ _ z => z))
  obtain ⟨c, e, q⟩ := hv
  first | exact ⟨c, e, wpAny_pure q⟩ | exact ⟨c, e, wpAny_pure (wpAny_pure q)⟩
end
section
variable {X : Cx} {CX : CXT} {C f : Addr} {k : Nat} {fd : FuncData} {ps : List Str} {sp : Sp} {E : XK}
def rNeO (C : Addr) (sp : Sp) (E : XK) : R2 := fun x y H Q => ∃ b dx fs a dy gs, x = .ref b ∧ H b = some (.ins C dx fs) ∧ y = .ref a ∧ H a = some (.ins C dy gs) ∧ sp [.ref b, y] H (fun v H' => ∃ c, v = .bl c ∧ Q (.bl (!c)) H') E
theorem op_neO (F : FnOk X.prog X.w X.K X.mg X.base CX k f fd ps sp) (m : Meth X.K C "__eq__" f) (hm : PySem.W.mroIn X.K C (.type "object") = some true) (hn : PySem.W.findIn X.K (.ref C) "__ne__" = some (some (.builtin "object.__ne__"))) (hr : Room (k + 1) X.A) (hb : Binds X.K fd ps []) (hx : Passes CX X E) : OpR X (compareOp .NotEq) (rNeO C sp E) := by
  intro pins s σ H x y v u Q I rx ry h
  obtain ⟨b, dx, fs, a, dy, gs, rfl, hB, rfl, hA, hsp⟩ := h
  cases rx; cases ry
  obtain ⟨mA, J, _⟩ := ins_get I.hok hB
  obtain ⟨od, J, _⟩ := J.look
  obtain ⟨mB, J2, _⟩ := ins_get I.hok hA
  obtain ⟨od2, J2, _⟩ := J2.look
  show wpAny (model X.prog X.w) X.A (richCompare .NotEq (.ref b) (.ref a)) (EP X pins σ Q) X.xe s
  refine rc_ne I.kIn J J2 hm hn m.at_ m.fn (by have := hr.un; omega) ?_
  refine wpAny_mono (run_sub F hr.in1 rfl hb hx I (vs := [V.ref b, V.ref a]) (.cons rfl (.cons rfl .nil)) hsp) (fun z s' hz => ?_) fun _ _ z => z
  obtain ⟨w, H', I', rw', c, rfl, q⟩ := hz
  cases rw'
  exact ⟨c, rfl, .bl (!c), H', I', rfl, q⟩
end
end Ag

set_option Elab.async false
set_option linter.all false
set_option maxRecDepth 100000
set_option maxHeartbeats 2000000
set_option pp.maxSteps 400
namespace Ag
open PySem PySem.Spec PyProof.Rows L2
section
variable {rt td kd : Addr}
theorem sf_rows : List.lookup ("rows" : Str) (srvFs rt td kd) = some (V.ref rt) := by simp only [srvFs, List.lookup_cons]; rfl
theorem sf_ans : List.lookup ("_answers" : Str) (srvFs rt td kd) = some (V.ref td) := by
  simp only [srvFs, List.lookup_cons, show (("_answers" : Str) == "rows") = false by decide +kernel]; rfl
theorem sf_known : List.lookup ("_known" : Str) (srvFs rt td kd) = some (V.ref kd) := by
  simp only [srvFs, List.lookup_cons, show (("_known" : Str) == "rows") = false by decide +kernel, show (("_known" : Str) == "_answers") = false by decide +kernel]; rfl
theorem sf_no {m : Str} (h : (m == "rows") = false ∧ (m == "_answers") = false ∧ (m == "_known") = false) : (srvFs rt td kd).lookup m = none := by
  simp only [srvFs, List.lookup_cons, h.1, h.2.1, h.2.2]; rfl
end
theorem eqv_map {α : Type} [DecidableEq α] (f : α → PyData) (h : ∀ a b, PyData.eqv (f a) (f b) = decide (a = b)) : ∀ xs ys : List α, PyData.eqvAll (xs.map f) (ys.map f) = decide (xs = ys)
  | [], [] => by simp [PyData.eqvAll]
  | [], y :: ys => by simp [PyData.eqvAll]
  | x :: xs, [] => by simp [PyData.eqvAll]
  | x :: xs, y :: ys => by
    rw [List.map_cons, List.map_cons, PyData.eqvAll, h, eqv_map f h xs ys]
    by_cases e : x = y
    · subst e; simp
    · rw [decide_eq_false e, Bool.false_and, decide_eq_false (fun z => e (List.cons.inj z).1)]
def rowsD (S : List Rw) : PyData := .tuple (S.map rowD)
theorem eqv_rows (S S2 : List Rw) : PyData.eqv (rowsD S) (rowsD S2) = decide (S = S2) := by
  unfold rowsD
  rw [PyData.eqv]; exact eqv_map rowD eqv_row S S2
theorem depth_rows : ∀ S : List Rw, PyData.depthAll (S.map rowD) ≤ 1
  | [] => by simp [PyData.depthAll]
  | r :: S => by
    have := depth_rows S
    rw [List.map_cons, PyData.depthAll]
    have : (rowD r).depth = 1 := by simp [rowD, PyData.depth, PyData.depthAll]
    omega
theorem rows_lay {S : List Rw} (g : ∀ r ∈ S, goodR r) : (rowsD S).canLay0 = true := by
  unfold rowsD
  rw [PyData.canLay0]
  refine layAll_of fun d hd => ?_
  obtain ⟨r, hr, rfl⟩ := List.mem_map.mp hd
  exact row_lay (g r hr)
theorem rows_shaped {S : List Rw} (g : ∀ r ∈ S, goodR r) : SeqAt.shaped (rowsD S) = true := by
  unfold SeqAt.shaped
  rw [rows_lay g, Bool.true_and]
  refine decide_eq_true ?_
  have := depth_rows S
  unfold rowsD
  rw [PyData.depth]; omega
theorem row_shaped {r : Rw} (g : goodR r) : SeqAt.shaped (rowD r) = true := by
  unfold SeqAt.shaped
  rw [row_lay g, Bool.true_and]
  exact decide_eq_true (by simp [rowD, PyData.depth, PyData.depthAll])
theorem row_gd {r : Rw} (h : goodR r) : gd (rowD r) = true := by
  show (gds [.str r.1, .str r.2.1, .str r.2.2] && decide (3 ≤ 1000)) = true
  rw [gds_of fun y hy => ?_]
  · rfl
  · simp only [List.mem_cons, List.not_mem_nil, or_false] at hy
    rcases hy with rfl | rfl | rfl
    · exact name_gd h.1
    · exact name_gd h.2.1
    · exact name_gd h.2.2
section
variable {K : PySem.W.Frag} {σ : L2.St} {F : Addr → Prop} {H : Hp} {i : Nat} {C b : Addr} {S : List Rw}
theorem dfs_rows : ∀ {S : List Rw} {vs : List V}, DpAll K H vs (S.map rowD) → DfAll K F H vs (S.map rowD)
  | [], _, .nil => .nil
  | r :: S, _, .cons a t => .cons (by
      cases a with
      | tup hs q =>
        cases q with
        | cons q1 q =>
          cases q with
          | cons q2 q =>
            cases q with
            | cons q3 q =>
              cases q; cases q1; cases q2; cases q3
              exact .tup hs (.cons (.str _) (.cons (.str _) (.cons (.str _) .nil)))) (dfs_rows t)
theorem df_row {v : V} {r : Rw} (h : Dp K H v (rowD r)) : Df K F H v (rowD r) := by
  have := dfs_rows (F := F) (S := [r]) (.cons h .nil)
  cases this with
  | cons a _ => exact a
theorem df_rows {v : V} (h : Dp K H v (rowsD S)) : Df K F H v (rowsD S) := by
  cases h with
  | tup hs r => exact .tup hs (dfs_rows r)
/-- self.rows -/
theorem ed_rows (h : σ[i]? = some (some (.ref b))) (cl : Cls K C) (na : NoAttr K C "rows") (s : ServerAt K C b S H) : ED K (tFld K (tVar i) "rows") σ F H (rowsD S) := by
  obtain ⟨dx, rt, td, kd, kvs, kn, p⟩ := s
  exact ed_fldI h p.obj cl na sf_rows (df_rows p.rows)
theorem ServerAt.up (s : ServerAt K C b S H) : Up rkR S := by
  obtain ⟨dx, rt, td, kd, kvs, kn, p⟩ := s; exact p.up
theorem ServerAt.gd_ (s : ServerAt K C b S H) : ∀ r ∈ S, goodR r := by
  obtain ⟨dx, rt, td, kd, kvs, kn, p⟩ := s; exact p.good
theorem ServerAt.len_ (s : ServerAt K C b S H) : S.length < 301 := by
  obtain ⟨dx, rt, td, kd, kvs, kn, p⟩ := s; exact p.len
theorem ServerAt.obj_ (s : ServerAt K C b S H) : ∃ dx fs, H b = some (.ins C dx fs) := by
  obtain ⟨dx, rt, td, kd, kvs, kn, p⟩ := s; exact ⟨_, _, p.obj⟩
/-- self._answers.get(x, ()), x a pair of texts -/
theorem ed_ans {ty : TE} {x c : Str} (h : σ[i]? = some (some (.ref b))) (cl : Cls K C) (na : NoAttr K C "_answers") (s : ServerAt K C b S H)
    (hy : ∀ H1, Same H H1 → ∀ Q : VK, (∀ a H2, Same H1 H2 → H2 a = some (.tup [.str x, .str c]) → Q (.ref a) H2) → ty σ H1 Q) : ED K (tDGet2 (tFld K (tVar i) "_answers") ty (tTup tNil)) σ F H (txD (ansOf S x c)) := by
  obtain ⟨dx, rt, td, kd, kvs, kn, p⟩ := s
  intro H1 s1 Q q
  refine ⟨_, h, b, _, dx, _, _, rfl, s1 _ _ p.obj, cl, na, sf_ans, td, rfl, .inr ⟨kvs, .inl (s1 _ _ p.ansd)⟩, hy H1 s1 _ fun a H2 s2 ha => ⟨(by show 0 ≤ sizeLine; decide), fun n hn => ?_⟩⟩
  have s3 := Same.newA (o := .tup []) hn
  have s12 := s1.trans s2
  have s13 := s12.trans s3
  rcases p.ans.at_ x c with ⟨e1, e2⟩ | ⟨_, y, e1, e2⟩
  · refine ⟨none, by rw [← e2]; exact DGet.t (k := hcK x c) (s13 _ _ p.ansd) (s3 _ _ ha), q _ _ (s2.trans s3) ?_⟩
    rw [e1]
    exact .tup (SqT.of upd_same) .nil
  · refine ⟨some (.ref y), by rw [← e1]; exact DGet.t (k := hcK x c) (s13 _ _ p.ansd) (s3 _ _ ha), q _ _ (s2.trans s3) ?_⟩
    exact .tup (s13.stA e2) (dfs_strs _)
end
theorem cutD_to (ys : List PyData) (k : Nat) : cutD ys none (some (k : Int)) = ys.take k := by
  unfold cutD
  rw [HT.sIx_none, HT.sIx_nat, List.drop_zero, Nat.sub_zero]
  rcases Nat.le_total k ys.length with h | h
  · rw [Nat.min_eq_left h]
  · rw [Nat.min_eq_right h, List.take_length, List.take_of_length_le h]
def spEqS (K : PySem.W.Frag) (C : Addr) : Sp := fun vs H Q _ => ∃ b y S, vs = [.ref b, y] ∧ ServerAt K C b S H ∧ ((∃ b2 S2, y = .ref b2 ∧ ServerAt K C b2 S2 H ∧ ∀ H', Same H H' → Q (.bl (decide (S = S2))) H') ∨ ∃ d, Dp K H y d ∧ ∀ H', Same H H' → Q (.bl false) H')
def spLenS (K : PySem.W.Frag) (C : Addr) : Sp := fun vs H Q _ => ∃ b S, vs = [.ref b] ∧ ServerAt K C b S H ∧ ∀ H', Same H H' → Q (.int (S.length : Nat)) H'
def spInS (K : PySem.W.Frag) (C : Addr) : Sp := fun vs H Q _ => ∃ b v d S, vs = [.ref b, v] ∧ ServerAt K C b S H ∧ Dp K H v d ∧ gd d = true ∧ (isRow d = false → ∀ H', Same H H' → Q (.bl false) H') ∧ ∀ r, d = rowD r → goodR r → ∀ H', Same H H' → Q (.bl (decide (r ∈ S))) H'
def spAddS (K : PySem.W.Frag) (C B : Addr) : Sp := fun vs H Q E => ∃ b v d S, vs = [.ref b, v] ∧ ServerAt K C b S H ∧ S.length < 300 ∧ Dp K H v d ∧ gd d = true ∧
  (isRow d = false → ∀ y H', Same H H' → Dp K H' y d → Out2 B "what" "row" (.str "server") y H' E) ∧ ∀ r S' b' H', d = rowD r → goodR r → Srt (S ++ [r]) S' → Same H H' → ServerAt K C b' S' H' → Q (.ref b') H'
def spSubS (K : PySem.W.Frag) (C B : Addr) : Sp := fun vs H Q E => ∃ b v d S, vs = [.ref b, v] ∧ ServerAt K C b S H ∧ Dp K H v d ∧ gd d = true ∧
  (isRow d = false → ∀ y H', Same H H' → Dp K H' y d → Out2 B "what" "row" (.str "server") y H' E) ∧ ∀ r b' H', d = rowD r → goodR r → Same H H' → ServerAt K C b' (S.filter fun s => !decide (s = r)) H' → Q (.ref b') H'
def spOrS (K : PySem.W.Frag) (C : Addr) : Sp := fun vs H Q _ => ∃ b b2 S S2, vs = [.ref b, .ref b2] ∧ ServerAt K C b S H ∧ ServerAt K C b2 S2 H ∧ S.length + S2.length ≤ 300 ∧ ∀ S' b' H', Srt (S ++ S2) S' → Same H H' → ServerAt K C b' S' H' → Q (.ref b') H'
theorem srt_ex (R : List Rw) : ∃ S, Srt R S := by
  have dd : ∀ l : List Rw, ∃ m : List Rw, m.Nodup ∧ ∀ r, r ∈ m ↔ r ∈ l := by
    intro l
    induction l with
    | nil => exact ⟨[], List.nodup_nil, fun _ => Iff.rfl⟩
    | cons x l ih =>
      obtain ⟨m, n, h⟩ := ih
      by_cases e : x ∈ l
      · refine ⟨m, n, fun r => (h r).trans ⟨List.mem_cons_of_mem _, fun z => (List.mem_cons.mp z).elim (fun q => q ▸ e) id⟩⟩
      · exact ⟨x :: m, List.nodup_cons.mpr ⟨fun z => e ((h x).mp z), n⟩, fun r => by rw [List.mem_cons, List.mem_cons, h]⟩
  obtain ⟨m, n, h⟩ := dd R
  exact ⟨m.mergeSort (leF rkR), up_sort rkR_inj n, fun r => ((List.mergeSort_perm m _).mem_iff).trans (h r)⟩
theorem ret_make {C : Addr} {sp : Sp} {ds : List V} {E : XK} {ta : TA} {D : Ends} {σ : L2.St} {H : Hp} (h : ta σ H fun vs H1 => ∀ x dx, H1 x = none → H1 dx = none → dx ≠ x → sp (.ref x :: (vs ++ ds)) (upd (upd H1 dx (.own x)) x (.ins C dx [])) (fun v H2 => v = .non ∧ D.rt (.ref x) H2) E) : tRet (tMake C sp ds E ta) D σ H := h
/-- tuple([..]) -/
theorem run_tupl {K : PySem.W.Frag} {te : TE} {tr : TA} {σ : L2.St} {F : Addr → Prop} {H : Hp} {ds : List PyData} {Q : List V → Hp → Prop} (h : ED K te σ F H (.list ds)) (k : ∀ a H1, Same H H1 → Dp K H1 (.ref a) (.tuple ds) → tr σ H1 fun vs H2 => Q (.ref a :: vs) H2) : tCons (tCB (tupR K) (tCons te tNil)) tr σ H Q :=
  h H (Same.refl _) _ fun v H1 s1 hv => by
    cases hv with
    | lst hs r => exact ⟨_, _, rfl, .inl ⟨hs.imp (fun z => z.1) id, fun p hp => k p _ (s1.trans (Same.newA hp)) (.tup (SqT.of upd_same) (dps_mono (Same.newA hp) (dfs_dps r)))⟩⟩
section
variable {P : Program} {w : World} {K : PySem.W.Frag} {mg : Str → Option Value} {base : Heap} (T : Txt w K mg)
theorem ok_eq : FnOk P w K mg base CX0 1 T.a_Server___eq__ T.d_Server___eq__ ["self", "other"] (spEqS K T.C_Server) := by
  refine T.D_Server___eq__.fn.ok sc_Server___eq__ (fun vs H Q E h => ?_) (fun cdv A outer s H vs Q E hr h => ?_)
  · obtain ⟨b, y, S, rfl, _⟩ := h; rfl
  · obtain ⟨b, y, S, rfl, sv, h⟩ := h
    refine ⟨_, (pss_cons (ps_if (pt_not (pt_val (pe_callB call_isi (by rfl) T.b_isinstance bt_isinstance (pa_cons (pv 1) (pa_cons (pe_glob (v := .ref T.C_Server) (by rfl) T.g_Server rfl) pa_nil))))) (pss_one (ps_ret pe_bl)) pss_nil)
      (pss_one (ps_ret (pe_cmpR (op_eqD hr.units) (pe_fld (pv 0) rfl) (pe_fld (pv 1) rfl) (nomark _))))), ?_⟩
    rcases h with ⟨b2, S2, rfl, sv2, k⟩ | ⟨d, hd, k⟩
    · obtain ⟨dx2, fs2, hb2⟩ := sv2.obj_
      refine s_if (b := false) (et_is (et_not (et_B (ed_isiO (K := K) (F := nn H) (i := 1) rfl (fun H1 s1 => .base (T.ty_Server _ _ _ _ (s1 _ _ hb2))) T.ki_Server_Server))) rfl) (fun h => nomatch h) (fun _ H1 s1 => ?_)
      dsimp only [tNext]
      exact s_retB (F := nn H1) (ed_eqD (ed_rows (i := 0) rfl T.cl_Server T.na_Server_rows (sv.same s1)) (ed_rows (i := 1) rfl T.cl_Server T.na_Server_rows (sv2.same s1)) (rows_shaped sv.gd_) (rows_shaped sv2.gd_)) (eqv_rows S S2) fun H2 s2 => k H2 (s1.trans s2)
    · refine s_if (b := true) (et_is (et_not (et_B (ed_isiC (K := K) (F := nn H) (i := 1) rfl hd T.nk_Server))) rfl) (fun _ H1 s1 => ?_) (fun h => nomatch h)
      exact k H1 s1
theorem ok_len : FnOk P w K mg base CX0 1 T.a_Server___len__ T.d_Server___len__ ["self"] (spLenS K T.C_Server) := by
  refine T.D_Server___len__.fn.ok sc_Server___len__ (fun vs H Q E h => ?_) (fun cdv A outer s H vs Q E hr h => ?_)
  · obtain ⟨b, S, rfl, _⟩ := h; rfl
  · obtain ⟨b, S, rfl, sv, k⟩ := h
    refine ⟨_, (pss_one (ps_ret (pe_callB call_len (by rfl) T.b_len bt_len (pa_cons (pe_fld (pv 0) rfl) pa_nil)))), ?_⟩
    exact s_retI (F := nn H) (ed_len (ed_rows (i := 0) rfl T.cl_Server T.na_Server_rows sv) rfl) (by show (((S.map rowD).length : Nat) : Int) = _; rw [List.length_map]) k
theorem ok_in : FnOk P w K mg base CX0 4 T.a_Server___contains__ T.d_Server___contains__ ["self", "row"] (spInS K T.C_Server) := by
  have G_is_row := ok_is_row (P := P) (base := base) T
  refine T.D_Server___contains__.fn.ok sc_Server___contains__ (fun vs H Q E h => ?_) (fun cdv A outer s H vs Q E hr h => ?_)
  · obtain ⟨b, v, d, S, rfl, _⟩ := h; rfl
  · obtain ⟨b, v, d, S, rfl, sv, hv, g, k1, k2⟩ := h
    refine ⟨_, (pss_one (ps_ret (pe_and (pe_call (G_is_row) (hr.mono (by omega)) (by rfl) T.D_is_row.mg T.D_is_row.fn.kp T.D_is_row.bd .nil pass0 (pa_cons (pv 1) pa_nil)) (pe_one (pe_cmpR op_in_seq (pe_ix (r := rIx K) ix_seq (pv 1) pe_int (fun _ _ => rfl)) (pe_dget2 (hu_of hr) (pe_fld (pv 0) rfl) (pe_slice sl_tupA (pv 1) po_none (po_some pe_int)) (pe_tup pa_nil) ⟨rfl, rfl, rfl, rfl⟩) (by rfl)))))), ?_⟩
    have x1 : ∀ H1, Same H H1 → ED K (tVar 1) (start ["self", "row"] [.ref b, v]) (nn H) H1 d := fun H1 s1 => ed_var rfl (df_mono s1 (fun _ z => z) (dp_df hv))
    cases hb : isRow d with
    | false => exact s_retB (F := nn H) (ed_andV (b := false) (ed_call (ea_cons (x1 H (Same.refl _)) ea_nil) (rdc_spB (pre := fun d => gd d = true) (f := isRow) g)) fun h => absurd h (by rw [hb]; exact fun z => nomatch z)) (by rw [hb]; rfl) (k1 hb)
    | true =>
      obtain ⟨r, rfl, gr⟩ := row_of hb
      refine s_retB (F := nn H) (ed_andV (ed_call (ea_cons (x1 H (Same.refl _)) ea_nil) (rdc_spB (pre := fun d => gd d = true) (f := isRow) g)) fun _ => ed_inSeq (xs := ansOf S r.1 r.2.1) (ed_ixT (j := 2) (x1 H (Same.refl _)) (ed_int (i := 2)) rfl) (ed_ans (b := b) rfl T.cl_Server T.na_Server__answers sv fun H1 s1 Q q => ?_) (.inl rfl)) ?_ (k2 r rfl gr)
      · obtain ⟨a, rfl, ha⟩ : ∃ a, v = .ref a ∧ SqT K H a (rowV r) := by
          obtain ⟨zs, e1, e2, e3⟩ := rows_at (R := [r]) (.cons hv .nil) fun x hx => (List.mem_singleton.mp hx) ▸ gr
          match zs, e1, e2 with
          | [z], e1, e2 =>
            injection e1 with e1 _
            injection e2 with e2 _
            exact ⟨z.1, e1, e2 ▸ (e3 z List.mem_cons_self).1⟩
        exact ⟨_, rfl, 2, rfl, a, rowV r, rfl, s1.stA ha, fun z => absurd z.2 (by show ¬ (2 : Nat) = 3; decide), fun _ p hp => q p _ (Same.newA hp) upd_same⟩
      · rw [hb, Bool.true_and]
        exact decide_eq_decide.mpr mem_ansOf
/-- what is made of rows -/
theorem made_of {H1 : Hp} {ra : Addr} {dv : PyData} {ds : List PyData} {Q : VK} {E : XK} {R : List Rw} (hv : Dp K H1 (.ref ra) dv) (hd : dv = .list ds ∨ dv = .tuple ds) (e : ds = R.map rowD) (gR : ∀ r ∈ R, goodR r) (len : R.length ≤ 300) {S : List Rw} (srt : Srt R S) (k : ∀ b H', Same H1 H' → ServerAt K T.C_Server b S H' → Q (.ref b) H') :
    ∀ b dx, H1 b = none → H1 dx = none → dx ≠ b → spServer K T.C_Server T.C_BadRow (.ref b :: ([.ref ra] ++ [])) (upd (upd H1 dx (.own b)) b (.ins T.C_Server dx [])) (fun v H2 => v = .non ∧ Q (.ref b) H2) E := by
  intro b dx hb hdx nb
  have s3 : Same H1 (upd (upd H1 dx (.own b)) b (.ins T.C_Server dx [])) := (Same.newA hdx).trans (Same.newA (by rw [upd_ne (Ne.symm nb)]; exact hb))
  refine ⟨b, dx, .ref ra, dv, ds, rfl, upd_same, dp_mono s3 hv, hd, fun x hx => ?_, by rw [e, List.length_map]; exact len, fun x y H' _ ⟨i, hx, _, hf⟩ _ => ?_, fun R' S' H' e2 g2 srt2 b4 sv => ⟨rfl, ?_⟩⟩
  · rw [e] at hx
    obtain ⟨r, hr, rfl⟩ := List.mem_map.mp hx
    exact row_gd (gR r hr)
  · rw [e] at hx
    obtain ⟨r, hr, rfl⟩ := List.mem_map.mp (List.mem_of_getElem? hx)
    rw [isRow_row (gR r hr)] at hf; cases hf
  · have e3 : R' = R := by
      have inj : ∀ a b : List Rw, a.map rowD = b.map rowD → a = b := by
        intro a
        induction a with
        | nil => intro b h; cases b with | nil => rfl | cons x b => cases h
        | cons x a ih =>
          intro b h
          cases b with
          | nil => cases h
          | cons y b =>
            rw [List.map_cons, List.map_cons] at h
            injection h with h1 h2
            rw [rowD_inj h1, ih b h2]
      exact inj _ _ (e2.symm.trans e)
    subst e3
    rw [srt2.uniq srt] at sv
    exact k b H' (fun a o z => b4 a o (ne_of_none z hb) (s3 _ _ z)) sv
theorem ok_or : FnOk P w K mg base (L2.CX P w) 8 T.a_Server___or__ T.d_Server___or__ ["self", "other"] (spOrS K T.C_Server) := by
  have G_Server___init__ := ok_Server_init (P := P) (base := base) T
  refine T.D_Server___or__.fn.okX sc_Server___or__ (fun vs H Q E h => ?_) (fun cdv A outer s H vs Q E hr h => ?_)
  · obtain ⟨b, b2, S, S2, rfl, _⟩ := h; rfl
  · obtain ⟨b, b2, S, S2, rfl, sv, sv2, ln, k⟩ := h
    refine ⟨_, (pss_one (ps_ret (pe_make T.mk_Server (G_Server___init__) (hr.mono (by omega)) (by rfl) T.g_Server T.D_Server___init__.bd .nil (passes_call (takes_of rfl rfl rfl rfl) fun _ _ _ _ z => z) (pa_cons (pe_op op_catA (pe_fld (pv 0) rfl) (pe_fld (pv 1) rfl)) pa_nil)))), ?_⟩
    have ed : ED K (tOp (rCatA K) (tFld K (tVar 0) "rows") (tFld K (tVar 1) "rows")) (start ["self", "other"] [.ref b, .ref b2]) (nn H) H (.tuple (S.map rowD ++ S2.map rowD)) := ed_catT (ed_rows rfl T.cl_Server T.na_Server_rows sv) (ed_rows rfl T.cl_Server T.na_Server_rows sv2) (by rw [List.length_map, List.length_map]; omega)
    refine ret_make (run_edc ed fun v H1 s1 hv => ?_)
    rw [← List.map_append] at hv
    obtain ⟨S', srt⟩ := srt_ex (S ++ S2)
    cases hv with
    | tup hs r => exact made_of T (.tup hs (dfs_dps r)) (.inr rfl) rfl (fun r hr => (List.mem_append.mp hr).elim (sv.gd_ r) (sv2.gd_ r)) (by rw [List.length_append]; exact ln) srt fun b' H' s' sv' => k S' b' H' srt (s1.trans s') sv'
theorem ok_add : FnOk P w K mg base (L2.CX P w) 8 T.a_Server___add__ T.d_Server___add__ ["self", "row"] (spAddS K T.C_Server T.C_BadRow) := by
  have G_Server___init__ := ok_Server_init (P := P) (base := base) T
  refine T.D_Server___add__.fn.okX sc_Server___add__ (fun vs H Q E h => ?_) (fun cdv A outer s H vs Q E hr h => ?_)
  · obtain ⟨b, v, d, S, rfl, _⟩ := h; rfl
  · obtain ⟨b, v, d, S, rfl, sv, ln, hv, g, k1, k2⟩ := h
    refine ⟨_, (pss_one (ps_ret (pe_make T.mk_Server (G_Server___init__) (hr.mono (by omega)) (by rfl) T.g_Server T.D_Server___init__.bd .nil (passes_call (takes_of rfl rfl rfl rfl) fun _ _ _ _ z => z) (pa_cons (pe_op op_catA (pe_fld (pv 0) rfl) (pe_tup (pa_cons (pv 1) pa_nil))) pa_nil)))), ?_⟩
    have ed : ED K (tOp (rCatA K) (tFld K (tVar 0) "rows") (tTup (tCons (tVar 1) tNil))) (start ["self", "row"] [.ref b, v]) (nn H) H (.tuple (S.map rowD ++ [d])) := ed_catT (ed_rows rfl T.cl_Server T.na_Server_rows sv) (ed_tup (ea_cons (ed_var rfl (dp_df hv)) ea_nil) (by show 1 ≤ 100000; decide)) (by rw [List.length_map]; show S.length + 1 ≤ 100000; omega)
    refine ret_make (run_edc ed fun u H1 s1 hu => ?_)
    cases hb : isRow d with
    | true =>
      obtain ⟨r, rfl, gr⟩ := row_of hb
      rw [show S.map rowD ++ [rowD r] = (S ++ [r]).map rowD by rw [List.map_append]; rfl] at hu
      obtain ⟨S', srt⟩ := srt_ex (S ++ [r])
      cases hu with
      | tup hs q => exact made_of T (.tup hs (dfs_dps q)) (.inr rfl) rfl (fun x hx => (List.mem_append.mp hx).elim (sv.gd_ x) fun hx => by rw [List.mem_singleton.mp hx]; exact gr) (by rw [List.length_append]; exact ln) srt fun b' H' s' sv' => k2 r S' b' H' rfl gr srt (s1.trans s') sv'
    | false =>
      have hu2 := df_dp hu
      intro b' dx hb' hdx nb
      have s3 : Same H1 (upd (upd H1 dx (.own b')) b' (.ins T.C_Server dx [])) := (Same.newA hdx).trans (Same.newA (by rw [upd_ne (Ne.symm nb)]; exact hb'))
      refine ⟨b', dx, u, _, _, rfl, upd_same, dp_mono s3 hu2, .inr rfl, fun x hx => ?_, by rw [List.length_append, List.length_map]; show S.length + 1 ≤ 300; omega, fun x y H' s' hx hy => ?_, fun R' S' H' e2 g2 srt2 b4 sv => ?_⟩
      · rcases List.mem_append.mp hx with hx | hx
        · obtain ⟨r, hr, rfl⟩ := List.mem_map.mp hx
          exact row_gd (sv.gd_ r hr)
        · rw [List.mem_singleton.mp hx]; exact g
      · obtain ⟨i, hx, _, hf⟩ := hx
        have : x = d := by
          rcases List.mem_append.mp (List.mem_of_getElem? hx) with hx | hx
          · obtain ⟨r, hr, rfl⟩ := List.mem_map.mp hx
            rw [isRow_row (sv.gd_ r hr)] at hf; cases hf
          · exact List.mem_singleton.mp hx
        subst this
        exact (k1 hb y H' (s1.trans (s3.trans s')) hy)
      · have : d ∈ R'.map rowD := by rw [← e2]; exact List.mem_append_right _ List.mem_cons_self
        obtain ⟨r, hr, rfl⟩ := List.mem_map.mp this
        rw [isRow_row (g2 r hr)] at hb; cases hb
theorem ok_sub : FnOk P w K mg base (L2.CX P w) 8 T.a_Server___sub__ T.d_Server___sub__ ["self", "row"] (spSubS K T.C_Server T.C_BadRow) := by
  have G_Server___init__ := ok_Server_init (P := P) (base := base) T
  have G_is_row := ok_is_row (P := P) (base := base) T
  have G_BadRow___init__ := ok_BadRow_init (P := P) (base := base) (w := w) T
  refine T.D_Server___sub__.fn.okX sc_Server___sub__ (fun vs H Q E h => ?_) (fun cdv A outer s H vs Q E hr h => ?_)
  · obtain ⟨b, v, d, S, rfl, _⟩ := h; rfl
  · obtain ⟨b, v, d, S, rfl, sv, hv, g, k1, k2⟩ := h
    refine ⟨_, (pss_cons (ps_if (pt_not (pt_val (pe_call (G_is_row) (hr.mono (by omega)) (by rfl) T.D_is_row.mg T.D_is_row.fn.kp T.D_is_row.bd .nil pass0 (pa_cons (pv 1) pa_nil)))) (pss_one (ps_raise rfl (takes_of rfl rfl rfl rfl) (pmk_oex T.ox_BadRow T.ic_BadRow T.ti_BadRow (G_BadRow___init__) (hr.mono (by omega)) T.D_BadRow___init__.bd .nil pass0 (by rfl) T.g_BadRow (pa_cons pe_str (pa_cons (pv 1) pa_nil))))) pss_nil)
      (pss_one (ps_ret (pe_make T.mk_Server (G_Server___init__) (hr.mono (by omega)) (by rfl) T.g_Server T.D_Server___init__.bd .nil (passes_call (takes_of rfl rfl rfl rfl) fun _ _ _ _ z => z) (pa_cons (pe_callTy call_tuple_of (by rfl) T.b_tuple bt_tuple (pa_cons (pe_lc (own := [("one", 2)]) rfl sc_Server___sub__.nd (pi_tup (pe_fld (pv 0) rfl)) (blkOk_by (own := [("one", 2)]) (N := ["self", "row", "one"]) (sc := defScope s_Server___sub__) (by decide +kernel)) (fun _ _ _ _ _ => (pg_name (i := 2) sc_Server___sub__.nd rfl (by first | exact Or.inl rfl | exact Or.inr rfl))) (fun _ _ _ _ _ => (pts_one (pt_cmpR (r := rNeD K) (op_neD hr.units) (pv 2) (pv 1) (nomark _)))) (fun _ _ _ _ _ => (pv 2))) pa_nil)) pa_nil))))), ?_⟩
    refine s_if (b := !isRow d) (et_not (et_B (ed_call (ea_cons (ed_var (i := 1) (F := nn H) rfl (dp_df hv)) ea_nil) (rdc_spB (pre := fun d => gd d = true) g)))) (fun hb H1 s1 => raise2 rfl (k1 (by simpa using hb) v H1 s1 (dp_mono s1 hv))) (fun hb H1 s1 => ?_)
    dsimp only [tNext]
    obtain ⟨r, rfl, gr⟩ := row_of (show isRow d = true by simpa using hb)
    have ed : ED K (tLc (iTup K (tFld K (tVar 0) "rows")) (gName 2) (tTest (tOp (rNeD K) (tVar 2) (tVar 1))) (tVar 2) [2]) (start ["self", "row", "one"] [.ref b, v]) (nn H1) H1 (.list ((S.filter fun s => !decide (s = r)).map rowD)) := by
      refine ed_is (ed_lc (f := fun d => !PyData.eqv d (rowD r)) (m := fun d => d) (ei_tup (ed_rows rfl T.cl_Server T.na_Server_rows (sv.same s1))) (by rw [List.length_map]; have := sv.len_; omega) fun F2 H2 e2 v2 d2 hm hd2 => ⟨_, fun Q q => q, rfl, et_test (ed_neD (ed_var (i := 2) rfl hd2) (ed_var (i := 1) rfl (df_ext e2 (dp_df (dp_mono s1 hv)))) ?_ (row_shaped gr)), fun _ => ed_var (i := 2) rfl hd2⟩) ?_
      · obtain ⟨x, hx, rfl⟩ := List.mem_map.mp hm
        exact row_shaped (sv.gd_ x hx)
      · rw [List.map_id', List.filter_map]
        refine congrArg (fun l => PyData.list (List.map rowD l)) (List.filter_congr fun x _ => ?_)
        show (!PyData.eqv (rowD x) (rowD r)) = _
        rw [eqv_row]
    refine ret_make (run_tupl ed fun a H2 s2 ha => ?_)
    exact made_of T ha (.inr rfl) rfl (fun x hx => sv.gd_ x (List.mem_filter.mp hx).1) (by have := sv.len_; have := List.length_filter_le (fun s => !decide (s = r)) S; omega) (Srt.self (sv.up.filter _)) fun b' H' s' sv' => k2 r b' H' rfl gr (s1.trans (s2.trans s')) sv'
end
end Ag

set_option Elab.async false
set_option linter.all false
set_option maxRecDepth 100000
set_option maxHeartbeats 2000000
/-! A lambda without parameters, handed to a def that calls it in a try: what is let out is told of the very state of that def. -/
namespace Ag
open PySem PySem.Spec PyProof.Rows L2 LamX
section
variable {X : Cx} {pins : List (Addr × Obj)} {σ : L2.St} {H : Hp} {s : Shared}
/-- the surroundings of the def that got the lambda, entered at s -/
abbrev toldCx (X : Cx) (Ng : List Str) (x : Str) (sg : Scope) (g : Addr) (cdg : Value) (s : Shared) (H : Hp) : Cx := cxOf C8.CX0 X.prog X.w X.K X.mg X.base Ng x sg g cdg X.A X.stack s H C8.E0
theorem act_at {Ng : List Str} {x : Str} {sg : Scope} {g f c' : Addr} {cdg pm ctv : Value} {ps : Arguments} {b : Expr} {sc : Scope} {k i : Nat} {a : Str} {pn : List (Addr × Obj)} {xe : Value → Shared → Prop} {W : WX} {E : XK} {tb : TE} {p1 p2 : Pos}
    (I : Inv X pins σ H s) (L : LamS X.env.scope sc) (obj : s.heap.get? f = some (PySem.W.kla_obj "<lambda>" (X.env.qual ++ "<lambda>") ps b sc (cloFrom X.env.cells sc.names []) pm c' ctv)) (fn : H f = none) (nfr : f ∉ frs X.stack)
    (bnd : bindArgs (PySem.W.kla_fn "<lambda>" (X.env.qual ++ "<lambda>") ps b sc (cloFrom X.env.cells sc.names []) pm (.ref c') ctv) ⟨[], []⟩ = pure [])
    (tk : Takes ((toldCx X Ng x sg g cdg s H).tr pn xe) W) (room : Room (k + 1) (X.A.deeper (envOfC x sg s.heap.objs.size g cdg)))
    (bd : ∀ (A : Around) (outer : List Env) (s : Shared) (H : Hp), Room k (A.deeper (lamEnv X sc s.heap.objs.size f c')) → PE (lamCx X A outer s H E sc f c') b tb)
    (nm : Ng[i]? = some a) (vis : Vis sg a) (nd : (a == ("__debug__" : Str)) = false) (nc : (a == ("__classdict__" : Str)) = false) :
    PE ((toldCx X Ng x sg g cdg s H).tr pn xe) (.Call (.Name a p1) [] [] p2)
      (fun τ G Q => τ[i]? = some (some (.ref f)) ∧ G c' = some (CodeO c' (X.env.qual ++ "<lambda>")) ∧ (∀ cls d G', E cls d G' → W cls d τ G') ∧ tb σ G Q) := by
  refine ⟨fun qs s0 τ G Q J ⟨at_, code, out, go⟩ => wpAny_Call_Name_kw (thn ((pe_var (pos := p1) (i := i) nm vis nd nc).run qs s0 τ G (fun v G1 => v = .ref f ∧ G1 = G) J ⟨.ref f, at_, rfl, rfl⟩) fun u s1 hu => ?_)⟩
  obtain ⟨v, G1, J1, rv, rfl, rfl⟩ := hu
  cases rv
  have there := J1.base.keep f _ obj fn nfr (List.not_mem_nil)
  refine PySem.W.callWith_F0 ⟨_, _, _, _, there⟩ (wpAny_call (codeAny_mono (R := CR (L2.CX X.prog X.w) (envOfC x sg s.heap.objs.size g cdg :: X.stack) X.prog X.w G1 s1 Q E) ?_ fun r s2 hr => ?_))
  · show codeAny (model X.prog X.w) (X.A.deeper (envOfC x sg s.heap.objs.size g cdg)) (.call (.ref f) ⟨[], []⟩) _ s1
    obtain ⟨⟨oc, vs, t, h1, h2, h3⟩, _, _⟩ := J1.hok c' _ code
    refine PySem.W.kla_callFunE room.depth there rfl L.co L.gen rfl ⟨c', oc, vs, t, rfl, h1, h2, h3⟩ ?_
    rw [bnd]
    refine wpAny_pure (wpAny_newFunctionEnv (fun y hy => (L.own y hy).2) (fun y hy => absurd hy (List.not_mem_nil)) (fun hp ns sb => ⟨J1.nolimit.fresh _ sb, ?_⟩) L.kind)
    have kp : ∀ c o, s1.heap.get? c = some o → hp.get? c = some o := fun c o e => sb.extBut c o (Nat.ne_of_lt (Heap.lt_size e)) (Heap.get?_push_of_some _ e)
    have start := lam_start2 (E := E) (tk := s1.toks + ([] : List (Str × Value)).length) (f := f) (c' := c') I L J1.env0 room.hd J1.base ns kp
    refine PySem.W.kla_codeExpr (wpAny_mono ((bd _ _ s1 G1 (room.deeper _)).run [] _ _ G1 Q start go) (fun v s' hv => ?_) fun _ _ z => z)
    obtain ⟨y, G2, J2, ry, q⟩ := hv
    exact ⟨y, G2, J2.os, J2.bare, J2.base, J2.hok, ry, q⟩
  · cases r with
    | error e => exact tk e s2 (XE.of_call J1 out hr)
    | ok fl =>
      cases fl with
      | ret u => exact J1.after hr
      | _ => exact False.elim hr
/-- the def that calls in a try what it got -/
def GivesAt (X : Cx) (Ng : List Str) (x : Str) (sg : Scope) (g : Addr) (cdg : Value) (bg : List Stmt) (a : Str) (q : Str) (TT : (XK → Hp → VK → Prop) → Hp → VK → Prop) : Prop :=
  ∀ (f c' : Addr) (s : Shared) (H : Hp) (Q : VK) (tl : XK → Hp → VK → Prop),
    (∀ (W : WX) (pn : List (Addr × Obj)) (xe : Value → Shared → Prop) (E : XK) (p1 p2 : Pos), Takes ((toldCx X Ng x sg g cdg s H).tr pn xe) W →
      PE ((toldCx X Ng x sg g cdg s H).tr pn xe) (.Call (.Name a p1) [] [] p2) (fun τ G R => τ[0]? = some (some (.ref f)) ∧ G c' = some (CodeO c' q) ∧ (∀ cls d G', E cls d G' → W cls d τ G') ∧ tl E G R)) →
    H c' = some (CodeO c' q) → TT tl H Q → ∃ t, PSs (toldCx X Ng x sg g cdg s H).nox bg t ∧ t { nx := fun _ G => Q .non G, rt := Q } (L2.start Ng [.ref f]) H
/-- x(lambda: body) -/
theorem pe_lamat {T : List (Addr × Str)} {TT : (XK → Hp → VK → Prop) → Hp → VK → Prop} {x a : Str} {g c P : Addr} {k : Nat} {pg : Arguments} {bg : List Stmt} {sg : Scope} {dV kV doc pm cdv ct oc : Value} {an od : Option Addr} {osl : Array (Option Value)} {Ng : List Str}
    {ps : Arguments} {b : Expr} {sc : Scope} {t : XK → TE} {p lp pos : Pos} (gl : Gl X x) (mg : X.mg x = some (.ref g)) (kp : PySem.W.keepIn X.K (.ref g) = true)
    (lk : X.K.lookup g = some ⟨oc, od, .func (PySem.W.fnOf x x pg bg sg dV kV doc pm an cdv ct), osl⟩) (cg : PySem.W.codeIn X.K cdv x = true) (bi : L2.Binds X.K (PySem.W.fnOf x x pg bg sg dV kV doc pm an cdv ct) [a] []) (S : FnScope Ng [a] sg) (nm : Ng[0]? = some a) (vis : Vis sg a)
    (G : GivesAt X Ng x sg g cdv bg a (X.env.qual ++ "<lambda>") TT)
    (TB : TabB X.base X.mg c P) (code : X.env.code = .ref c) (inT : (P, X.env.qual ++ "<lambda>") ∈ T) (one : ∀ p ∈ T, p.1 = P → p.2 = X.env.qual ++ "<lambda>") (room : Room (k + 2) X.A) (L : LamS X.env.scope sc) (dfl : defaultsOf ps X.env = ([], []))
    (bnd : ∀ (q : Str) (cl : List (Str × Addr)) (pm cv ctv : Value), bindArgs (PySem.W.kla_fn "<lambda>" q ps b sc cl pm cv ctv) ⟨[], []⟩ = pure [])
    (bd : ∀ (A : Around) (outer : List Env) (s : Shared) (H : Hp) (E : XK) (f c' : Addr), Room k (A.deeper (lamEnv X sc s.heap.objs.size f c')) → PE (lamCx X A outer s H E sc f c') b (t E))
    (nx : (x == ("__debug__" : Str)) = false := by decide) (nd : (a == ("__debug__" : Str)) = false := by decide) (nc : (a == ("__classdict__" : Str)) = false := by decide) :
    PE X (.Call (.Name x p) [.Lambda ps b sc lp] [] pos) (tLam T TT t) := by
  refine ⟨fun pins s σ H Q I ⟨hT, h⟩ => wpAny_Call_Name_kw (ld_glob I gl mg (PySem.W.callWith_K (h₀ := X.base) I.ok.mod.kin kp ?_ (by rfl) (by rfl)) nx)⟩
  show wpAny _ _ (spliced ((false, eval (.Lambda ps b sc lp) X.env) :: backTo pos (starEach [] X.env))) _ _ s
  refine Calls.spliced_cons (lam_make2 I TB code inT one hT dfl (L.has I.ok) fun f c' pm' ctv H1 s' I1 eN T1 obj fn nfr co => Calls.spliced_nil ⟨I1.kIn, wpAny_call (codeAny_mono (R := CR C8.CX0 X.stack X.prog X.w H1 s' Q C8.E0) ?_ fun r s2 hr => ?_)⟩)
  · refine run_ofS (N := Ng) (ps := [a]) (us := [.ref f]) (vs := [.ref f]) lk cg S room I1.env0 (bi s' [.ref f] I1.kIn rfl) (.cons rfl .nil) rfl fun room2 => ?_
    obtain ⟨tt, h1, h2⟩ := G f c' s' H1 Q (fun E G R => t E σ G R) (fun W pn xe E p1 p2 tk => act_at (i := 0) I1 L obj fn nfr (bnd _ _ _ _ _) tk room2 (fun A outer s H room3 => bd A outer s H E f c' room3) nm vis nd nc) co (h H1 eN T1)
    exact ⟨tt, h1.nox, h2⟩
  · cases r with
    | error e => exact (show False from hr).elim
    | ok fl =>
      cases fl with
      | ret u => exact I1.after hr
      | _ => exact False.elim hr
end
end Ag

set_option Elab.async false
set_option linter.all false
set_option maxRecDepth 100000
set_option maxHeartbeats 1000000
set_option pp.maxSteps 600
namespace Ag
open PySem PySem.Spec PyProof.Rows L2 LamX
theorem xr_what : (("what" : Str) == ("row" : Str)) = false := by decide +kernel
theorem xd_row {l s : V} : ([("row", s), ("what", l)] : List (Str × V)).lookup ("row" : Str) = some s := rfl
theorem xd_what {l s : V} : ([("row", s), ("what", l)] : List (Str × V)).lookup ("what" : Str) = some l := by
  rw [List.lookup_cons, xr_what]; rfl
def Shown (d : PyData) : Prop := d.showable = true ∧ d.depth ≤ 50 ∧ d.shown.length ≤ sizeLine
/-- what is caught: a pair of its words -/
def eTold (K : PySem.W.Frag) (B : Addr) (H : Hp) (l : Addr) (Q : VK) : XK := fun cls d H' => ∃ (y : V) (w : Str) (dd : PyData) (dx : Addr), d = some dx ∧ Same (upd H l (.lst [])) H' ∧ Dx K H' y dd ∧ Shown dd ∧ cls = .ref B ∧ H' dx = some (.xd [("row", y), ("what", .str w)]) ∧
  ∀ p H3, Same H H3 → H3 p = some (.tup [.str w, .str dd.shown]) → Q (.ref p) H3
def TTold (K : PySem.W.Frag) (B : Addr) : (XK → Hp → VK → Prop) → Hp → VK → Prop := fun tl H Q => ∀ l, H l = none → tl (eTold K B H l Q) (upd H l (.lst [])) fun _ _ => False
theorem exm_of {K : PySem.W.Frag} {C : Addr} {b : Bool} {cls : Value} (x : XfC K C) (o : OexC K C) (s : PySem.W.subIn K cls (.ref C) = some b) : PySem.W.exmOne K cls (.ref C) = some b := PySem.W.exm_ref x.exC x.hdC o.tyC s
theorem told_gives {X : Cx} (T : Txt X.w X.K X.mg) {g : Addr} {cdg : Value} {q : Str} (hgd : X.A.guards = some []) (hun : X.A.units + 400 < cLine) :
    GivesAt X ["call", "found", "error"] "_law_told" (defScope s_law_told) g cdg (defBody s_law_told) "call" q (TTold X.K T.C_BadRow) := by
  intro f c' s H Q tl act hc h
  refine ⟨_, pss_cons (ps_set (i := 1) sc_law_told.nd rfl (.inl rfl) (pe_lst pa_nil)) (pss_cons (ps_try_named
    (l := [⟨.ref T.C_BadRow, 2, fun a c d => tDrop (tBM X.K "list" rAppend (tVar 1) (tCons (tTup (tCons (tXf a c d T.C_BadRow "what" (tVar 2)) (tCons (tCB (rRepr X.K) (tCons (tXf a c d T.C_BadRow "row" (tVar 2)) tNil)) tNil))) tNil))⟩])
    (tb := fun W D σ H => ∃ Ech : XK, (∀ cls d H', Ech cls d H' → W cls d σ H') ∧ σ[0]? = some (some (.ref f)) ∧ H c' = some (CodeO c' q) ∧ tl Ech H (fun _ _ => False))
    rfl rfl sc_law_told.nd LamX.takes0 (fun W pn xe tk _ => ?body)
    (.cons ⟨by rfl, by decide, .inl T.g_BadRow⟩ rfl rfl (fun a oe c d pn hz hf => ?suite) .nil)) (pss_one (ps_ret (pe_ix (r := rIx X.K) ix_seq (pv 1) pe_int (fun _ _ => rfl))))), ?_⟩
  case body =>
    refine ⟨fun pins s' σ H' D I h' => ?_⟩
    obtain ⟨Ech, hW, h1, h2, h3⟩ := h'
    exact (pss_cons (ps_expr (act W pn xe Ech _ _ tk)) pss_never).run pins s' σ H' D I ⟨h1, h2, hW, h3⟩
  case suite => exact pss_one (ps_expr (pe_bm PySem.F.plainAttrs_list PySem.F.slot_list_append PySem.F.type_list_append mt_append (pv 1) (pa_cons (pe_tup (pa_cons (pe_xf (X := (cxOf C8.CX0 X.prog X.w X.K X.mg X.base ["call", "found", "error"] "_law_told" (defScope s_law_told) g cdg X.A X.stack s H C8.E0).nox) T.xf_BadRow T.na_BadRow_what hz hf (pv 2)) (pa_cons (pe_callB (r := rRepr X.K) (cr_repr (X := (cxOf C8.CX0 X.prog X.w X.K X.mg X.base ["call", "found", "error"] "_law_told" (defScope s_law_told) g cdg X.A X.stack s H C8.E0).nox.suite a ((a, oe) :: pn)) hgd (by show X.A.units + 3 + 64 < cLine; omega)) (by rfl) T.b_repr bt_repr (pa_cons (pe_xf (X := (cxOf C8.CX0 X.prog X.w X.K X.mg X.base ["call", "found", "error"] "_law_told" (defScope s_law_told) g cdg X.A X.stack s H C8.E0).nox) T.xf_BadRow T.na_BadRow_row hz hf (pv 2)) pa_nil)) pa_nil))) pa_nil)))
  · refine ⟨(by show 0 ≤ sizeLine; decide), fun l hl => ⟨eTold X.K T.C_BadRow H l Q, fun cls d H' he => ?_, rfl, (Same.newA hl) _ _ hc, h l hl⟩⟩
    obtain ⟨y, w, dd, dx, rfl, s1, hy, ⟨h1, h2, h3⟩, rfl, hdx, k⟩ := he
    have el := s1 _ _ (upd_same (H := H) (a := l) (o := .lst []))
    refine ⟨true, exm_of T.xf_BadRow T.ox_BadRow T.sb_BadRow, fun _ hl2 a ha => ?_, fun h => (nomatch h)⟩
    refine ⟨_, rfl, .inl ⟨rfl, _, SqL.of el⟩, _, rfl, rfl, rfl, dx, _, _, rfl, hdx, xd_what, _, rfl, rfl, rfl, dx, _, _, rfl, hdx, xd_row, _, dd, rfl, hy, h1, h2, h3, (by show 2 ≤ sizeLine; decide), fun p hp => ?_⟩
    have s2 := Same.newA (o := .tup [.str w, .str dd.shown]) hp
    refine ⟨l, [], .ref p, rfl, rfl, s2 _ _ el, (by show 0 < sizeLine; decide), ?_⟩
    have npl : p ≠ l := fun e => by rw [e] at hp; rw [hp] at el; cases el
    refine ⟨_, rfl, .inl ⟨l, [.ref p], 0, .ref p, rfl, rfl, SqL.of upd_same, rfl, k p _ (fun b o e => ?_) ?_⟩⟩
    · have nb := ne_of_none e hl
      rw [upd_ne nb]
      exact s2 _ _ (s1 _ _ ((Same.newA hl) _ _ e))
    · rw [upd_ne npl]; exact upd_same
end Ag

set_option Elab.async false
set_option linter.all false
set_option maxRecDepth 100000
set_option maxHeartbeats 1000000
set_option pp.maxSteps 400
namespace Ag
open PySem PySem.Spec PyProof.Rows L2
/-! ### _law_same of equal data -/
def smB : Nat → PyData → Bool
  | 0, _ => false
  | n + 1, .tuple ds => decide (ds.length ≤ 40000) && ds.all (smB n)
  | _ + 1, .none => true
  | _ + 1, .bool _ => true
  | _ + 1, .int _ => true
  | _ + 1, .str x => x.cps.all (· < 0x110000)
  | _ + 1, _ => false
def spSame (n : Nat) (K : PySem.W.Frag) : Sp := fun vs H Q _ => ∃ x y d, vs = [x, y] ∧ Dp K H x d ∧ Dp K H y d ∧ smB n d = true ∧ ∀ H', Same H H' → Q (.bl true) H'
theorem zip_same : ∀ (ds : List PyData), zipD ds ds = ds.map fun d => .tuple [d, d]
  | [] => rfl
  | d :: ds => by
    show PyData.tuple [d, d] :: zipD ds ds = _
    rw [zip_same ds]; rfl
theorem eqv_int (a b : Int) : PyData.eqv (.int a) (.int b) = decide (a = b) := by
  simp only [PyData.eqv]; by_cases e : a = b <;> simp [e]
theorem eqv_str (a b : Str) : PyData.eqv (.str a) (.str b) = decide (a = b) := by
  simp only [PyData.eqv]; by_cases e : a = b
  · subst e; simp
  · rw [decide_eq_false e]; exact beq_eq_false_iff_ne.mpr e
theorem int_shaped (z : Int) : SeqAt.shaped (.int z) = true := by simp [SeqAt.shaped, PyData.canLay0, PyData.depth]
theorem str_shaped {x : Str} (h : x.cps.all (· < 0x110000) = true) : SeqAt.shaped (.str x) = true := by
  unfold SeqAt.shaped
  simp only [PyData.canLay0, PyData.depth]
  rw [show PyData.strOk x = true from h]; rfl
section
variable {P : Program} {w : World} {K : PySem.W.Frag} {mg : Str → Option Value} {base : Heap} (T : Txt w K mg)
theorem ok_same : ∀ n : Nat, FnOk P w K mg base CX0 (n + 1) T.a_law_same T.d_law_same ["told", "due"] (spSame n K)
  | 0 => T.D_law_same.fn.ok sc_law_same (fun vs H Q E ⟨x, y, d, e, _⟩ => by rw [e]; rfl) (fun cdv A outer s H vs Q E hr ⟨x, y, d, _, _, _, h, _⟩ => by cases h)
  | n + 1 => by
    have G_law_same := ok_same n
    refine T.D_law_same.fn.ok sc_law_same (fun vs H Q E h => ?_) (fun cdv A outer s H vs Q E hr h => ?_)
    · obtain ⟨x, y, d, rfl, _⟩ := h; rfl
    · obtain ⟨x, y, d, rfl, hx, hy, hd, k⟩ := h
      refine ⟨_, (pss_cons (ps_if (pt_val (pe_callB call_isi (by rfl) T.b_isinstance bt_isinstance (pa_cons (pv 1) (pa_cons (pe_bltn (v := .ty "tuple") (by rfl) T.b_tuple bt_tuple rfl) pa_nil)))) (pss_one (ps_ret (pe_and (pe_callB call_isi (by rfl) T.b_isinstance bt_isinstance (pa_cons (pv 0) (pa_cons (pe_bltn (v := .ty "tuple") (by rfl) T.b_tuple bt_tuple rfl) pa_nil))) (pe_and (pe_cmpR op_eq (pe_callB call_len (by rfl) T.b_len bt_len (pa_cons (pv 0) pa_nil)) (pe_callB call_len (by rfl) T.b_len bt_len (pa_cons (pv 1) pa_nil)) (nomark _)) (pe_one (pe_callB (cr_all rfl) (by rfl) T.b_all bt_all (pa_cons (pe_lc (own := [("one", 2), ("two", 3)]) (g := (gTup K 2 (gCons (gName 2) (gCons (gName 3) gNil)))) rfl sc_law_same.nd (RZ.pi_zipA (by rfl) T.b_zip (pa_cons (pv 0) (pa_cons (pv 1) pa_nil))) (blkOk_by (own := [("one", 2), ("two", 3)]) (N := ["told", "due", "one", "two"]) (sc := defScope s_law_same) (by decide +kernel)) (fun _ _ _ _ _ => (pg_tup rfl (pgs_cons (pg_name (i := 2) sc_law_same.nd rfl (by first | exact Or.inl rfl | exact Or.inr rfl)) (pgs_cons (pg_name (i := 3) sc_law_same.nd rfl (by first | exact Or.inl rfl | exact Or.inr rfl)) pgs_nil)))) (fun _ _ _ _ _ => pts_nil) (fun _ _ _ _ _ => (pe_call (G_law_same) (hr.mono (by omega)) (by rfl) T.D_law_same.mg T.D_law_same.fn.kp T.D_law_same.bd .nil pass0 (pa_cons (pv 2) (pa_cons (pv 3) pa_nil))))) pa_nil))))))) pss_nil)
      (pss_cons (ps_if (pt_cmpR op_isN (pv 1) pe_non (nomark _)) (pss_one (ps_ret (pe_cmpR op_isN (pv 0) pe_non (nomark _)))) pss_nil)
      (pss_cons (ps_if (pt_cmpR op_isB (pv 1) pe_bl (nomark _)) (pss_one (ps_ret (pe_cmpR op_isB (pv 0) pe_bl (nomark _)))) pss_nil)
      (pss_cons (ps_if (pt_cmpR op_isB (pv 1) pe_bl (nomark _)) (pss_one (ps_ret (pe_cmpR op_isB (pv 0) pe_bl (nomark _)))) pss_nil)
      (pss_cons (ps_if (pt_val (pe_callB call_isi (by rfl) T.b_isinstance bt_isinstance (pa_cons (pv 1) (pa_cons (pe_bltn (v := .ty "int") (by rfl) T.b_int bt_int rfl) pa_nil)))) (pss_one (ps_ret (pe_and (pe_callB call_isi (by rfl) T.b_isinstance bt_isinstance (pa_cons (pv 0) (pa_cons (pe_bltn (v := .ty "int") (by rfl) T.b_int bt_int rfl) pa_nil))) (pe_and (pe_not (pe_callB call_isi (by rfl) T.b_isinstance bt_isinstance (pa_cons (pv 0) (pa_cons (pe_bltn (v := .ty "bool") (by rfl) T.b_bool bt_bool rfl) pa_nil)))) (pe_one (pe_cmpR (op_eqD hr.units) (pv 0) (pv 1) (nomark _))))))) pss_nil)
      (pss_one (ps_ret (pe_and (pe_callB call_isi (by rfl) T.b_isinstance bt_isinstance (pa_cons (pv 0) (pa_cons (pe_bltn (v := .ty "str") (by rfl) T.b_str bt_str rfl) pa_nil))) (pe_one (pe_cmpR (op_eqD hr.units) (pv 0) (pv 1) (nomark _))))))))))), ?_⟩
      have h0 : ∀ H1, Same H H1 → ED K (tVar 0) (start ["told", "due", "one", "two"] [x, y]) (nn H) H1 d := fun H1 s1 => ed_var rfl (df_mono s1 (fun _ z => z) (dp_df hx))
      have h1 : ∀ H1, Same H H1 → ED K (tVar 1) (start ["told", "due", "one", "two"] [x, y]) (nn H) H1 d := fun H1 s1 => ed_var rfl (df_mono s1 (fun _ z => z) (dp_df hy))
      cases d with
      | tuple ds =>
        obtain ⟨hl, ha⟩ := Bool.and_eq_true_iff.mp (show (decide (ds.length ≤ 40000) && ds.all (smB n)) = true from hd)
        have hl := of_decide_eq_true hl
        refine s_if (b := true) (et_B (ed_isi (T := "tuple") (h1 H (Same.refl _)) (.inr (.inl rfl)))) (fun _ H1 s1 => ?_) fun h => nomatch h
        refine s_retB (F := nn H) (ed_andV (ed_isi (T := "tuple") (h0 H1 s1) (.inr (.inl rfl))) fun _ => ed_andV (ed_eqI (ed_len (h0 H1 s1) rfl) (ed_len (h1 H1 s1) rfl)) fun _ => ed_all (bs := ds.map fun _ => true) (ed_is (ed_lc (f := fun _ => true) (m := fun _ => .bool true) (ei_zip (ea_cons (h0 H1 s1) (ea_cons (h1 H1 s1) ea_nil))) ?_ fun F2 H2 e2 v2 d2 hd2 hv2 => ?_) ?_)) ?_ fun H2 s2 => k H2 (s1.trans s2)
        · rw [zip_same, List.length_map]; omega
        · rw [zip_same] at hd2
          obtain ⟨d, hdm, rfl⟩ := List.mem_map.mp hd2
          cases hv2 with
          | tup hts r =>
            cases r with
            | cons r1 r =>
              cases r with
              | cons r2 r =>
                cases r
                refine ⟨_, fun Q q => ⟨_, _, rfl, hts, rfl, _, _, rfl, _, _, rfl, rfl, q⟩, rfl, et_yes, fun _ => ed_call (ea_cons (ed_var rfl r1) (ea_cons (ed_var rfl r2) ea_nil)) ?_⟩
                intro F3 vs3 H3 hv3 Q3 q3
                cases hv3 with
                | cons a b =>
                  cases b with
                  | cons b c => cases c; exact ⟨_, _, d, rfl, df_dp a, df_dp b, List.all_eq_true.mp ha d hdm, fun H4 s4 => q3 _ H4 s4 (.bl _)⟩
        · rw [filt_tt, zip_same, List.map_map, List.map_map]; rfl
        · rw [decide_eq_true rfl]
          show (true && (true && (ds.map fun _ => true).all id)) = true
          simp
      | none =>
        refine s_if (b := false) (et_B (ed_isi (T := "tuple") (h1 H (Same.refl _)) (.inr (.inl rfl)))) (fun h => nomatch h) fun _ H1 s1 => ?_
        refine s_if (b := true) (et_test (ed_isN (h1 H1 s1))) (fun _ H2 s2 => ?_) fun h => nomatch h
        exact s_retB (F := nn H) (ed_isN (h0 H2 (s1.trans s2))) rfl fun H3 s3 => k H3 ((s1.trans s2).trans s3)
      | bool b =>
        refine s_if (b := false) (et_B (ed_isi (T := "tuple") (h1 H (Same.refl _)) (.inr (.inl rfl)))) (fun h => nomatch h) fun _ H1 s1 => ?_
        refine s_if (b := false) (et_test (ed_isN (h1 H1 s1))) (fun h => nomatch h) fun _ H2 s2 => ?_
        have s12 := s1.trans s2
        refine s_if (et_test (ed_isB (h1 H2 s12))) (fun h H3 s3 => ?_) fun h H3 s3 => ?_
        · have s13 := s12.trans s3
          exact s_retB (ed_isB (h0 H3 s13)) h fun H4 s4 => k H4 (s13.trans s4)
        · have s13 := s12.trans s3
          refine s_if (et_test (ed_isB (h1 H3 s13))) (fun h2 H4 s4 => ?_) fun h2 H4 s4 => ?_
          · exact s_retB (ed_isB (h0 H4 (s13.trans s4))) h2 fun H5 s5 => k H5 ((s13.trans s4).trans s5)
          · cases b
            · cases h2
            · cases h
      | int z =>
        refine s_if (b := false) (et_B (ed_isi (T := "tuple") (h1 H (Same.refl _)) (.inr (.inl rfl)))) (fun h => nomatch h) fun _ H1 s1 => ?_
        refine s_if (b := false) (et_test (ed_isN (h1 H1 s1))) (fun h => nomatch h) fun _ H2 s2 => ?_
        have s12 := s1.trans s2
        refine s_if (b := false) (et_test (ed_isB (h1 H2 s12))) (fun h => nomatch h) fun h H3 s3 => ?_
        have s13 := s12.trans s3
        refine s_if (b := false) (et_test (ed_isB (h1 H3 s13))) (fun h => nomatch h) fun h H4 s4 => ?_
        have s14 := s13.trans s4
        refine s_if (b := true) (et_B (ed_isi (T := "int") (h1 H4 s14) (.inr (.inr (.inr (.inl rfl)))))) (fun h H5 s5 => ?_) fun h => nomatch h
        have s15 := s14.trans s5
        exact s_retB (ed_andV (ed_isi (T := "int") (h0 H5 s15) (.inr (.inr (.inr (.inl rfl))))) fun _ => ed_andV (ed_notV (ed_isi (T := "bool") (h0 H5 s15) (.inr (.inr (.inr (.inr rfl)))))) fun _ => ed_eqD (h0 H5 s15) (h1 H5 s15) (int_shaped z) (int_shaped z)) (by rw [eqv_int, decide_eq_true rfl]; rfl) fun H6 s6 => k H6 (s15.trans s6)
      | str z =>
        have sd := str_shaped (show z.cps.all (· < 0x110000) = true from hd)
        refine s_if (b := false) (et_B (ed_isi (T := "tuple") (h1 H (Same.refl _)) (.inr (.inl rfl)))) (fun h => nomatch h) fun _ H1 s1 => ?_
        refine s_if (b := false) (et_test (ed_isN (h1 H1 s1))) (fun h => nomatch h) fun _ H2 s2 => ?_
        have s12 := s1.trans s2
        refine s_if (b := false) (et_test (ed_isB (h1 H2 s12))) (fun h => nomatch h) fun h H3 s3 => ?_
        have s13 := s12.trans s3
        refine s_if (b := false) (et_test (ed_isB (h1 H3 s13))) (fun h => nomatch h) fun h H4 s4 => ?_
        have s14 := s13.trans s4
        refine s_if (b := false) (et_B (ed_isi (T := "int") (h1 H4 s14) (.inr (.inr (.inr (.inl rfl)))))) (fun h => nomatch h) fun h H5 s5 => ?_
        have s15 := s14.trans s5
        exact s_retB (ed_andV (ed_isi (T := "str") (h0 H5 s15) (.inl rfl)) fun _ => ed_eqD (h0 H5 s15) (h1 H5 s15) sd sd) (by rw [eqv_str, decide_eq_true rfl]; rfl) fun H6 s6 => k H6 (s15.trans s6)
      | _ => cases hd
end
theorem rdc_same {K : PySem.W.Frag} {E : XK} {n : Nat} {d : PyData} (h : smB n d = true) : RDC K (fun vs H Q => spSame n K vs H Q E) [d, d] (.bool true) := fun F vs H1 hv Q q => by
  cases hv with
  | cons a b =>
    cases b with
    | cons b c => cases c; exact ⟨_, _, d, rfl, df_dp a, df_dp b, h, fun H' s => q _ H' s (.bl _)⟩
theorem sm_name {x : Str} (h : nameB x = true) (n : Nat) : smB (n + 1) (.str x) = true := by
  have := name_gd h
  simp only [gd, Bool.and_eq_true] at this
  exact this.1
theorem sm_row {r : Rw} (g : goodR r) (n : Nat) : smB (n + 2) (rowD r) = true := by
  show (decide (3 ≤ 40000) && [PyData.str r.1, .str r.2.1, .str r.2.2].all (smB (n + 1))) = true
  simp [sm_name g.1, sm_name g.2.1, sm_name g.2.2]
theorem sm_rows {S : List Rw} (g : ∀ r ∈ S, goodR r) (l : S.length < 301) : smB 3 (rowsD S) = true := by
  show (decide ((S.map rowD).length ≤ 40000) && (S.map rowD).all (smB 2)) = true
  rw [List.length_map, decide_eq_true (by omega), Bool.true_and, List.all_eq_true]
  intro d hd
  obtain ⟨r, hr, rfl⟩ := List.mem_map.mp hd
  exact sm_row (g r hr) 0
/-! ### _law_made_server -/
theorem refs_of {ys : List (Addr × Rw)} : ∀ {vs : List V}, (∀ v ∈ vs, v ∈ ys.map fun z => V.ref z.1) → ∃ ms : List (Addr × Rw), vs = ms.map (fun z => V.ref z.1) ∧ ∀ z ∈ ms, z ∈ ys
  | [], _ => ⟨[], rfl, fun z hz => nomatch hz⟩
  | v :: vs, h => by
    obtain ⟨ms, e, m⟩ := refs_of (vs := vs) fun u hu => h u (List.mem_cons_of_mem _ hu)
    obtain ⟨z, hz, ez⟩ := List.mem_map.mp (h v List.mem_cons_self)
    exact ⟨z :: ms, by rw [List.map_cons, ← e, ez], fun y hy => (List.mem_cons.mp hy).elim (fun q => q ▸ hz) (m y)⟩
/-- rows in another order, some twice -/
theorem mixed_rows {K : PySem.W.Frag} {H : Hp} {ys : List (Addr × Rw)} {us more : List V} (pm : us.Perm ((ys.map fun z => V.ref z.1) ++ more)) (hm : ∀ v ∈ more, v ∈ ys.map fun z => V.ref z.1) (hy : RowsAt K H ys) :
    ∃ M : List (Addr × Rw), us = M.map (fun z => V.ref z.1) ∧ RowsAt K H M ∧ (∀ r, r ∈ M.map Prod.snd ↔ r ∈ ys.map Prod.snd) ∧ M.length = ys.length + more.length := by
  obtain ⟨ms, rfl, hms⟩ := refs_of hm
  obtain ⟨M, pM, rfl⟩ := map_of_perm (fun z : Addr × Rw => V.ref z.1) pm (ys ++ ms) (by rw [List.map_append])
  have sub : ∀ z ∈ M, z ∈ ys := fun z hz => (List.mem_append.mp (pM.mem_iff.mp hz)).elim id (hms z)
  refine ⟨M, rfl, fun z hz => hy z (sub z hz), fun r => ⟨fun hr => ?_, fun hr => ?_⟩, by rw [pM.length_eq, List.length_append, List.length_map]⟩
  · obtain ⟨z, hz, rfl⟩ := List.mem_map.mp hr
    exact List.mem_map.mpr ⟨z, sub z hz, rfl⟩
  · obtain ⟨z, hz, rfl⟩ := List.mem_map.mp hr
    exact List.mem_map.mpr ⟨z, pM.mem_iff.mpr (List.mem_append_left _ hz), rfl⟩
def spMade (K : PySem.W.Frag) (C : Addr) : Sp := fun vs H Q _ => ∃ (p c m n : Nat) (S : List Rw), vs = [.ref p, .ref m] ∧ Pen p c n H ∧ LsAt K m S H ∧ S.length ≤ 297 ∧ n + 1000000 < 1000000000000 ∧
  ∀ b H', But p H H' → Pen p c (n + 700) H' → ServerAt K C b S H' → Q (.ref b) H'
section
variable {P : Program} {w : World} {K : PySem.W.Frag} {mg : Str → Option Value} {base : Heap} (T : Txt w K mg)
theorem ok_made : FnOk P w K mg base CX0 8 T.a_law_made_server T.d_law_made_server ["pen", "server"] (spMade K T.C_Server) := by
  have G_law_mixed := ok_mixed (P := P) (base := base) T
  have G_Server___init__ := ok_Server_init (P := P) (base := base) T
  refine T.D_law_made_server.fn.ok sc_law_made_server (fun vs H Q E h => ?_) (fun cdv A outer s H vs Q E hr h => ?_)
  · obtain ⟨p, c, m, n, S, rfl, _⟩ := h; rfl
  · obtain ⟨p, c, m, n, S, rfl, P0, ⟨rl, ad, pl, ys, kvs, ps, ls⟩, Rl, hn, k⟩ := h
    refine ⟨_, (pss_one (ps_ret (pe_make T.mk_Server (G_Server___init__) (hr.mono (by omega)) (by rfl) T.g_Server T.D_Server___init__.bd .nil (passes_call LamX.takes0 fun _ _ _ _ z => z) (pa_cons (pe_callTy call_tuple_of (by rfl) T.b_tuple bt_tuple (pa_cons (pe_call (G_law_mixed) (hr.mono (by omega)) (by rfl) T.D_law_mixed.mg T.D_law_mixed.fn.kp T.D_law_mixed.bd .nil pass0 (pa_cons (pv 0) (pa_cons (pe_dget (hu_of hr) (pv 1) pe_str (fun _ _ => rfl)) pa_nil))) pa_nil)) pa_nil)))), ?_⟩
    have yl := congrArg List.length ls.snd
    rw [List.length_map] at yl
    refine ret_make ⟨_, rfl, _, rfl, m, _, rfl, ls_rows ls.dict, p, c, rl, ys.map fun z => V.ref z.1, n, rfl, P0, .inl (SqL.of ls.rows), by rw [List.length_map]; omega, by omega, fun l us more H1 pm hm ml _ e1 b1 P1 => ⟨l, _, rfl, .inl ⟨SqL.of e1, fun t ht => ?_⟩⟩⟩
    obtain ⟨M, rfl, hM, mM, lM⟩ := mixed_rows (K := K) (H := H1) pm hm fun z hz => ⟨P0.st b1 (ls.good z hz).1, (ls.good z hz).2⟩
    have s2 := Same.newA (o := .tup (M.map fun z => V.ref z.1)) ht
    have et := upd_same (H := H1) (a := t) (o := .tup (M.map fun z => V.ref z.1))
    refine made_of T (R := M.map Prod.snd) (.tup (SqT.of et) (rows_dps (hM.same s2))) (.inr rfl) (by rw [List.map_map]; rfl) (fun r hr => ?_) (by rw [List.length_map]; omega) (S := S) ⟨ls.up, fun r => ?_⟩ fun b H' s3 sv => k b H' ((b1.trans (But.of s2)).trans (But.of s3)) (((P1.same s2).same s3).more (by rw [List.length_map]; omega)) sv
    · obtain ⟨z, hz, rfl⟩ := List.mem_map.mp hr
      exact (hM z hz).2
    · rw [← ls.snd, mM]
end
end Ag

set_option Elab.async false
set_option linter.all false
set_option maxRecDepth 100000
set_option maxHeartbeats 1000000
set_option pp.maxSteps 400
namespace Ag
open PySem PySem.Spec PyProof.Rows L2
/-- the reading gives a Server of the rows S, the heap growing -/
def ES (K : PySem.W.Frag) (C : Addr) (te : TE) (σ : L2.St) (H : Hp) (S : List Rw) : Prop := ∀ H1, Same H H1 → ∀ Q : VK, (∀ b H2, Same H1 H2 → ServerAt K C b S H2 → Q (.ref b) H2) → te σ H1 Q
section
variable {K : PySem.W.Frag} {C B : Addr} {σ : L2.St} {F : Addr → Prop} {H H' : Hp} {ta tb te : TE} {S S2 S' : List Rw} {E : XK} {r : Rw} {d : PyData}
theorem ES.mono (s : Same H H') (h : ES K C te σ H S) : ES K C te σ H' S := fun H1 a Q q => h H1 (s.trans a) Q q
theorem es_var {i : Nat} {b : Addr} (h : σ[i]? = some (some (.ref b))) (sv : ServerAt K C b S H) : ES K C (tVar i) σ H S := fun H1 s1 Q q => ⟨_, h, q b H1 (Same.refl _) (sv.same s1)⟩
theorem es_or (ha : ES K C ta σ H S) (hb : ES K C tb σ H S2) (l : S.length + S2.length ≤ 300) (srt : Srt (S ++ S2) S') : ES K C (tOp (rBinO K C (spOrS K C) E) ta tb) σ H S' := fun H1 s1 Q q =>
  ha H1 s1 _ fun b H2 s2 sv => hb H2 (s1.trans s2) _ fun b2 H3 s3 sv2 => by
    obtain ⟨dx, fs, e⟩ := (sv.same s3).obj_
    obtain ⟨dx2, fs2, e2⟩ := sv2.obj_
    exact ⟨b, dx, fs, rfl, e, .inl ⟨b2, dx2, fs2, rfl, e2⟩, b, b2, S, S2, rfl, sv.same s3, sv2, l, fun T b' H4 srt2 s4 sv' => ⟨b', rfl, q b' H4 ((s2.trans s3).trans s4) (srt2.uniq srt ▸ sv')⟩⟩
theorem es_add (ha : ES K C ta σ H S) (hb : ED K tb σ F H (rowD r)) (g : goodR r) (l : S.length < 300) (srt : Srt (S ++ [r]) S') : ES K C (tOp (rBinO K C (spAddS K C B) E) ta tb) σ H S' := fun H1 s1 Q q =>
  ha H1 s1 _ fun b H2 s2 sv => hb H2 (s1.trans s2) _ fun v H3 s3 hv => by
    obtain ⟨dx, fs, e⟩ := (sv.same s3).obj_
    exact ⟨b, dx, fs, rfl, e, .inr ⟨_, df_dp hv⟩, b, v, rowD r, S, rfl, sv.same s3, l, df_dp hv, row_gd g, (fun h => by rw [isRow_row g] at h; cases h), fun r2 T b' H4 er _ srt2 s4 sv' => ⟨b', rfl, q b' H4 ((s2.trans s3).trans s4) (srt2.uniq (rowD_inj er ▸ srt) ▸ sv')⟩⟩
theorem es_sub (ha : ES K C ta σ H S) (hb : ED K tb σ F H (rowD r)) (g : goodR r) : ES K C (tOp (rBinO K C (spSubS K C B) E) ta tb) σ H (S.filter fun s => !decide (s = r)) := fun H1 s1 Q q =>
  ha H1 s1 _ fun b H2 s2 sv => hb H2 (s1.trans s2) _ fun v H3 s3 hv => by
    obtain ⟨dx, fs, e⟩ := (sv.same s3).obj_
    exact ⟨b, dx, fs, rfl, e, .inr ⟨_, df_dp hv⟩, b, v, rowD r, S, rfl, sv.same s3, df_dp hv, row_gd g, (fun h => by rw [isRow_row g] at h; cases h), fun r2 b' H4 er _ s4 sv' => ⟨b', rfl, q b' H4 ((s2.trans s3).trans s4) (by rw [rowD_inj er]; exact sv')⟩⟩
theorem ed_eqSv (ha : ES K C ta σ H S) (hb : ES K C tb σ H S2) : ED K (tOp (rEqA K C (spEqS K C) E) ta tb) σ F H (.bool (decide (S = S2))) := fun H1 s1 Q q =>
  ha H1 s1 _ fun b H2 s2 sv => hb H2 (s1.trans s2) _ fun b2 H3 s3 sv2 => by
    obtain ⟨dx, fs, e⟩ := (sv.same s3).obj_
    obtain ⟨dx2, fs2, e2⟩ := sv2.obj_
    exact ⟨b, dx, fs, rfl, e, .inl ⟨b2, dx2, fs2, rfl, e2⟩, b, .ref b2, S, rfl, sv.same s3, .inl ⟨b2, S2, rfl, sv2, fun H4 s4 => ⟨_, rfl, q _ H4 ((s2.trans s3).trans s4) (.bl _)⟩⟩⟩
/-- == with any datum is False -/
theorem ed_eqSvD (ha : ES K C ta σ H S) (hb : ED K tb σ F H d) : ED K (tOp (rEqA K C (spEqS K C) E) ta tb) σ F H (.bool false) := fun H1 s1 Q q =>
  ha H1 s1 _ fun b H2 s2 sv => hb H2 (s1.trans s2) _ fun v H3 s3 hv => by
    obtain ⟨dx, fs, e⟩ := (sv.same s3).obj_
    exact ⟨b, dx, fs, rfl, e, .inr ⟨_, df_dp hv⟩, b, v, S, rfl, sv.same s3, .inr ⟨d, df_dp hv, fun H4 s4 => ⟨_, rfl, q _ H4 ((s2.trans s3).trans s4) (.bl _)⟩⟩⟩
theorem ed_neSv (ha : ES K C ta σ H S) (hb : ES K C tb σ H S2) : ED K (tOp (rNeO C (spEqS K C) E) ta tb) σ F H (.bool (!decide (S = S2))) := fun H1 s1 Q q =>
  ha H1 s1 _ fun b H2 s2 sv => hb H2 (s1.trans s2) _ fun b2 H3 s3 sv2 => by
    obtain ⟨dx, fs, e⟩ := (sv.same s3).obj_
    obtain ⟨dx2, fs2, e2⟩ := sv2.obj_
    exact ⟨b, dx, fs, b2, dx2, fs2, rfl, e, rfl, e2, b, .ref b2, S, rfl, sv.same s3, .inl ⟨b2, S2, rfl, sv2, fun H4 s4 => ⟨_, rfl, q _ H4 ((s2.trans s3).trans s4) (.bl _)⟩⟩⟩
theorem ed_lenSv (ha : ES K C ta σ H S) : ED K (tCB (rLenO C (spLenS K C) E) (tCons ta tNil)) σ F H (.int (S.length : Nat)) := fun H1 s1 Q q =>
  ha H1 s1 _ fun b H2 s2 sv => by
    obtain ⟨dx, fs, e⟩ := sv.obj_
    have := sv.len_
    exact ⟨b, dx, fs, rfl, e, b, S, rfl, sv, fun H3 s3 => ⟨S.length, rfl, by omega, q _ H3 (s2.trans s3) (.int _)⟩⟩
theorem ed_inSv {neg : Bool} (hb : ED K tb σ F H (rowD r)) (g : goodR r) (ha : ES K C ta σ H S) : ED K (tOp (rInO neg C (spInS K C) E) tb ta) σ F H (.bool (if neg = true then !decide (r ∈ S) else decide (r ∈ S))) := fun H1 s1 Q q =>
  hb H1 s1 _ fun v H2 s2 hv => ha H2 (s1.trans s2) _ fun b H3 s3 sv => by
    obtain ⟨dx, fs, e⟩ := sv.obj_
    have hv3 := dp_mono s3 (df_dp hv)
    refine ⟨b, dx, fs, rfl, e, b, v, rowD r, S, rfl, sv, hv3, row_gd g, (fun h => by rw [isRow_row g] at h; cases h), fun r2 er _ H4 s4 => ⟨_, rfl, q _ H4 ((s2.trans s3).trans s4) ?_⟩⟩
    rw [rowD_inj er]; exact .bl _
theorem ed_inSvD {neg : Bool} (hb : ED K tb σ F H d) (g : gd d = true) (no : isRow d = false) (ha : ES K C ta σ H S) : ED K (tOp (rInO neg C (spInS K C) E) tb ta) σ F H (.bool (if neg = true then true else false)) := fun H1 s1 Q q =>
  hb H1 s1 _ fun v H2 s2 hv => ha H2 (s1.trans s2) _ fun b H3 s3 sv => by
    obtain ⟨dx, fs, e⟩ := sv.obj_
    refine ⟨b, dx, fs, rfl, e, b, v, d, S, rfl, sv, dp_mono s3 (df_dp hv), g, (fun _ H4 s4 => ⟨_, rfl, q _ H4 ((s2.trans s3).trans s4) ?_⟩), fun r2 er gr => ?_⟩
    · cases neg <;> exact .bl _
    · rw [er, isRow_row gr] at no; cases no
end
section
variable {w : World} {K : PySem.W.Frag} {mg : Str → Option Value} (T : Txt w K mg) {σ : L2.St} {F : Addr → Prop} {H : Hp} {te : TE} {S : List Rw} {E : XK}
/-- Server(..) of rows that are in hand -/
theorem es_make {dv : PyData} {R : List Rw} (h : ED K te σ F H dv) (hd : dv = .list (R.map rowD) ∨ dv = .tuple (R.map rowD)) (g : ∀ r ∈ R, goodR r) (l : R.length ≤ 300) (srt : Srt R S) : ES K T.C_Server (tMake T.C_Server (spServer K T.C_Server T.C_BadRow) [] E (tCons te tNil)) σ H S := fun H1 s1 Q q =>
  h H1 s1 _ fun v H2 s2 hv => by
    obtain ⟨a, rfl⟩ : ∃ a, v = .ref a := by
      rcases hd with rfl | rfl <;> cases hv <;> exact ⟨_, rfl⟩
    exact made_of T (df_dp hv) hd rfl g l srt fun b H' s' sv => q b H' (s2.trans s') sv
end
theorem run_esc {K : PySem.W.Frag} {C : Addr} {te : TE} {tr : TA} {σ : L2.St} {H : Hp} {S : List Rw} {Q : List V → Hp → Prop} (h : ES K C te σ H S) (k : ∀ b H1, Same H H1 → ServerAt K C b S H1 → tr σ H1 fun vs H2 => Q (V.ref b :: vs) H2) : tCons te tr σ H Q := h H (Same.refl _) _ k
theorem run_lstT {ta : TA} {σ : L2.St} {H : Hp} {Q : VK} (h : ta σ H fun vs H1 => vs.length ≤ sizeLine ∧ ∀ q, H1 q = none → Q (.ref q) (upd H1 q (.lst vs))) : tLst ta σ H Q := h
/-- a list of servers -/
def SvL (K : PySem.W.Frag) (C : Addr) (H : Hp) (bs : List Addr) (Ss : List (List Rw)) : Prop := bs.length = Ss.length ∧ ∀ (i : Nat) b S, bs[i]? = some b → Ss[i]? = some S → ServerAt K C b S H
theorem SvL.same {K : PySem.W.Frag} {C : Addr} {H H' : Hp} {bs : List Addr} {Ss : List (List Rw)} (s : Same H H') (h : SvL K C H bs Ss) : SvL K C H' bs Ss := ⟨h.1, fun i b S e1 e2 => (h.2 i b S e1 e2).same s⟩
theorem es_at {K : PySem.W.Frag} {C : Addr} {σ : L2.St} {H : Hp} {tb : TE} {i j : Nat} {l : Addr} {bs : List Addr} {Ss : List (List Rw)} {S : List Rw} {F : Addr → Prop} (h : σ[i]? = some (some (.ref l))) (hl : H l = some (.lst (bs.map V.ref))) (hb : ED K tb σ F H (.int (j : Nat))) (sv : SvL K C H bs Ss) (hj : Ss[j]? = some S) : ES K C (tOp (rIx K) (tVar i) tb) σ H S := fun H1 s1 Q q =>
  ⟨_, h, hb H1 s1 _ fun v H2 s2 hv => by
    cases hv
    have jl : j < bs.length := by rw [sv.1]; exact (List.getElem?_eq_some_iff.mp hj).1
    have eb : bs[j]? = some bs[j] := List.getElem?_eq_getElem jl
    have s12 := s1.trans s2
    exact .inl ⟨l, _, (j : Nat), .ref bs[j], rfl, rfl, SqL.of (s12 _ _ hl), atI_nat (by rw [List.getElem?_map, eb]; rfl), q _ H2 s2 ((sv.2 j _ _ eb hj).same s12)⟩⟩
end Ag

set_option Elab.async false
set_option linter.all false
set_option maxRecDepth 100000
set_option maxHeartbeats 1000000
set_option pp.maxSteps 400
namespace Ag
open PySem PySem.Spec PyProof.Rows L2 LamX
/-- the one table, and the name that its code objects bear -/
def TB1 (tb : Addr) : List (Addr × Str) := [(tb, (envOfC "law" (defScope s_law) 0 0 (.ref 0)).qual ++ "<lambda>")]
theorem cnt1 : ¬ ck "cells" = ck "count" := by decide +kernel
theorem cnt2 : ¬ ck "at" = ck "count" := by decide +kernel
theorem cnt3 : ¬ ck "digits" = ck "count" := by decide +kernel
section
variable {K : PySem.W.Frag} {C p c b : Addr} {n : Nat} {H H' : Hp} {S : List Rw}
theorem SvParts.ne {dx rt td kd : Addr} {kvs : List (List Key × V)} {kn : List (Key × V)} (P : Pen p c n H) (h : SvParts K C b dx rt td kd kvs kn S H) : kd ≠ p := fun z => by
  subst z
  obtain ⟨ce, a', dd, k, f, hp, _⟩ := P
  have e := HO.dK.inj (Option.some.inj (h.knd.symm.trans hp))
  have v : valV (penKV c a' dd k f) (ck "count") = some (.int k) := by
    unfold penKV
    rw [valV_neg cnt1, valV_neg cnt2, valV_neg cnt3]; exact valV_pos rfl
  obtain ⟨cs, _, _, q⟩ := h.knw ("count" : Str)
  rw [e] at q
  have v : valV (penKV c a' dd k f) (Sum.inr ("count" : Str)) = some (.int k) := v
  rw [v] at q
  rcases q with ⟨_, q⟩ | ⟨_, a, q, _⟩ <;> cases q
theorem ServerAt.kp (P : Pen p c n H) (k : Kp p H H') (s : ServerAt K C b S H) : ServerAt K C b S H' := by
  obtain ⟨dx, rt, td, kd, kvs, kn, h⟩ := s
  have nk := h.ne P
  exact ⟨dx, rt, td, kd, kvs, kn, k _ _ (P.ne h.obj fun _ e => nomatch e) (fun _ e => nomatch e) h.obj, P.dpK k h.rows, k _ _ (P.ne h.ansd fun _ e => nomatch e) (fun _ e => nomatch e) h.ansd, h.ans.kept fun a xs e => P.stK k e, k _ _ nk (fun _ e => nomatch e) h.knd, h.knw.kept fun a xs e => P.stK k e, h.knk, h.up, h.good, h.len⟩
/-- what stands through the law's laps -/
structure Lw (K : PySem.W.Frag) (C p c rt mb tb : Addr) (n : Nat) (S : List Rw) (H : Hp) : Prop where
  pen : Pen p c n H
  tab : Tabs (TB1 tb) H
  rows : Dp K H (.ref rt) (rowsD S)
  made : ServerAt K C mb S H
variable {rt mb tb : Addr} {m : Nat}
theorem Lw.kp (h : Lw K C p c rt mb tb n S H) (k : Kp p H H') (P : Pen p c m H') (t : Tabs (TB1 tb) H') : Lw K C p c rt mb tb m S H' := ⟨P, t, h.pen.dpK k h.rows, h.made.kp h.pen k⟩
theorem Lw.but (h : Lw K C p c rt mb tb n S H) (b : But p H H') (P : Pen p c m H') : Lw K C p c rt mb tb m S H' := h.kp (.but b) P (tabs_but h.pen b h.tab)
theorem Lw.same (h : Lw K C p c rt mb tb n S H) (s : Same H H') : Lw K C p c rt mb tb n S H' := h.kp (.of s) (h.pen.same s) (h.tab.ext s)
theorem Lw.more (h : Lw K C p c rt mb tb n S H) (l : n ≤ m) : Lw K C p c rt mb tb m S H := ⟨h.pen.more l, h.tab, h.rows, h.made⟩
/-- a list is changed that none of it is -/
theorem Lw.upd {l : Addr} {xs : List V} {o : HO} (h : Lw K C p c rt mb tb n S H) (e : H l = some (.lst xs)) (np : l ≠ p) (nc : l ≠ c) : Lw K C p c rt mb tb n S (upd H l o) := by
  have st : ∀ a ys, SqT K H a ys → SqT K (L2.upd H l o) a ys := fun a ys h => st_upd e h
  have nl : ∀ a u, H a = some u → (∀ ys, u ≠ .lst ys) → a ≠ l := fun a u z n => ne_of z e (n _)
  obtain ⟨dx, r2, td, kd, kvs, kn, q⟩ := h.made
  have dpr : ∀ v S, Dp K H v (rowsD S) → Dp K (L2.upd H l o) v (rowsD S) := fun v S hd => by
    have all : ∀ {S : List Rw} {vs : List V}, DpAll K H vs (S.map rowD) → DpAll K (L2.upd H l o) vs (S.map rowD) := by
      intro S
      induction S with
      | nil => intro vs h; cases h; exact .nil
      | cons r S ih =>
        intro vs h
        cases h with
        | cons a t =>
          refine .cons ?_ (ih t)
          cases a with
          | tup hs q =>
            cases q with
            | cons q1 q =>
              cases q with
              | cons q2 q =>
                cases q with
                | cons q3 q =>
                  cases q; cases q1; cases q2; cases q3
                  exact .tup (st _ _ hs) (.cons (.str _) (.cons (.str _) (.cons (.str _) .nil)))
    cases hd with
    | tup hs r => exact .tup (st _ _ hs) (all r)
  refine ⟨h.pen.upd np nc, fun t ht => ?_, dpr _ _ h.rows, ⟨dx, r2, td, kd, kvs, kn, ?_, dpr _ _ q.rows, ?_, q.ans.kept st, ?_, q.knw.kept st, q.knk, q.up, q.good, q.len⟩⟩
  · obtain ⟨ps, h1, h2, h3⟩ := h.tab t ht
    refine ⟨ps, by rw [upd_ne (nl _ _ h1 fun _ z => nomatch z)]; exact h1, h2, fun pos cv hc => ?_⟩
    obtain ⟨a, e1, e2⟩ := h3 pos cv hc
    exact ⟨a, e1, by rw [upd_ne (nl _ _ e2 fun _ z => nomatch z)]; exact e2⟩
  · rw [upd_ne (nl _ _ q.obj fun _ z => nomatch z)]; exact q.obj
  · rw [upd_ne (nl _ _ q.ansd fun _ z => nomatch z)]; exact q.ansd
  · rw [upd_ne (nl _ _ q.knd fun _ z => nomatch z)]; exact q.knd
end
theorem rows_in {K : PySem.W.Frag} {H : Hp} {rt : Addr} {S : List Rw} (h : Dp K H (.ref rt) (rowsD S)) (g : ∀ r ∈ S, goodR r) : ∃ zs : List (Addr × Rw), SqT K H rt (zs.map fun z => V.ref z.1) ∧ zs.map Prod.snd = S ∧ RowsAt K H zs := by
  unfold rowsD at h
  cases h with
  | tup hs r =>
    obtain ⟨zs, rfl, z2, z3⟩ := rows_at r g
    exact ⟨zs, hs, z2, z3⟩
theorem RowsAt.lst {K : PySem.W.Frag} {H : Hp} {l : Addr} {xs : List V} {o : HO} {zs : List (Addr × Rw)} (h : RowsAt K H zs) (e : H l = some (.lst xs)) : RowsAt K (upd H l o) zs := fun z hz => ⟨st_upd e (h z hz).1, (h z hz).2⟩
theorem RowsAt.but {K : PySem.W.Frag} {H H' : Hp} {p c : Addr} {n : Nat} {zs : List (Addr × Rw)} (P : Pen p c n H) (b : But p H H') (h : RowsAt K H zs) : RowsAt K H' zs := fun z hz => ⟨P.st b (h z hz).1, (h z hz).2⟩
/-- a server stands where a list is changed -/
theorem ServerAt.lst {K : PySem.W.Frag} {C b l : Addr} {S : List Rw} {H : Hp} {xs : List V} {o : HO} (s : ServerAt K C b S H) (e : H l = some (.lst xs)) : ServerAt K C b S (upd H l o) := by
  have st : ∀ a ys, SqT K H a ys → SqT K (upd H l o) a ys := fun a ys h => st_upd e h
  have nl : ∀ a u, H a = some u → (∀ ys, u ≠ .lst ys) → a ≠ l := fun a u z n => ne_of z e (n _)
  obtain ⟨dx, r2, td, kd, kvs, kn, q⟩ := s
  obtain ⟨vs, zs, e1, e2, e3⟩ : ∃ vs zs, SqT K H r2 vs ∧ vs = zs.map (fun z : Addr × Rw => V.ref z.1) ∧ zs.map Prod.snd = S ∧ RowsAt K H zs := by
    have := q.rows
    unfold rowsD at this
    cases this with
    | tup hs r =>
      obtain ⟨zs, z1, z2, z3⟩ := rows_at r q.good
      exact ⟨_, zs, hs, z1, z2, z3⟩
  obtain ⟨e3, e4⟩ := e3
  refine ⟨dx, r2, td, kd, kvs, kn, ?_, ?_, ?_, q.ans.kept st, ?_, q.knw.kept st, q.knk, q.up, q.good, q.len⟩
  · rw [upd_ne (nl _ _ q.obj fun _ z => nomatch z)]; exact q.obj
  · rw [← e3, List.map_map]
    exact .tup (st _ _ (e2 ▸ e1)) (rows_dps fun z hz => ⟨st _ _ (e4 z hz).1, (e4 z hz).2⟩)
  · rw [upd_ne (nl _ _ q.ansd fun _ z => nomatch z)]; exact q.ansd
  · rw [upd_ne (nl _ _ q.knd fun _ z => nomatch z)]; exact q.knd
section
variable {K : PySem.W.Frag} {C : Addr} {H H' : Hp} {bs : List Addr} {Ss : List (List Rw)}
theorem SvL.imp (h : SvL K C H bs Ss) (f : ∀ b S, ServerAt K C b S H → ServerAt K C b S H') : SvL K C H' bs Ss := ⟨h.1, fun i b S e1 e2 => f _ _ (h.2 i b S e1 e2)⟩
theorem SvL.set {j : Nat} {b : Addr} {S : List Rw} (h : SvL K C H bs Ss) (s : ServerAt K C b S H) : SvL K C H (bs.set j b) (Ss.set j S) := ⟨by rw [List.length_set, List.length_set]; exact h.1, fun i b2 S2 e1 e2 => by
  by_cases q : j = i
  · subst q
    have l1 : j < bs.length := by have := (List.getElem?_eq_some_iff.mp e1).1; rwa [List.length_set] at this
    have l2 : j < Ss.length := by have := (List.getElem?_eq_some_iff.mp e2).1; rwa [List.length_set] at this
    rw [List.getElem?_set_self l1] at e1
    rw [List.getElem?_set_self l2] at e2
    cases e1; cases e2; exact s
  · rw [List.getElem?_set_ne q] at e1 e2
    exact h.2 i b2 S2 e1 e2⟩
/-- servers of some of the rows of S, which have all that Z tells -/
structure Pts (K : PySem.W.Frag) (C : Addr) (pl : Addr) (bs : List Addr) (Ss : List (List Rw)) (S Z : List Rw) (H : Hp) : Prop where
  lst : H pl = some (.lst (bs.map V.ref))
  svs : SvL K C H bs Ss
  len : Ss.length = 3
  sub : ∀ (j : Nat) T, Ss[j]? = some T → ∀ r ∈ T, r ∈ S
  all : ∀ r ∈ Z, ∃ (j : Nat) (T : List Rw), Ss[j]? = some T ∧ r ∈ T
theorem Pts.mk1 {pl : Addr} {S Z : List Rw} {r : Rw} {j : Nat} {b : Addr} {T T' : List Rw} (h : Pts K C pl bs Ss S Z H) (e : Ss[j]? = some T) (srt : Srt (T ++ [r]) T') (hr : r ∈ S) (s : ServerAt K C b T' H) : Pts K C pl (bs.set j b) (Ss.set j T') S (Z ++ [r]) (upd H pl (.lst ((bs.map V.ref).set j (.ref b)))) := by
  have jl : j < Ss.length := (List.getElem?_eq_some_iff.mp e).1
  have at_ : ∀ (i : Nat) (U : List Rw), (Ss.set j T')[i]? = some U → (i = j ∧ U = T') ∨ (i ≠ j ∧ Ss[i]? = some U) := fun i U h2 => by
    by_cases q : j = i
    · subst q
      rw [List.getElem?_set_self jl] at h2; cases h2; exact .inl ⟨rfl, rfl⟩
    · rw [List.getElem?_set_ne q] at h2; exact .inr ⟨Ne.symm q, h2⟩
  refine ⟨by rw [upd_same, List.map_set], (h.svs.set s).imp fun _ _ q => q.lst h.lst, by rw [List.length_set]; exact h.len, fun i U h2 x hx => ?_, fun x hx => ?_⟩
  · rcases at_ i U h2 with ⟨rfl, rfl⟩ | ⟨_, h2⟩
    · rcases List.mem_append.mp ((srt.2 x).mp hx) with hx | hx
      · exact h.sub _ _ e x hx
      · rw [List.mem_singleton.mp hx]; exact hr
    · exact h.sub _ _ h2 x hx
  · have self : (Ss.set j T')[j]? = some T' := List.getElem?_set_self jl
    rcases List.mem_append.mp hx with hx | hx
    · obtain ⟨i, U, h1, h2⟩ := h.all x hx
      by_cases q : i = j
      · subst q
        rw [e] at h1; cases h1
        exact ⟨i, T', self, (srt.2 x).mpr (List.mem_append_left _ h2)⟩
      · exact ⟨i, U, by rw [List.getElem?_set_ne (Ne.symm q)]; exact h1, h2⟩
    · exact ⟨j, T', self, (srt.2 x).mpr (List.mem_append_right _ hx)⟩
theorem Pts.imp {pl : Addr} {S Z : List Rw} (h : Pts K C pl bs Ss S Z H) (l : ∀ a xs, H a = some (.lst xs) → H' a = some (.lst xs)) (f : ∀ b S, ServerAt K C b S H → ServerAt K C b S H') : Pts K C pl bs Ss S Z H' := ⟨l _ _ h.lst, h.svs.imp f, h.len, h.sub, h.all⟩
theorem Pts.same {pl : Addr} {S Z : List Rw} (h : Pts K C pl bs Ss S Z H) (s : Same H H') : Pts K C pl bs Ss S Z H' := h.imp (fun _ _ e => s _ _ e) fun _ _ q => q.same s
theorem Pts.but {pl p c : Addr} {n : Nat} {S Z : List Rw} (h : Pts K C pl bs Ss S Z H) (P : Pen p c n H) (b : But p H H') : Pts K C pl bs Ss S Z H' := h.imp (fun _ _ e => b _ _ (P.ne e fun _ z => nomatch z) e) fun _ _ q => q.kp P (.but b)
theorem Pts.at_ {pl : Addr} {S Z : List Rw} (h : Pts K C pl bs Ss S Z H) {j : Nat} (l : j < 3) : ∃ T, Ss[j]? = some T := ⟨_, List.getElem?_eq_getElem (by rw [h.len]; exact l)⟩
end
/-! ### a list of written items -/
theorem run_lstA {K : PySem.W.Frag} {ta : TA} {σ : L2.St} {F : Addr → Prop} {H : Hp} {ds : List PyData} {Q : VK} (h : EA K ta σ F H ds) (l : ds.length ≤ 1000) (k : ∀ q vs H1, Same H H1 → DpAll K H1 vs ds → H1 q = some (.lst vs) → Q (.ref q) H1) : tLst ta σ H Q :=
  h H (Same.refl _) _ fun vs H1 s1 hv => ⟨by rw [dfs_len hv]; exact small5 (by omega), fun q hq => k q vs _ (s1.trans (Same.newA hq)) (dps_mono (Same.newA hq) (dfs_dps hv)) upd_same⟩
theorem shown_of {d : PyData} {n : Nat} (h1 : d.showable = true) (h2 : d.depth ≤ 50) (h3 : d.shown.length ≤ 100000) : Shown d := ⟨h1, h2, small5 h3⟩
/-- a name has a figure -/
theorem nm_fig {j : Nat} {x : Str} (hj : j < 32) (h : Nm j x) : ∃ q ∈ x.cps.toList, q ≤ 57 := by
  obtain ⟨a, b, e, _⟩ := h
  obtain ⟨h1, _, h3⟩ := digs_ok j hj
  obtain ⟨q, hq⟩ := List.exists_mem_of_length_pos (show 0 < (Digs j).length by omega)
  refine ⟨q, ?_, (h3 q hq).2⟩
  rw [e]
  show q ∈ (SX.S _).cps.toList
  simp [SX.S, hq]
theorem not_zzi {j : Nat} {x : Str} (hj : j < 32) (h : Nm j x) : x ≠ ("zzi" : Str) := fun e => by
  obtain ⟨q, hq, h57⟩ := nm_fig hj h
  rw [e, show ("zzi" : Str).cps.toList = [122, 122, 105] by decide +kernel] at hq
  simp at hq
  omega
end Ag

set_option Elab.async false
set_option linter.all false
set_option maxRecDepth 100000
set_option maxHeartbeats 1000000
set_option pp.maxSteps 300
/-! What is shown of data is of plain signs. -/
namespace Ag
open PySem PySem.Spec PyProof.Rows L2 Builtin.Str
def Asc (x : Str) : Prop := ∀ c ∈ x.cps.toList, c < 128
theorem asc_app {x y : Str} (h : Asc x) (k : Asc y) : Asc (x ++ y) := fun c hc => by
  rw [show (x ++ y).cps.toList = x.cps.toList ++ y.cps.toList from TL.tl_append x y] at hc
  exact (List.mem_append.mp hc).elim (h c) (k c)
theorem asc_join {s : Str} (hs : Asc s) : ∀ {xs : List Str}, (∀ x ∈ xs, Asc x) → Asc (Str.join s xs)
  | [], _ => fun c hc => absurd hc List.not_mem_nil
  | [x], h => h x List.mem_cons_self
  | x :: y :: r, h => by
    have e : Str.join s (x :: y :: r) = x ++ s ++ Str.join s (y :: r) := rfl
    rw [e]
    exact asc_app (asc_app (h x List.mem_cons_self) hs) (asc_join hs (xs := y :: r) fun z hz => h z (List.mem_cons_of_mem _ hz))
def ascB (x : Str) : Bool := x.cps.toList.all fun c => decide (c < 128)
theorem asc_of {x : Str} (h : ascB x = true) : Asc x := fun c hc => of_decide_eq_true (List.all_eq_true.mp h c hc)
theorem asc_sep : Asc (", " : Str) := asc_of (by decide +kernel)
theorem asc_textFrom : ∀ (ts : List Str) (k : Nat) (acc : Str), Asc acc → (∀ t ∈ ts, Asc t) → Asc (textFrom k acc ts)
  | [], _, _, h, _ => h
  | t :: ts, k, acc, h, ht => by
    refine asc_textFrom ts (k + 1) _ (asc_app (asc_app h ?_) (ht t List.mem_cons_self)) fun x hx => ht x (List.mem_cons_of_mem _ hx)
    by_cases z : k > 0
    · rw [if_pos z]; exact asc_sep
    · rw [if_neg z]; exact asc_of (by decide +kernel)
theorem repr_char : ∀ c, c < 128 → ∀ q, q = 34 ∨ q = 39 → ∀ y ∈ reprChar q c, y < 128 := by
  have h : ∀ c, c < 128 → (reprChar 34 c).all (fun y => decide (y < 128)) = true ∧ (reprChar 39 c).all (fun y => decide (y < 128)) = true := by decide +kernel
  rintro c hc q (rfl | rfl) y hy
  · exact of_decide_eq_true (List.all_eq_true.mp (h c hc).1 y hy)
  · exact of_decide_eq_true (List.all_eq_true.mp (h c hc).2 y hy)
theorem quote_or (x : Str) : reprQuote x = 34 ∨ reprQuote x = 39 := by
  unfold reprQuote; split <;> first | exact .inl rfl | exact .inr rfl
theorem asc_fold (q : Nat) (hq : q = 34 ∨ q = 39) : ∀ (l : List Nat) (acc : Array Nat), (∀ c ∈ l, c < 128) → (∀ c ∈ acc.toList, c < 128) → ∀ c ∈ (l.foldl (fun out c => out ++ (reprChar q c).toArray) acc).toList, c < 128
  | [], _, _, h => h
  | c :: l, acc, hl, h => asc_fold q hq l _ (fun z hz => hl z (List.mem_cons_of_mem _ hz)) fun z hz => by
    rw [Array.toList_append] at hz
    exact (List.mem_append.mp hz).elim (h z) (repr_char c (hl c List.mem_cons_self) q hq z)
theorem asc_repr {x : Str} (h : Asc x) : Asc (reprText x) := fun c hc => by
  unfold reprText at hc
  have hc : c ∈ ((x.cps.foldl (fun out c => out ++ (reprChar (reprQuote x) c).toArray) #[reprQuote x]).push (reprQuote x)).toList := hc
  have q128 : reprQuote x < 128 := by rcases quote_or x with e | e <;> rw [e] <;> decide
  rw [Array.toList_push, ← Array.foldl_toList] at hc
  rcases List.mem_append.mp hc with hc | hc
  · exact asc_fold _ (quote_or x) _ _ h (fun z hz => by
      have hz : z ∈ [reprQuote x] := hz
      rw [List.mem_singleton.mp hz]; exact q128) c hc
  · rw [List.mem_singleton.mp hc]; exact q128
theorem asc_all : ∀ {ds : List PyData}, (∀ d ∈ ds, Asc d.shown) → ∀ t ∈ PyData.shownAll ds, Asc t
  | [], _, t, ht => by simp [PyData.shownAll] at ht
  | d :: ds, h, t, ht => by
    have e : PyData.shownAll (d :: ds) = d.shown :: PyData.shownAll ds := by simp only [PyData.shownAll]
    rw [e] at ht
    rcases List.mem_cons.mp ht with rfl | ht
    · exact h d List.mem_cons_self
    · exact asc_all (fun x hx => h x (List.mem_cons_of_mem _ hx)) t ht
theorem asc_tup {ds : List PyData} (h : ∀ d ∈ ds, Asc d.shown) : Asc (PyData.tuple ds).shown := by
  rw [PyData.shown]
  unfold tupleText
  refine asc_app (asc_app (asc_of (by decide +kernel)) (asc_join asc_sep (asc_all h))) ?_
  split <;> exact asc_of (by decide +kernel)
theorem asc_lst {ds : List PyData} (h : ∀ d ∈ ds, Asc d.shown) : Asc (PyData.list ds).shown := by
  rw [PyData.shown]
  unfold listText
  exact asc_app (asc_textFrom _ _ _ (asc_of (by decide +kernel)) (asc_all h)) (asc_of (by decide +kernel))
theorem asc_str {x : Str} (h : Asc x) : Asc (PyData.str x).shown := by rw [PyData.shown]; exact asc_repr h
theorem asc_bool (b : Bool) : Asc (PyData.bool b).shown := by cases b <;> exact asc_of (by decide +kernel)
theorem asc_none : Asc PyData.none.shown := asc_of (by decide +kernel)
/-- a list of three texts told -/
theorem told_shaped {a b x : Str} (ha : Asc a) (hb : Asc b) (h : Asc x) : SeqAt.shaped (.list [.str a, .str b, .str x]) = true := by
  have cv : ∀ {y : Str}, Asc y → (y.cps.all (· < 0x110000)) = true := fun {y} hy => Array.all_eq_true_iff_forall_mem.mpr fun c hc => decide_eq_true (by have := hy c (Array.mem_toList_iff.mpr hc); omega)
  have la : (PyData.list [.str a, .str b, .str x]).canLay0 = true := by
    simp only [PyData.canLay0, PyData.canLayAll0, Bool.and_eq_true, Bool.and_true]
    exact ⟨cv ha, cv hb, cv h⟩
  have d : (PyData.list [.str a, .str b, .str x]).depth ≤ 64 := by
    simp only [PyData.depth, PyData.depthAll]; exact Nat.le_of_ble_eq_true rfl
  unfold SeqAt.shaped
  rw [la, decide_eq_true d]; rfl
end Ag

set_option Elab.async false
set_option linter.all false
set_option maxRecDepth 100000
set_option maxHeartbeats 2000000
set_option pp.maxSteps 400
namespace Ag
open PySem PySem.Spec PyProof.Rows L2 LamX
theorem as_gd {n : Nat} {x : Str} (h : As n x) (hn : n ≤ 1000) : gd (.str x) = true := by
  simp only [gd, Bool.and_eq_true, decide_eq_true_eq]
  refine ⟨Array.all_eq_true_iff_forall_mem.mpr fun c hc => decide_eq_true ?_, Nat.le_trans h.2 hn⟩
  have := h.1 c (Array.mem_toList_iff.mpr hc); omega
/-! ### data that may be handed about: good, shown in few signs, not deep -/
structure Nice (m n : Nat) (d : PyData) : Prop where
  gd : gd d = true
  sh : d.showable = true
  dp : d.depth ≤ m
  ln : d.shown.length ≤ n
  as : Asc d.shown
theorem Nice.more {m n m' n' : Nat} {d : PyData} (h : Nice m n d) (h1 : m ≤ m') (h2 : n ≤ n') : Nice m' n' d := ⟨h.gd, h.sh, Nat.le_trans h.dp h1, Nat.le_trans h.ln h2, h.as⟩
theorem shaped_of {m n : Nat} {d : PyData} (h : Nice m n d) (hm : m ≤ 64) : SeqAt.shaped d = true := by
  unfold SeqAt.shaped
  rw [gd_lay h.gd, Bool.true_and]
  exact decide_eq_true (Nat.le_trans h.dp hm)
theorem nice_all {m n : Nat} : ∀ {ds : List PyData}, (∀ x ∈ ds, Nice m n x) → PyData.showableAll ds = true ∧ PyData.depthAll ds ≤ m ∧ ((PyData.shownAll ds).map (·.length)).sum ≤ ds.length * n ∧ (PyData.shownAll ds).length = ds.length
  | [], _ => by simp [PyData.showableAll, PyData.depthAll, PyData.shownAll]
  | d :: ds, h => by
    obtain ⟨i1, i2, i3, i4⟩ := nice_all (ds := ds) fun x hx => h x (List.mem_cons_of_mem _ hx)
    have hd := h d List.mem_cons_self
    have e : PyData.shownAll (d :: ds) = d.shown :: PyData.shownAll ds := by simp only [PyData.shownAll]
    refine ⟨by simp only [PyData.showableAll, hd.sh, i1]; rfl, ?_, ?_, ?_⟩
    · have := hd.dp
      simp only [PyData.depthAll]; omega
    · have := hd.ln
      rw [e, List.map_cons, List.sum_cons, List.length_cons, Nat.succ_mul]; omega
    · rw [e, List.length_cons, List.length_cons, i4]
theorem nice_tup {m n : Nat} {ds : List PyData} (h : ∀ x ∈ ds, Nice m n x) (hl : ds.length ≤ 1000) : Nice (m + 1) (ds.length * (n + 2) + 3) (.tuple ds) := by
  obtain ⟨i1, i2, i3, i4⟩ := nice_all h
  refine ⟨?_, by simp only [PyData.showable]; exact i1, by simp only [PyData.depth]; omega, ?_, asc_tup fun d hd => (h d hd).as⟩
  · simp only [Ag.gd, Bool.and_eq_true, decide_eq_true_eq]
    exact ⟨gds_of fun y hy => (h y hy).gd, hl⟩
  · rw [PyData.shown]
    have := tupleText_len_le (PyData.shownAll ds)
    rw [i4] at this
    have e : ds.length * (n + 2) = ds.length * n + ds.length * 2 := Nat.mul_add _ _ _
    omega
theorem nice_lst {m n : Nat} {ds : List PyData} (h : ∀ x ∈ ds, Nice m n x) (hl : ds.length ≤ 1000) : Nice (m + 1) (ds.length * (n + 2) + 3) (.list ds) := by
  obtain ⟨i1, i2, i3, i4⟩ := nice_all h
  refine ⟨?_, by simp only [PyData.showable]; exact i1, by simp only [PyData.depth]; omega, ?_, asc_lst fun d hd => (h d hd).as⟩
  · simp only [Ag.gd, Bool.and_eq_true, decide_eq_true_eq]
    exact ⟨gds_of fun y hy => (h y hy).gd, hl⟩
  · rw [PyData.shown]
    have := listText_len_le (PyData.shownAll ds)
    rw [i4] at this
    have e : ds.length * (n + 2) = ds.length * n + ds.length * 2 := Nat.mul_add _ _ _
    omega
theorem nice_int {i : Int} {n : Nat} (h : (PyData.int i).showable = true ∧ (PyData.int i).shown.length ≤ n ∧ ascB (PyData.int i).shown = true) : Nice 0 n (.int i) := ⟨by simp [Ag.gd], h.1, by simp [PyData.depth], h.2.1, asc_of h.2.2⟩
theorem nice_small : ∀ i : Nat, i < 64 → (PyData.int (i : Int)).showable = true ∧ (PyData.int (i : Int)).shown.length ≤ 2 ∧ ascB (PyData.int (i : Int)).shown = true := by decide +kernel
theorem nice_nat {i : Int} (h : 0 ≤ i ∧ i < 64) : Nice 0 2 (.int i) := by
  obtain ⟨n, rfl⟩ : ∃ n : Nat, i = n := ⟨i.toNat, by omega⟩
  exact nice_int (nice_small n (by omega))
theorem nice_str {x : Str} {k : Nat} (h : As k x) (hk : k ≤ 1000) : Nice 0 (10 * k + 2) (.str x) := by
  have l := StrLaws.reprText_len x fun c hc => by have := h.1 c hc; omega
  have l2 := h.2
  refine ⟨as_gd (As.more h hk) (Nat.le_refl _), by simp [PyData.showable], by simp [PyData.depth], ?_, asc_str h.1⟩
  rw [PyData.shown]; omega
theorem nice_bool (b : Bool) : Nice 0 5 (.bool b) := ⟨by simp [Ag.gd], by simp [PyData.showable], by simp [PyData.depth], by cases b <;> decide +kernel, asc_bool b⟩
theorem nice_none : Nice 0 4 .none := ⟨by simp [Ag.gd], by simp [PyData.showable], by simp [PyData.depth], by decide +kernel, asc_none⟩
theorem nice_names {ns : List Str} (h : ∀ x ∈ ns, As 12 x) (hl : ns.length ≤ 1000) : Nice 1 (ns.length * 124 + 3) (.tuple (ns.map .str)) := by
  have := nice_tup (m := 0) (n := 122) (ds := ns.map .str) (fun y hy => by
    obtain ⟨x, hx, rfl⟩ := List.mem_map.mp hy
    exact nice_str (h x hx) (by decide)) (by rw [List.length_map]; exact hl)
  rw [List.length_map] at this; exact this
theorem nice_ints {is : List Int} (h : ∀ i ∈ is, 0 ≤ i ∧ i < 64) (hl : is.length ≤ 1000) : Nice 1 (is.length * 4 + 3) (.tuple (is.map .int)) := by
  have := nice_tup (m := 0) (n := 2) (ds := is.map .int) (fun y hy => by
    obtain ⟨i, hi, rfl⟩ := List.mem_map.mp hy
    exact nice_nat (h i hi)) (by rw [List.length_map]; exact hl)
  rw [List.length_map] at this; exact this

theorem cutD_from (ys : List PyData) (k : Nat) (h : k ≤ ys.length) : cutD ys (some (k : Int)) none = ys.drop k := by
  unfold cutD
  rw [HT.sIx_none, HT.sIx_nat, Nat.min_eq_left h]
  exact List.take_of_length_le (by rw [List.length_drop]; omega)
theorem mul13 : Txt.mul ("x" : Str) ((13 : Nat) : Int) = ("xxxxxxxxxxxxx" : Str) := by decide +kernel
theorem ed_rep13 {K : PySem.W.Frag} {σ : L2.St} {F : Addr → Prop} {H : Hp} : ED K (tOp rRepS (tC (.str "x")) (tC (.int 13))) σ F H (.str "xxxxxxxxxxxxx") := fun H1 s Q q => ⟨"x", 13, rfl, rfl, by decide +kernel, by decide, by rw [mul13]; exact q _ H1 (Same.refl _) (.str _)⟩
/-! ### values that are no rows -/
def oddsD (r : Rw) : List PyData := [.none, .int 5, .str r.1, .tuple [.str r.1, .str r.2.1], .tuple [.str r.1, .str r.2.1, .str r.2.2, .str "a"], .list [.str r.1, .str r.2.1, .str r.2.2], .tuple [.str "A", .str r.2.1, .str r.2.2],
  .tuple [.str r.1, .str "", .str r.2.2], .tuple [.str r.1, .str r.2.1, .str "xxxxxxxxxxxxx"], .tuple [.str r.1, .str r.2.1, .int 1], .tuple [.str r.1, .str "a b", .str r.2.2]]
theorem as_small : As 13 ("a" : Str) ∧ As 13 ("A" : Str) ∧ As 13 ("" : Str) ∧ As 13 ("xxxxxxxxxxxxx" : Str) ∧ As 13 ("a b" : Str) := by
  refine ⟨⟨?_, ?_⟩, ⟨?_, ?_⟩, ⟨?_, ?_⟩, ⟨?_, ?_⟩, ⟨?_, ?_⟩⟩ <;> decide +kernel
theorem no_small : isName (.str ("A" : Str)) = false ∧ isName (.str ("" : Str)) = false ∧ isName (.str ("xxxxxxxxxxxxx" : Str)) = false ∧ isName (.str ("a b" : Str)) = false := by decide +kernel
theorem odds_nice {r : Rw} (g : goodR r) : ∀ d ∈ oddsD r, Nice 1 1000 d := by
  have n1 : ∀ {x : Str}, As 13 x → Nice 0 132 (.str x) := fun h => nice_str h (by decide)
  have a1 := n1 (As.more (nameB_as g.1) (by decide))
  have a2 := n1 (As.more (nameB_as g.2.1) (by decide))
  have a3 := n1 (As.more (nameB_as g.2.2) (by decide))
  obtain ⟨k1, k2, k3, k4, k5⟩ := as_small
  have i1 : Nice 0 132 (.int 1) := (nice_nat (i := 1) (by decide)).more (Nat.le_refl _) (by decide)
  have i5 : Nice 0 132 (.int 5) := (nice_nat (i := 5) (by decide)).more (Nat.le_refl _) (by decide)
  have up : ∀ {d}, Nice 0 132 d → Nice 1 1000 d := fun h => h.more (by decide) (by decide)
  have t : ∀ {ds : List PyData}, (∀ x ∈ ds, Nice 0 132 x) → ds.length ≤ 4 → Nice 1 1000 (.tuple ds) := fun {ds} h hl => (nice_tup h (by omega)).more (by decide) (by omega)
  have l : ∀ {ds : List PyData}, (∀ x ∈ ds, Nice 0 132 x) → ds.length ≤ 4 → Nice 1 1000 (.list ds) := fun {ds} h hl => (nice_lst h (by omega)).more (by decide) (by omega)
  intro d hd
  simp only [oddsD, List.mem_cons, List.not_mem_nil, or_false] at hd
  rcases hd with rfl | rfl | rfl | rfl | rfl | rfl | rfl | rfl | rfl | rfl | rfl
  · exact nice_none.more (by decide) (by decide)
  · exact up i5
  · exact up a1
  · refine t (fun x hx => ?_) (by show 2 ≤ 4; decide)
    simp only [List.mem_cons, List.not_mem_nil, or_false] at hx
    rcases hx with rfl | rfl <;> assumption
  · refine t (fun x hx => ?_) (by show 4 ≤ 4; decide)
    simp only [List.mem_cons, List.not_mem_nil, or_false] at hx
    rcases hx with rfl | rfl | rfl | rfl <;> first | assumption | exact n1 k1
  · refine l (fun x hx => ?_) (by show 3 ≤ 4; decide)
    simp only [List.mem_cons, List.not_mem_nil, or_false] at hx
    rcases hx with rfl | rfl | rfl <;> assumption
  · refine t (fun x hx => ?_) (by show 3 ≤ 4; decide)
    simp only [List.mem_cons, List.not_mem_nil, or_false] at hx
    rcases hx with rfl | rfl | rfl <;> first | assumption | exact n1 k2
  · refine t (fun x hx => ?_) (by show 3 ≤ 4; decide)
    simp only [List.mem_cons, List.not_mem_nil, or_false] at hx
    rcases hx with rfl | rfl | rfl <;> first | assumption | exact n1 k3
  · refine t (fun x hx => ?_) (by show 3 ≤ 4; decide)
    simp only [List.mem_cons, List.not_mem_nil, or_false] at hx
    rcases hx with rfl | rfl | rfl <;> first | assumption | exact n1 k4
  · refine t (fun x hx => ?_) (by show 3 ≤ 4; decide)
    simp only [List.mem_cons, List.not_mem_nil, or_false] at hx
    rcases hx with rfl | rfl | rfl <;> assumption
  · refine t (fun x hx => ?_) (by show 3 ≤ 4; decide)
    simp only [List.mem_cons, List.not_mem_nil, or_false] at hx
    rcases hx with rfl | rfl | rfl <;> first | assumption | exact n1 k5
theorem odds_no {r : Rw} : ∀ d ∈ oddsD r, isRow d = false := by
  obtain ⟨h1, h2, h3, h4⟩ := no_small
  intro d hd
  simp only [oddsD, List.mem_cons, List.not_mem_nil, or_false] at hd
  rcases hd with rfl | rfl | rfl | rfl | rfl | rfl | rfl | rfl | rfl | rfl | rfl
  · rfl
  · rfl
  · rfl
  · rfl
  · rfl
  · rfl
  · simp [isRow, h1]
  · simp [isRow, h2]
  · simp [isRow, h3]
  · show (decide (3 = 3) && (isName (.str r.1) && (isName (.str r.2.1) && (isName (.int 1) && true)))) = false
    rw [show isName (.int 1) = false from rfl]; simp
  · simp [isRow, h4]
section
variable {w : World} {K : PySem.W.Frag} {mg : Str → Option Value} (T : Txt w K mg)
theorem bad_of {H1 : Hp} {v : V} {dv d : PyData} {ds : List PyData} {Q : VK} {E : XK} (hv : Dp K H1 v dv) (hd : dv = .list ds ∨ dv = .tuple ds) (g : ∀ x ∈ ds, gd x = true) (l : ds.length ≤ 300) (one : ∀ x ∈ ds, x = d ∨ isRow x = true) (m : d ∈ ds) (no : isRow d = false)
    (out : ∀ y H', Same H1 H' → Dp K H' y d → Out2 T.C_BadRow "what" "row" (.str "server") y H' E) :
    ∀ b dx, H1 b = none → H1 dx = none → dx ≠ b → spServer K T.C_Server T.C_BadRow (.ref b :: ([v] ++ [])) (upd (upd H1 dx (.own b)) b (.ins T.C_Server dx [])) (fun v H2 => v = .non ∧ Q (.ref b) H2) E := by
  intro b dx hb hdx nb
  have s3 : Same H1 (upd (upd H1 dx (.own b)) b (.ins T.C_Server dx [])) := (Same.newA hdx).trans (Same.newA (by rw [upd_ne (Ne.symm nb)]; exact hb))
  refine ⟨b, dx, v, dv, ds, rfl, upd_same, dp_mono s3 hv, hd, g, l, fun x y H' s' ⟨i, hx, _, hf⟩ hy => ?_, fun R' S' H' e2 g2 srt2 b4 sv => ?_⟩
  · rcases one x (List.mem_of_getElem? hx) with rfl | q
    · exact out y H' (s3.trans s') hy
    · rw [hf] at q; cases q
  · rw [e2] at m
    obtain ⟨r, hr, rfl⟩ := List.mem_map.mp m
    rw [isRow_row (g2 r hr)] at no; cases no
end
theorem told_lay {x : Str} (h : Asc x) : SeqAt.shaped (.tuple [.str "server", .str x]) = true := by
  have cv : PyData.strOk x = true := Array.all_eq_true_iff_forall_mem.mpr fun c hc => decide_eq_true (by have := h c (Array.mem_toList_iff.mpr hc); omega)
  unfold SeqAt.shaped
  simp only [PyData.canLay0, PyData.canLayAll0, PyData.depth, PyData.depthAll, cv, Bool.and_true]
  rw [show PyData.strOk ("server" : Str) = true by decide +kernel]
  rfl
/-- told != (w, repr(v)), and it is the same -/
theorem run_told {K : PySem.W.Frag} {B p c tb : Addr} {n i : Nat} {w : Str} {d : PyData} {v : V} {t : XK → TE} {σ : L2.St} {H : Hp} {Q : Bool → Hp → Prop} (hT : Tabs (TB1 tb) H) (P : Pen p c n H) (hv : σ[i]? = some (some v)) (hd : Dp K H v d) (sh : Shown d) (lay : SeqAt.shaped (.tuple [.str w, .str d.shown]) = true)
    (out : ∀ H1 E, ExtN H H1 → (∀ y H', Same H1 H' → Dp K H' y d → Out2 B "what" "row" (.str w) y H' E) → t E σ H1 fun _ _ => False) (k : ∀ H3, ExtN H H3 → Tabs (TB1 tb) H3 → Q false H3) :
    tTest (tOp (rNeD K) (tLam (TB1 tb) (TTold K B) t) (tTup (tCons (tC (.str w)) (tCons (tCB (rRepr K) (tCons (tVar i) tNil)) tNil)))) σ H Q := by
  refine ⟨hT, fun H1 eN T1 l hl => out _ _ (eN.trans (ExtN.of (Same.newA hl))) fun y H' s' hy d2 H2 s2 hd2 e => ⟨y, w, d, d2, rfl, s'.trans s2, .inl (dp_mono s2 hy), sh, rfl, e, fun q H3 s3 hq => ?_⟩⟩
  have hd3 : Dp K H3 v d := dp_mono s3 (P.dpK (.ext eN) hd)
  have eN3 : ExtN H H3 := eN.trans (ExtN.of s3)
  refine (ed_tup (F := nn H3) (ea_cons (ed_str (x := w)) (ea_cons (ed_repr (ed_var hv (dp_df hd3)) sh.1 sh.2.1 sh.2.2) ea_nil)) (by show 2 ≤ 100000; decide)) H3 (Same.refl _) _ fun u H4 s4 hu => ?_
  refine ⟨.tuple [.str w, .str d.shown], .tuple [.str w, .str d.shown], .tup (SqT.of (s4 _ _ hq)) (.cons (.str _) (.cons (.str _) .nil)), df_dp hu, lay, lay, _, rfl, ?_⟩
  have e : PyData.eqv (.tuple [.str w, .str d.shown]) (.tuple [.str w, .str d.shown]) = true := by
    have := eqv_tx [w, d.shown] [w, d.shown]
    rw [decide_eq_true rfl] at this; exact this
  rw [e]
  exact k H4 (eN3.trans (ExtN.of s4)) (fun q hq => (T1 q hq).ext (s3.trans s4))
theorem run_mk {C : Addr} {sp : Sp} {ds : List V} {E : XK} {ta : TA} {σ : L2.St} {H : Hp} {Q : VK} (h : ta σ H fun vs H1 => ∀ x dx, H1 x = none → H1 dx = none → dx ≠ x → sp (.ref x :: (vs ++ ds)) (upd (upd H1 dx (.own x)) x (.ins C dx [])) (fun v H2 => v = .non ∧ Q (.ref x) H2) E) : tMake C sp ds E ta σ H Q := h
theorem run_or {t u : TT} {σ : L2.St} {H : Hp} {Q : Bool → Hp → Prop} (h : t σ H fun b H1 => if b = true then Q true H1 else u σ H1 Q) : tOr t u σ H Q := h
theorem run_ifs {t : TT} {ta tb : TS} {D : Ends} {σ : L2.St} {H : Hp} (h : t σ H fun b H1 => if b = true then ta D σ H1 else tb D σ H1) : tIfS t ta tb D σ H := h
theorem run_ifq {t : TT} {ta tb tz : TS} {D : Ends} {σ : L2.St} {H : Hp} (h : t σ H fun b H1 => if b = true then ta { D with nx := fun σ H => tz D σ H } σ H1 else tb { D with nx := fun σ H => tz D σ H } σ H1) : tSeq (tIfS t ta tb) tz D σ H := h
end Ag

set_option Elab.async false
set_option linter.all false
set_option maxRecDepth 100000
set_option maxHeartbeats 4000000
set_option pp.maxSteps 500
namespace Ag
open PySem PySem.Spec PyProof.Rows L2 LamX
theorem ls_rowsD {K : PySem.W.Frag} {m rl ad pl : Addr} {ys : List (Addr × Rw)} {kvs : List (List Key × V)} {ps : List Str} {S : List Rw} {H H' : Hp} {t : Addr} (h : LsParts K m rl ad pl ys kvs ps S H) (s : Same H H') (ht : H' t = some (.tup (ys.map fun z => V.ref z.1))) : Dp K H' (.ref t) (rowsD S) := by
  unfold rowsD
  rw [← h.snd, List.map_map]
  exact .tup (SqT.of ht) (rows_dps (h.good.same s))
section
variable {P : Program} {w : World} {K : PySem.W.Frag} {mg : Str → Option Value} {base : Heap} (T : Txt w K mg)
theorem law_runs {cc tb a : Addr} {zs : List Int} {s : Shared} {H : Hp} (hcode : T.d_law.code = .ref cc) (hTB : TabB base mg cc tb) (hT : H tb = some (.tbl #[])) (hs : SqL K H a (zs.map V.int)) (hl : zs.length ≤ 63) (e0 : Env0 P w K mg base callerA [] s H) :
    codeAny (model P w) callerA (.call (.ref T.a_law) ⟨[.ref a], []⟩) (CR CX0 [] P w H s (fun v _ => v = .bl true) fun _ _ _ => False) s := by
  have G_law_pen := ok_law_pen (P := P) (base := base) T
  have G_law_draw := ok_draw (P := P) (base := base) T
  have G_law_pick := ok_pick (P := P) (base := base) T
  have G_law_shuffled := ok_shuf (P := P) (base := base) T
  have G_law_some := ok_some (P := P) (base := base) T
  have G_law_mixed := ok_mixed (P := P) (base := base) T
  have G_law_scene := ok_scene (P := P) (base := base) T
  have G_law_made_server := ok_made (P := P) (base := base) T
  have G_law_same := ok_same (P := P) (base := base) T 3
  have G_Server___init__ := ok_Server_init (P := P) (base := base) T
  have G_Server___len__ := ok_len (P := P) (base := base) T
  have G_Server___eq__ := ok_eq (P := P) (base := base) T
  have G_Server___contains__ := ok_in (P := P) (base := base) T
  have G_Server___add__ := ok_add (P := P) (base := base) T
  have G_Server___sub__ := ok_sub (P := P) (base := base) T
  have G_Server___or__ := ok_or (P := P) (base := base) T
  obtain ⟨oc, od, kV, doc, pm, an, cdv, ct, osl, efd, lk, hcd⟩ := T.D_law.fn.ex
  obtain ⟨oc', od', kV', doc', pm', an', cdv', ct', osl', efw, lkw, hcw⟩ := T.D_law_told.fn.ex
  have LK := lkw
  rw [efw] at LK
  have BW := T.D_law_told.bd
  rw [efw] at BW
  have BL := T.D_law.bd
  rw [efd] at BL lk hcode
  have hcode : cdv = .ref cc := hcode
  subst hcode
  have kIn : K.In s.heap := e0.mod.kin.keeps fun b o e => (e0.bs b o e).1
  have rm : Room 16 callerA := ⟨rfl, by decide +kernel, by decide +kernel⟩
  refine run_ofS (N := ["script", "pen", "machine", "server", "rows", "made", "handed", "again", "parts", "row", "place", "whole", "less", "odd", "value", "at", "other"]) (vs := [.ref a]) (us := [.ref a]) lk hcd sc_law rm e0 (BL s [.ref a] kIn rfl) (.cons rfl .nil) rfl fun hr => ?_
  refine ⟨_, (pss_cons (ps_set (i := 1) sc_law.nd rfl (by first | exact Or.inl rfl | exact Or.inr rfl) (pe_call (G_law_pen) (hr.mono (by omega)) (by rfl) T.D_law_pen.mg T.D_law_pen.fn.kp T.D_law_pen.bd .nil pass0 (pa_cons (pv 0) pa_nil)))
      (pss_cons (ps_asg (pe_call (G_law_scene) (hr.mono (by omega)) (by rfl) T.D_law_scene.mg T.D_law_scene.fn.kp T.D_law_scene.bd .nil pass0 (pa_cons (pv 1) pa_nil)) (pg_tup rfl (pgs_cons (pg_name (i := 2) sc_law.nd rfl (by first | exact Or.inl rfl | exact Or.inr rfl)) (pgs_cons (pg_name (i := 3) sc_law.nd rfl (by first | exact Or.inl rfl | exact Or.inr rfl)) pgs_nil))))
      (pss_cons (ps_set (i := 4) sc_law.nd rfl (by first | exact Or.inl rfl | exact Or.inr rfl) (pe_callTy call_tuple_of (by rfl) T.b_tuple bt_tuple (pa_cons (pe_dget (hu_of hr) (pv 3) pe_str (fun _ _ => rfl)) pa_nil)))
      (pss_cons (ps_set (i := 5) sc_law.nd rfl (by first | exact Or.inl rfl | exact Or.inr rfl) (pe_call (G_law_made_server) (hr.mono (by omega)) (by rfl) T.D_law_made_server.mg T.D_law_made_server.fn.kp T.D_law_made_server.bd .nil pass0 (pa_cons (pv 1) (pa_cons (pv 3) pa_nil))))
      (pss_cons (ps_set (i := 6) sc_law.nd rfl (by first | exact Or.inl rfl | exact Or.inr rfl) (pe_call (G_law_mixed) (hr.mono (by omega)) (by rfl) T.D_law_mixed.mg T.D_law_mixed.fn.kp T.D_law_mixed.bd .nil pass0 (pa_cons (pv 1) (pa_cons (pv 4) pa_nil))))
      (pss_cons (ps_set (i := 7) sc_law.nd rfl (by first | exact Or.inl rfl | exact Or.inr rfl) (pe_make T.mk_Server (G_Server___init__) (hr.mono (by omega)) (by rfl) T.g_Server T.D_Server___init__.bd .nil (passes_call LamX.takes0 fun _ _ _ _ z => z) (pa_cons (pv 6) pa_nil)))
      (C8.pss_cut (ps_if (pt_cmpR op_gt (pe_callB call_len (by rfl) T.b_len bt_len (pa_cons (pv 6) pa_nil)) pe_int (nomark _)) (pss_one (ps_expr (pe_bm0 PySem.F.plainAttrs_list PySem.F.slot_list_pop PySem.F.type_list_pop mt_pop (pv 6)))) pss_nil)
      (pss_cons (ps_if (PW.pt (pw_or (pt_not (pt_cmpR (op_eqA (G_Server___eq__) T.mt_Server___eq__ T.ns_Server (hr.mono (by omega)) T.D_Server___eq__.bd pass0) (pv 7) (pv 5) (nomark _))) (pw_or (pt_cmpR (op_neO (G_Server___eq__) T.mt_Server___eq__ T.om_Server T.on_Server (hr.mono (by omega)) T.D_Server___eq__.bd pass0) (pv 7) (pv 5) (nomark _)) (pw_or (pt_not (pt_val (pe_call (G_law_same) (hr.mono (by omega)) (by rfl) T.D_law_same.mg T.D_law_same.fn.kp T.D_law_same.bd .nil pass0 (pa_cons (pe_fld (pv 5) rfl) (pa_cons (pv 4) pa_nil))))) (pw_or1 (pt_cmpR op_ne (pe_callB (call_lenO (G_Server___len__) T.mt_Server___len__ (hr.mono (by omega)) T.D_Server___len__.bd pass0) (by rfl) T.b_len bt_len (pa_cons (pv 5) pa_nil)) (pe_callB call_len (by rfl) T.b_len bt_len (pa_cons (pv 4) pa_nil)) (nomark _))))))) (pss_one (ps_ret pe_bl)) pss_nil)
      (pss_cons (ps_set (i := 8) sc_law.nd rfl (by first | exact Or.inl rfl | exact Or.inr rfl) (pe_lst (pa_cons (pe_make T.mk_Server (G_Server___init__) (hr.mono (by omega)) (by rfl) T.g_Server T.D_Server___init__.bd .nil (passes_call LamX.takes0 fun _ _ _ _ z => z) (pa_cons (pe_tup pa_nil) pa_nil)) (pa_cons (pe_make T.mk_Server (G_Server___init__) (hr.mono (by omega)) (by rfl) T.g_Server T.D_Server___init__.bd .nil (passes_call LamX.takes0 fun _ _ _ _ z => z) (pa_cons (pe_lst pa_nil) pa_nil)) (pa_cons (pe_make T.mk_Server (G_Server___init__) (hr.mono (by omega)) (by rfl) T.g_Server T.D_Server___init__.bd .nil (passes_call LamX.takes0 fun _ _ _ _ z => z) (pa_cons (pe_tup pa_nil) pa_nil)) pa_nil)))))
      (pss_cons (ps_for (passes_of rfl) rfl (pi_list (pe_call (G_law_mixed) (hr.mono (by omega)) (by rfl) T.D_law_mixed.mg T.D_law_mixed.fn.kp T.D_law_mixed.bd .nil pass0 (pa_cons (pv 1) (pa_cons (pv 4) pa_nil)))) (pg_name (i := 9) sc_law.nd rfl (by first | exact Or.inl rfl | exact Or.inr rfl)) (pss_cons (ps_set (i := 10) sc_law.nd rfl (by first | exact Or.inl rfl | exact Or.inr rfl) (pe_call (G_law_draw) (hr.mono (by omega)) (by rfl) T.D_law_draw.mg T.D_law_draw.fn.kp T.D_law_draw.bd .nil pass0 (pa_cons (pv 1) (pa_cons pe_int pa_nil))))
      (pss_cons (ps_asg (pe_op (op_binO (G_Server___add__) T.oc_Server_Add T.mt_Server___add__ dund_add (hr.mono (by omega)) T.D_Server___add__.bd (passes_call LamX.takes0 fun _ _ _ _ z => z)) (pe_ix (r := rIx K) ix_seq (pv 8) (pv 10) (fun _ _ => rfl)) (pv 9)) (pg_sub (pv 8) (pv 10) set_list))
      (pss_one (ps_if (pt_cmpR (op_notInO (G_Server___contains__) T.mt_Server___contains__ (hr.mono (by omega)) T.D_Server___contains__.bd pass0) (pv 9) (pe_ix (r := rIx K) ix_seq (pv 8) (pv 10) (fun _ _ => rfl)) (by rfl)) (pss_one (ps_ret pe_bl)) pss_nil)))))
      (pss_cons (ps_set (i := 11) sc_law.nd rfl (by first | exact Or.inl rfl | exact Or.inr rfl) (pe_make T.mk_Server (G_Server___init__) (hr.mono (by omega)) (by rfl) T.g_Server T.D_Server___init__.bd .nil (passes_call LamX.takes0 fun _ _ _ _ z => z) (pa_cons (pe_tup pa_nil) pa_nil)))
      (pss_cons (ps_for (passes_of rfl) rfl (pi_list (pe_call (G_law_shuffled) (hr.mono (by omega)) (by rfl) T.D_law_shuffled.mg T.D_law_shuffled.fn.kp T.D_law_shuffled.bd .nil pass0 (pa_cons (pv 1) (pa_cons (pe_lst (pa_cons pe_int (pa_cons pe_int (pa_cons pe_int (pa_cons (pe_call (G_law_draw) (hr.mono (by omega)) (by rfl) T.D_law_draw.mg T.D_law_draw.fn.kp T.D_law_draw.bd .nil pass0 (pa_cons (pv 1) (pa_cons pe_int pa_nil))) pa_nil))))) pa_nil)))) (pg_name (i := 10) sc_law.nd rfl (by first | exact Or.inl rfl | exact Or.inr rfl)) (pss_one (ps_set (i := 11) sc_law.nd rfl (by first | exact Or.inl rfl | exact Or.inr rfl) (pe_op (op_binO (G_Server___or__) T.oc_Server_BitOr T.mt_Server___or__ dund_or (hr.mono (by omega)) T.D_Server___or__.bd (passes_call LamX.takes0 fun _ _ _ _ z => z)) (pv 11) (pe_ix (r := rIx K) ix_seq (pv 8) (pv 10) (fun _ _ => rfl))))))
      (pss_cons (ps_if (PW.pt (pw_or (pt_not (pt_cmpR (op_eqA (G_Server___eq__) T.mt_Server___eq__ T.ns_Server (hr.mono (by omega)) T.D_Server___eq__.bd pass0) (pv 11) (pv 5) (nomark _))) (pw_or1 (pt_not (pt_cmpR (op_eqA (G_Server___eq__) T.mt_Server___eq__ T.ns_Server (hr.mono (by omega)) T.D_Server___eq__.bd pass0) (pe_op (op_binO (G_Server___or__) T.oc_Server_BitOr T.mt_Server___or__ dund_or (hr.mono (by omega)) T.D_Server___or__.bd (passes_call LamX.takes0 fun _ _ _ _ z => z)) (pe_ix (r := rIx K) ix_seq (pv 8) pe_int (fun _ _ => rfl)) (pe_ix (r := rIx K) ix_seq (pv 8) pe_int (fun _ _ => rfl))) (pe_op (op_binO (G_Server___or__) T.oc_Server_BitOr T.mt_Server___or__ dund_or (hr.mono (by omega)) T.D_Server___or__.bd (passes_call LamX.takes0 fun _ _ _ _ z => z)) (pe_ix (r := rIx K) ix_seq (pv 8) pe_int (fun _ _ => rfl)) (pe_ix (r := rIx K) ix_seq (pv 8) pe_int (fun _ _ => rfl))) (nomark _)))))) (pss_one (ps_ret pe_bl)) pss_nil)
      (pss_cons (ps_for (passes_of rfl) rfl (pi_list (pe_call (G_law_some) (hr.mono (by omega)) (by rfl) T.D_law_some.mg T.D_law_some.fn.kp T.D_law_some.bd .nil pass0 (pa_cons (pv 1) (pa_cons (pv 4) (pa_cons pe_int pa_nil))))) (pg_name (i := 9) sc_law.nd rfl (by first | exact Or.inl rfl | exact Or.inr rfl)) (pss_cons (ps_set (i := 12) sc_law.nd rfl (by first | exact Or.inl rfl | exact Or.inr rfl) (pe_op (op_binO (G_Server___sub__) T.oc_Server_Sub T.mt_Server___sub__ dund_sub (hr.mono (by omega)) T.D_Server___sub__.bd (passes_call LamX.takes0 fun _ _ _ _ z => z)) (pv 11) (pv 9)))
      (pss_one (ps_if (PW.pt (pw_or (pt_cmpR (op_inO (G_Server___contains__) T.mt_Server___contains__ (hr.mono (by omega)) T.D_Server___contains__.bd pass0) (pv 9) (pv 12) (by rfl)) (pw_or (pt_not (pt_cmpR (op_eqA (G_Server___eq__) T.mt_Server___eq__ T.ns_Server (hr.mono (by omega)) T.D_Server___eq__.bd pass0) (pe_op (op_binO (G_Server___sub__) T.oc_Server_Sub T.mt_Server___sub__ dund_sub (hr.mono (by omega)) T.D_Server___sub__.bd (passes_call LamX.takes0 fun _ _ _ _ z => z)) (pv 12) (pv 9)) (pv 12) (nomark _))) (pw_or (pt_not (pt_cmpR (op_eqA (G_Server___eq__) T.mt_Server___eq__ T.ns_Server (hr.mono (by omega)) T.D_Server___eq__.bd pass0) (pe_op (op_binO (G_Server___or__) T.oc_Server_BitOr T.mt_Server___or__ dund_or (hr.mono (by omega)) T.D_Server___or__.bd (passes_call LamX.takes0 fun _ _ _ _ z => z)) (pe_op (op_binO (G_Server___add__) T.oc_Server_Add T.mt_Server___add__ dund_add (hr.mono (by omega)) T.D_Server___add__.bd (passes_call LamX.takes0 fun _ _ _ _ z => z)) (pv 12) (pv 9)) (pv 11)) (pv 11) (nomark _))) (pw_or (pt_cmpR (op_eqA (G_Server___eq__) T.mt_Server___eq__ T.ns_Server (hr.mono (by omega)) T.D_Server___eq__.bd pass0) (pv 12) (pv 11) (nomark _)) (pw_or1 (pt_cmpR op_ne (pe_callB (call_lenO (G_Server___len__) T.mt_Server___len__ (hr.mono (by omega)) T.D_Server___len__.bd pass0) (by rfl) T.b_len bt_len (pa_cons (pv 12) pa_nil)) (pe_op op_sub (pe_callB (call_lenO (G_Server___len__) T.mt_Server___len__ (hr.mono (by omega)) T.D_Server___len__.bd pass0) (by rfl) T.b_len bt_len (pa_cons (pv 11) pa_nil)) pe_int) (nomark _)))))))) (pss_one (ps_ret pe_bl)) pss_nil))))
      (pss_cons (ps_set (i := 9) sc_law.nd rfl (by first | exact Or.inl rfl | exact Or.inr rfl) (pe_call (G_law_pick) (hr.mono (by omega)) (by rfl) T.D_law_pick.mg T.D_law_pick.fn.kp T.D_law_pick.bd .nil pass0 (pa_cons (pv 1) (pa_cons (pv 4) pa_nil))))
      (pss_cons (ps_set (i := 13) sc_law.nd rfl (by first | exact Or.inl rfl | exact Or.inr rfl) (pe_lst (pa_cons pe_non (pa_cons pe_int (pa_cons (pe_ix (r := rIx K) ix_seq (pv 9) pe_int (fun _ _ => rfl)) (pa_cons (pe_slice sl_tupA (pv 9) po_none (po_some pe_int)) (pa_cons (pe_op op_catA (pv 9) (pe_tup (pa_cons pe_str pa_nil))) (pa_cons (pe_callTy call_list_of (by rfl) T.b_list bt_list (pa_cons (pv 9) pa_nil)) (pa_cons (pe_op op_catA (pe_tup (pa_cons pe_str pa_nil)) (pe_slice sl_tupA (pv 9) (po_some pe_int) po_none)) (pa_cons (pe_op op_catA (pe_op op_catA (pe_slice sl_tupA (pv 9) po_none (po_some pe_int)) (pe_tup (pa_cons pe_str pa_nil))) (pe_slice sl_tupA (pv 9) (po_some pe_int) po_none)) (pa_cons (pe_op op_catA (pe_slice sl_tupA (pv 9) po_none (po_some pe_int)) (pe_tup (pa_cons (pe_op op_repS pe_str pe_int) pa_nil))) (pa_cons (pe_op op_catA (pe_slice sl_tupA (pv 9) po_none (po_some pe_int)) (pe_tup (pa_cons pe_int pa_nil))) (pa_cons (pe_tup (pa_cons (pe_ix (r := rIx K) ix_seq (pv 9) pe_int (fun _ _ => rfl)) (pa_cons pe_str (pa_cons (pe_ix (r := rIx K) ix_seq (pv 9) pe_int (fun _ _ => rfl)) pa_nil)))) pa_nil)))))))))))))
      (pss_cons (ps_for (passes_of rfl) rfl (pi_list (pe_slice sl_list (pe_call (G_law_shuffled) (hr.mono (by omega)) (by rfl) T.D_law_shuffled.mg T.D_law_shuffled.fn.kp T.D_law_shuffled.bd .nil pass0 (pa_cons (pv 1) (pa_cons (pv 13) pa_nil))) po_none (po_some pe_int))) (pg_name (i := 14) sc_law.nd rfl (by first | exact Or.inl rfl | exact Or.inr rfl)) (pss_cons (ps_set (i := 15) sc_law.nd rfl (by first | exact Or.inl rfl | exact Or.inr rfl) (pe_call (G_law_draw) (hr.mono (by omega)) (by rfl) T.D_law_draw.mg T.D_law_draw.fn.kp T.D_law_draw.bd .nil pass0 (pa_cons (pv 1) (pa_cons (pe_op op_add (pe_callB call_len (by rfl) T.b_len bt_len (pa_cons (pv 4) pa_nil)) pe_int) pa_nil))))
      (pss_cons (ps_if (pt_cmpR (op_neD hr.units) (pe_lamat (t := fun E => tMake T.C_Server (spServer K T.C_Server T.C_BadRow) [] E (tCons (tOp (rCatA K) (tOp (rCatA K) (tSl (rSlA K) (tVar 4) tNoPart (tPart (tVar 15))) (tTup (tCons (tVar 14) tNil))) (tSl (rSlA K) (tVar 4) (tPart (tVar 15)) tNoPart)) tNil)) (T := TB1 tb) (P := tb) (c := cc) (k := 12) (by rfl) T.D_law_told.mg T.D_law_told.fn.kp LK hcw BW sc_law_told rfl (.inl rfl) (told_gives T rfl (by show callerA.units + 3 + 400 < cLine; decide +kernel)) hTB rfl (List.mem_singleton.mpr rfl) (fun q hq _ => by rw [List.mem_singleton.mp hq]; rfl) (hr.mono (by omega)) (lamS_by (sc := defScope s_law) (by decide +kernel)) rfl (fun _ _ _ _ _ => rfl) (fun A outer s H E f c' hr => (pe_make T.mk_Server (G_Server___init__) (hr.mono (by omega)) (by rfl) T.g_Server T.D_Server___init__.bd .nil (passes_call (takes_of rfl rfl rfl rfl) fun _ _ _ _ z => z) (pa_cons (pe_op op_catA (pe_op op_catA (pe_slice sl_tupA (pv 4) po_none (po_some (pv 15))) (pe_tup (pa_cons (pv 14) pa_nil))) (pe_slice sl_tupA (pv 4) (po_some (pv 15)) po_none)) pa_nil)))) (pe_tup (pa_cons pe_str (pa_cons (pe_callB (cr_repr rfl hr.units) (by rfl) T.b_repr bt_repr (pa_cons (pv 14) pa_nil)) pa_nil))) (nomark _)) (pss_one (ps_ret pe_bl)) pss_nil)
      (pss_cons (ps_if (pt_cmpR (op_neD hr.units) (pe_lamat (t := fun E => tOp (rBinO K T.C_Server (spAddS K T.C_Server T.C_BadRow) E) (tVar 5) (tVar 14)) (T := TB1 tb) (P := tb) (c := cc) (k := 12) (by rfl) T.D_law_told.mg T.D_law_told.fn.kp LK hcw BW sc_law_told rfl (.inl rfl) (told_gives T rfl (by show callerA.units + 3 + 400 < cLine; decide +kernel)) hTB rfl (List.mem_singleton.mpr rfl) (fun q hq _ => by rw [List.mem_singleton.mp hq]; rfl) (hr.mono (by omega)) (lamS_by (sc := defScope s_law) (by decide +kernel)) rfl (fun _ _ _ _ _ => rfl) (fun A outer s H E f c' hr => (pe_op (op_binO (G_Server___add__) T.oc_Server_Add T.mt_Server___add__ dund_add (hr.mono (by omega)) T.D_Server___add__.bd (passes_call (takes_of rfl rfl rfl rfl) fun _ _ _ _ z => z)) (pv 5) (pv 14)))) (pe_tup (pa_cons pe_str (pa_cons (pe_callB (cr_repr rfl hr.units) (by rfl) T.b_repr bt_repr (pa_cons (pv 14) pa_nil)) pa_nil))) (nomark _)) (pss_one (ps_ret pe_bl)) pss_nil)
      (pss_one (ps_if (PW.pt (pw_or (pt_cmpR (op_neD hr.units) (pe_lamat (t := fun E => tOp (rBinO K T.C_Server (spSubS K T.C_Server T.C_BadRow) E) (tVar 5) (tVar 14)) (T := TB1 tb) (P := tb) (c := cc) (k := 12) (by rfl) T.D_law_told.mg T.D_law_told.fn.kp LK hcw BW sc_law_told rfl (.inl rfl) (told_gives T rfl (by show callerA.units + 3 + 400 < cLine; decide +kernel)) hTB rfl (List.mem_singleton.mpr rfl) (fun q hq _ => by rw [List.mem_singleton.mp hq]; rfl) (hr.mono (by omega)) (lamS_by (sc := defScope s_law) (by decide +kernel)) rfl (fun _ _ _ _ _ => rfl) (fun A outer s H E f c' hr => (pe_op (op_binO (G_Server___sub__) T.oc_Server_Sub T.mt_Server___sub__ dund_sub (hr.mono (by omega)) T.D_Server___sub__.bd (passes_call (takes_of rfl rfl rfl rfl) fun _ _ _ _ z => z)) (pv 5) (pv 14)))) (pe_tup (pa_cons pe_str (pa_cons (pe_callB (cr_repr rfl hr.units) (by rfl) T.b_repr bt_repr (pa_cons (pv 14) pa_nil)) pa_nil))) (nomark _)) (pw_or (pt_cmpR (op_inO (G_Server___contains__) T.mt_Server___contains__ (hr.mono (by omega)) T.D_Server___contains__.bd pass0) (pv 14) (pv 5) (by rfl)) (pw_or1 (pt_cmpR (op_eqA (G_Server___eq__) T.mt_Server___eq__ T.ns_Server (hr.mono (by omega)) T.D_Server___eq__.bd pass0) (pv 5) (pv 14) (nomark _)))))) (pss_one (ps_ret pe_bl)) pss_nil))))))
      (pss_cons (ps_set (i := 16) sc_law.nd rfl (by first | exact Or.inl rfl | exact Or.inr rfl) (pe_op op_catA (pe_slice sl_tupA (pv 9) po_none (po_some pe_int)) (pe_tup (pa_cons pe_str pa_nil))))
      (pss_one (ps_ret (pe_and (pe_cmpR (op_notInO (G_Server___contains__) T.mt_Server___contains__ (hr.mono (by omega)) T.D_Server___contains__.bd pass0) (pv 16) (pv 5) (by rfl)) (pe_and (pe_cmpR (op_eqA (G_Server___eq__) T.mt_Server___eq__ T.ns_Server (hr.mono (by omega)) T.D_Server___eq__.bd pass0) (pe_op (op_binO (G_Server___sub__) T.oc_Server_Sub T.mt_Server___sub__ dund_sub (hr.mono (by omega)) T.D_Server___sub__.bd (passes_call LamX.takes0 fun _ _ _ _ z => z)) (pv 5) (pv 16)) (pv 5) (nomark _)) (pe_and (pe_cmpR (op_inO (G_Server___contains__) T.mt_Server___contains__ (hr.mono (by omega)) T.D_Server___contains__.bd pass0) (pv 16) (pe_op (op_binO (G_Server___add__) T.oc_Server_Add T.mt_Server___add__ dund_add (hr.mono (by omega)) T.D_Server___add__.bd (passes_call LamX.takes0 fun _ _ _ _ z => z)) (pv 5) (pv 16)) (by rfl)) (pe_one (pe_cmpR (op_eqA (G_Server___eq__) T.mt_Server___eq__ T.ns_Server (hr.mono (by omega)) T.D_Server___eq__.bd pass0) (pe_op (op_binO (G_Server___or__) T.oc_Server_BitOr T.mt_Server___or__ dund_or (hr.mono (by omega)) T.D_Server___or__.bd (passes_call LamX.takes0 fun _ _ _ _ z => z)) (pv 5) (pe_make T.mk_Server (G_Server___init__) (hr.mono (by omega)) (by rfl) T.g_Server T.D_Server___init__.bd .nil (passes_call LamX.takes0 fun _ _ _ _ z => z) (pa_cons (pe_tup (pa_cons (pv 16) pa_nil)) pa_nil))) (pe_op (op_binO (G_Server___add__) T.oc_Server_Add T.mt_Server___add__ dund_add (hr.mono (by omega)) T.D_Server___add__.bd (passes_call LamX.takes0 fun _ _ _ _ z => z)) (pv 5) (pv 16)) (nomark _)))))))))))))))))))))))))), ?_⟩
  refine ⟨_, rfl, a, zs, rfl, hs, hl, fun p c H1 s1 P1 => ?_⟩
  have T1 : Tabs (TB1 tb) H1 := fun q hq => by
    rw [List.mem_singleton.mp hq]; exact (TabS.nil hT).ext s1
  refine ⟨_, rfl, p, c, 0, rfl, P1, by decide, fun t g m M ps S H2 b2 P2 ht ⟨rl, ad, pl, ys, kvs, qs, ls⟩ M4 hps inp ne S40 => ⟨t, _, rfl, ht, rfl, _, _, rfl, _, _, rfl, rfl, ?_⟩⟩
  refine ⟨_, rfl, m, _, rfl, ls_rows ls.dict, rl, _, rfl, .inl ⟨SqL.of ls.rows, fun rt hrt => ?_⟩⟩
  have s3 := Same.newA (o := .tup (ys.map fun z => V.ref z.1)) hrt
  have R3 := ls_rowsD ls s3 upd_same
  have P3 := P2.same s3
  have T3 := (tabs_but P1 b2 T1).ext s3
  have ls3 : LsAt K m S _ := LsAt.same s3 ⟨rl, ad, pl, ys, kvs, qs, ls⟩
  revert R3 P3 T3 ls3
  generalize upd H2 rt (.tup (ys.map fun z => V.ref z.1)) = H3
  intro R3 P3 T3 ls3
  clear s3 hrt ls ht b2 P2 P1 T1
  have gS := ls3.goodR
  refine ⟨_, rfl, _, rfl, p, c, m, _, S, rfl, P3, ls3, by omega, by omega, fun mb H4 b4 P4 sv4 => ?_⟩
  have L4 : Lw K T.C_Server p c rt mb tb 5000 S H4 := ⟨P4.more (by omega), tabs_but P3 b4 T3, P3.dp b4 R3, sv4⟩
  clear P4 sv4 b4 ls3 R3 P3 T3
  obtain ⟨vs, zs, ert, evs, ezs, hzs⟩ : ∃ vs zs, SqT K H4 rt vs ∧ vs = zs.map (fun z : Addr × Rw => V.ref z.1) ∧ zs.map Prod.snd = S ∧ RowsAt K H4 zs := by
    have := L4.rows
    unfold rowsD at this
    cases this with
    | tup hs r =>
      obtain ⟨zs, z1, z2, z3⟩ := rows_at r gS
      exact ⟨_, zs, hs, z1, z2, z3⟩
  subst evs
  have zl : zs.length ≤ 40 := by rw [← ezs, List.length_map] at S40; exact S40
  -- handed, again
  refine ⟨_, rfl, _, rfl, p, c, rt, _, _, rfl, L4.pen, .inr ert, by rw [List.length_map]; omega, by omega, fun hd us more H5 pm hm ml fhd eh b5 P5 => ?_⟩
  obtain ⟨M5, rfl, hM5, mM5, lM5⟩ := mixed_rows (K := K) (H := H5) pm hm fun z hz => ⟨L4.pen.st b5 (hzs z hz).1, (hzs z hz).2⟩
  rw [List.length_map] at P5
  have L5 : Lw K T.C_Server p c rt mb tb 6000 S H5 := L4.but b5 (P5.more (by omega))
  have up := L5.made.up
  have srtM : Srt (M5.map Prod.snd) S := ⟨up, fun r => by rw [mM5, ezs]⟩
  have gM : ∀ r ∈ M5.map Prod.snd, goodR r := fun r hr => gS r ((srtM.2 r).mpr hr)
  refine run_asg (es_make T (F := nn H5) (R := M5.map Prod.snd) (S := S) (ed_var (i := 6) rfl (dp_df (.lst (SqL.of eh) (by rw [List.map_map]; exact rows_dps hM5)))) (.inl rfl) gM (by rw [List.length_map]; omega) srtM H5 (Same.refl _) _ fun ab H6 s6 sv6 => ?_)
  have L6 := L5.same s6
  have eh6 := s6 _ _ eh
  dsimp only [gName]
  have nhp : hd ≠ p := L6.pen.ne eh6 fun _ e => nomatch e
  have nhc : hd ≠ c := L4.pen.ne_c fhd
  refine ⟨fun σ' H' => σ' = [some (.ref a), some (.ref p), some (.ref g), some (.ref m), some (.ref rt), some (.ref mb), some (.ref hd), some (.ref ab), none, none, none, none, none, none, none, none, none] ∧ Lw K T.C_Server p c rt mb tb 6000 S H' ∧ ServerAt K T.C_Server ab S H', ?_, ?_⟩
  · refine ⟨_, rfl, _, _, rfl, .inl ⟨_, SqL.of eh6, rfl⟩, _, _, rfl, rfl, _, rfl, ite2 (fun hpos => ?_) fun _ => ⟨rfl, L6, sv6⟩⟩
    have lp : 0 < (M5.map fun z => V.ref z.1).length := by
      have := of_decide_eq_true hpos
      omega
    exact ⟨_, rfl, .inl ⟨rfl, _, SqL.of eh6⟩, hd, _, _, rfl, rfl, eh6, List.getElem?_eq_getElem (by omega), rfl, L6.upd eh6 nhp nhc, sv6.lst eh6⟩
  · clear eh6 sv6 L6 s6 eh b5 P5 L5 hM5 mM5 lM5 pm hm ml
    rintro σ' H7 ⟨rfl, L7, sv7⟩
    refine s_if (b := false) (et_is (et_or (et_not (et_test (ed_eqSv (F := nn H7) (es_var (i := 7) rfl sv7) (es_var (i := 5) rfl L7.made)))) fun _ => et_or (et_test (ed_neSv (F := nn H7) (es_var (i := 7) rfl sv7) (es_var (i := 5) rfl L7.made))) fun _ => et_or (et_not (et_B (F := nn H7) (b := true) (ed_call (ea_cons (ed_rows (i := 5) rfl T.cl_Server T.na_Server_rows L7.made) (ea_cons (ed_var (i := 4) rfl (df_rows L7.rows)) ea_nil)) ?_))) fun _ => et_test (ed_neI (F := nn H7) (ed_lenSv (es_var (i := 5) rfl L7.made)) (ed_len (ed_var (i := 4) rfl (df_rows L7.rows)) rfl))) ?_) (fun h => nomatch h) (fun _ H8 s8 => ?_)
    · exact rdc_same (sm_rows gS (by omega))
    · show (!decide (S = S) || ((!decide (S = S)) || ((!true) || !decide (((S.length : Nat) : Int) = (((S.map rowD).length : Nat) : Int))))) = false
      rw [List.length_map]; simp
    -- parts
    have L8 := L7.same s8
    clear sv7 L7 s8
    have e0S : Srt [] [] := ⟨.nil, fun _ => Iff.rfl⟩
    refine run_asg (run_lstT (run_esc (es_make T (F := nn H8) (R := []) (ed_tup ea_nil (by show 0 ≤ 100000; decide)) (.inr rfl) (fun r hr => nomatch hr) (by show 0 ≤ 300; decide) e0S) fun b1 H9 s9 sv1 => run_esc (es_make T (F := nn H9) (R := []) (ed_lst ea_nil (by show 0 ≤ 100000; decide)) (.inl rfl) (fun r hr => nomatch hr) (by show 0 ≤ 300; decide) e0S) fun b2 H10 s10 sv2 => run_esc (es_make T (F := nn H10) (R := []) (ed_tup ea_nil (by show 0 ≤ 100000; decide)) (.inr rfl) (fun r hr => nomatch hr) (by show 0 ≤ 300; decide) e0S) fun b3 H11 s11 sv3 => ⟨(by show 3 ≤ sizeLine; decide), fun pl hpl => ?_⟩))
    have s12 := Same.newA (o := .lst [.ref b1, .ref b2, .ref b3]) hpl
    have L12 := L8.same (s9.trans (s10.trans (s11.trans s12)))
    have nplp : pl ≠ p := (L8.same (s9.trans (s10.trans s11))).pen.ne_p hpl
    have nplc : pl ≠ c := (L8.same (s9.trans (s10.trans s11))).pen.ne_c hpl
    have Q12 : Pts K T.C_Server pl [b1, b2, b3] [[], [], []] S [] (upd H11 pl (.lst [.ref b1, .ref b2, .ref b3])) := by
      refine ⟨upd_same, ⟨rfl, fun i b T e1 e2 => ?_⟩, rfl, fun j T e r hr => ?_, fun r hr => nomatch hr⟩
      · match i, e1, e2 with
        | 0, e1, e2 => cases e1; cases e2; exact sv1.same (s10.trans (s11.trans s12))
        | 1, e1, e2 => cases e1; cases e2; exact sv2.same (s11.trans s12)
        | 2, e1, e2 => cases e1; cases e2; exact sv3.same s12
      · match j, e with
        | 0, e => cases e; cases hr
        | 1, e => cases e; cases hr
        | 2, e => cases e; cases hr
    revert L12 Q12
    generalize upd H11 pl (.lst [.ref b1, .ref b2, .ref b3]) = H12
    intro L12 Q12
    clear s12 hpl sv1 sv2 sv3 s9 s10 s11 L8
    dsimp only [gName]
    -- rows into parts
    obtain ⟨zs2, ert2, ez2, hz2⟩ := rows_in L12.rows gS
    have zl2 : zs2.length ≤ 40 := by rw [← ez2, List.length_map] at S40; exact S40
    refine ⟨_, rfl, _, rfl, p, c, rt, _, _, rfl, L12.pen, .inr ert2, by rw [List.length_map]; omega, by omega, fun ml us more H13 pm hm ml3 fml eml b13 P13 => ?_⟩
    obtain ⟨M, rfl, hM, mM, lM⟩ := mixed_rows (K := K) (H := H13) pm hm fun z hz => ⟨L12.pen.st b13 (hz2 z hz).1, (hz2 z hz).2⟩
    rw [List.length_map] at P13
    have L13 : Lw K T.C_Server p c rt mb tb 7000 S H13 := L12.but b13 (P13.more (by omega))
    have Q13 := Q12.but L12.pen b13
    have nml : ml ≠ pl := fun e => by rw [e, Q12.lst] at fml; cases fml
    have inS : ∀ z ∈ M, z.2 ∈ S := fun z hz => by rw [← ez2, ← mM]; exact List.mem_map.mpr ⟨z, hz, rfl⟩
    have ml40 : M.length ≤ 43 := by omega
    clear L12 Q12 ert2 hz2 b13 P13 fml pm hm
    refine ⟨ml, rfl, ⟨_, SqL.of eml⟩, for_list (K := K) (a := ml) (xs := M.map fun z => V.ref z.1) (fun i σ' H' => ∃ (o9 o10 : Option V) (bs : List Addr) (Ss : List (List Rw)), σ' = [some (.ref a), some (.ref p), some (.ref g), some (.ref m), some (.ref rt), some (.ref mb), some (.ref hd), some (.ref ab), some (.ref pl), o9, o10, none, none, none, none, none, none] ∧ Lw K T.C_Server p c rt mb tb (7000 + 2 * i) S H' ∧ Pts K T.C_Server pl bs Ss S ((M.take i).map Prod.snd) H' ∧ RowsAt K H' M ∧ H' ml = some (.lst (M.map fun z => V.ref z.1)))
      ⟨none, none, _, _, rfl, L13, Q13, hM, eml⟩ (fun i σ' H' _ ⟨_, _, _, _, _, _, _, _, e⟩ => SqL.of e) ?_ ?_⟩
    · clear L13 Q13 hM eml
      rintro i v σ' H14 hv ⟨o9, o10, bs, Ss, rfl, L14, Q14, hM, eml⟩
      rw [List.getElem?_map] at hv
      cases ez : M[i]? with
      | none => rw [ez] at hv; cases hv
      | some z =>
        rw [ez] at hv
        cases hv
        have zm := List.mem_of_getElem? ez
        have il : i < M.length := (List.getElem?_eq_some_iff.mp ez).1
        dsimp only [gName]
        refine ⟨_, rfl, p, c, 3, _, rfl, L14.pen, by decide, by decide, by omega, fun d H15 d0 d3 b15 P15 => ?_⟩
        obtain ⟨j, rfl⟩ : ∃ j : Nat, d = j := ⟨d.toNat, by omega⟩
        have L15 := L14.but b15 P15
        have Q15 := Q14.but L14.pen b15
        have hM15 := hM.but L14.pen b15
        have eml15 := b15 _ _ (L14.pen.ne eml fun _ e => nomatch e) eml
        obtain ⟨U, hU⟩ := Q15.at_ (j := j) (by omega)
        obtain ⟨U', srtU⟩ := srt_ex (U ++ [z.2])
        have jb : j < bs.length := by rw [Q15.svs.1, Q15.len]; omega
        have eb : bs[j]? = some bs[j] := List.getElem?_eq_getElem jb
        have svU := Q15.svs.2 j _ _ eb hU
        have lU : U.length ≤ 40 := Nat.le_trans (nodup_len U S svU.up.nodup (Q15.sub _ _ hU)) S40
        have gz : goodR z.2 := gS _ (inS z zm)
        clear L14 Q14 hM eml b15 P15
        refine run_asg (es_add (es_at (i := 8) (j := j) (F := nn H15) rfl Q15.lst (ed_var (i := 10) rfl (.int _)) Q15.svs hU) (ed_var (i := 9) (F := nn H15) (d := rowD z.2) rfl (dp_df (row_dp (hM15 z zm).1))) gz (by omega) srtU H15 (Same.refl _) _ fun nb H16 s16 svN => ?_)
        have L16 := L15.same s16
        have Q16 := Q15.same s16
        refine ⟨_, rfl, _, rfl, pl, _, _, j, rfl, rfl, Q16.lst, by unfold ixN; rw [if_pos (by omega), if_pos (by rw [List.length_map]; omega)]; simp, ?_⟩
        have Q17 := Q16.mk1 hU srtU (inS z zm) svN
        have L17 := L16.upd (o := .lst ((bs.map V.ref).set j (.ref nb))) Q16.lst nplp nplc
        have hM17 := (hM15.same s16).lst (o := .lst ((bs.map V.ref).set j (.ref nb))) Q16.lst
        have eml17 : (upd H16 pl (.lst ((bs.map V.ref).set j (.ref nb)))) ml = some (.lst (M.map fun z => V.ref z.1)) := by rw [upd_ne nml]; exact s16 _ _ eml15
        revert Q17 L17 hM17 eml17
        generalize upd H16 pl (.lst ((bs.map V.ref).set j (.ref nb))) = H17
        intro Q17 L17 hM17 eml17
        clear L15 Q15 hM15 eml15 L16 Q16 svN s16
        have jl : j < Ss.length := (List.getElem?_eq_some_iff.mp hU).1
        have hU' : (Ss.set j U')[j]? = some U' := List.getElem?_set_self jl
        refine s_if (b := false) (et_is (et_test (ed_inSv (F := nn H17) (ed_var (i := 9) (d := rowD z.2) rfl (dp_df (row_dp (hM17 z zm).1))) gz (es_at (i := 8) (j := j) (F := nn H17) rfl Q17.lst (ed_var (i := 10) rfl (.int _)) Q17.svs hU'))) ?_) (fun h => nomatch h) (fun _ H18 s18 => ?_)
        · rw [if_pos rfl, decide_eq_true ((srtU.2 _).mpr (List.mem_append_right _ List.mem_cons_self))]; rfl
        · refine ⟨_, _, bs.set j nb, Ss.set j U', rfl, (L17.same s18).more (by omega), ?_, hM17.same s18, s18 _ _ eml17⟩
          rw [take_snoc ez, List.map_append]
          exact Q17.same s18
    · clear L13 Q13 hM eml
      rintro σ' H14 ⟨o9, o10, bs, Ss, rfl, L14, Q14, hM, eml⟩
      rw [List.length_map] at Q14 L14
      rw [List.take_length] at Q14
      have covS : ∀ r ∈ S, ∃ (j : Nat) (U : List Rw), Ss[j]? = some U ∧ r ∈ U := fun r hr => Q14.all r (by rw [mM, ez2]; exact hr)
      clear hM eml
      -- whole
      refine run_asg (es_make T (F := nn H14) (R := []) (ed_tup ea_nil (by show 0 ≤ 100000; decide)) (.inr rfl) (fun r hr => nomatch hr) (by show 0 ≤ 300; decide) e0S H14 (Same.refl _) _ fun w0 H15 s15 sv15 => ?_)
      have L15 := L14.same s15
      have Q15 := Q14.same s15
      clear L14 Q14 s15
      dsimp only [gName]
      refine ⟨_, rfl, _, rfl, p, c, 3, _, rfl, L15.pen, by decide, by decide, by omega, fun d H16 d0 d3 b16 P16 => ⟨(by show 4 ≤ sizeLine; decide), fun q hq => ?_⟩⟩
      have L16 := (L15.but b16 P16).same (Same.newA (o := .lst [.int 0, .int 1, .int 2, .int d]) hq)
      have Q16 := (Q15.but L15.pen b16).same (Same.newA (o := .lst [.int 0, .int 1, .int 2, .int d]) hq)
      have sv16 := (sv15.kp L15.pen (.but b16)).same (Same.newA (o := .lst [.int 0, .int 1, .int 2, .int d]) hq)
      refine ⟨p, c, q, [.int 0, .int 1, .int 2, .int d], _, rfl, L16.pen, .inl (.of upd_same), by show 4 < 100000; decide, by omega, fun l us H17 pm fl el b17 P17 => ?_⟩
      have L17 := L16.but b17 P17
      have Q17 := Q16.but L16.pen b17
      have sv17 := sv16.kp L16.pen (.but b17)
      have uln := pm.length_eq
      clear L15 Q15 sv15 b16 P16 L16 Q16 sv16 b17 P17 fl hq
      refine ⟨l, rfl, ⟨_, SqL.of el⟩, for_list (K := K) (a := l) (xs := us) (fun i σ' H' => ∃ (o10 : Option V) (wb : Addr) (W : List Rw), σ' = [some (.ref a), some (.ref p), some (.ref g), some (.ref m), some (.ref rt), some (.ref mb), some (.ref hd), some (.ref ab), some (.ref pl), o9, o10, some (.ref wb), none, none, none, none, none] ∧ Lw K T.C_Server p c rt mb tb 8000 S H' ∧ Pts K T.C_Server pl bs Ss S (M.map Prod.snd) H' ∧ H' l = some (.lst us) ∧ ServerAt K T.C_Server wb W H' ∧ (∀ r ∈ W, r ∈ S) ∧ ∀ (j : Nat) U, V.int (j : Nat) ∈ us.take i → Ss[j]? = some U → ∀ r ∈ U, r ∈ W)
        ⟨o10, w0, [], rfl, L17.more (by show _ + [V.int 0, .int 1, .int 2, .int d].length ≤ _; show _ + 4 ≤ _; omega), Q17, el, sv17, (fun r hr => nomatch hr), fun j U h => nomatch h⟩ (fun i σ' H' _ ⟨_, _, _, _, _, _, e, _⟩ => SqL.of e) ?_ ?_⟩
      · clear L17 Q17 sv17 el
        rintro i v σ' H18 hv ⟨o10, wb, W, rfl, L18, Q18, el, svW, wS, cov⟩
        obtain ⟨j, rfl, j3⟩ : ∃ j : Nat, v = .int (j : Nat) ∧ j < 3 := by
          have := pm.mem_iff.mp (List.mem_of_getElem? hv)
          simp only [List.mem_cons, List.not_mem_nil, or_false] at this
          rcases this with rfl | rfl | rfl | rfl
          · exact ⟨0, rfl, by decide⟩
          · exact ⟨1, rfl, by decide⟩
          · exact ⟨2, rfl, by decide⟩
          · exact ⟨d.toNat, by rw [Int.toNat_of_nonneg d0], by omega⟩
        obtain ⟨U, hU⟩ := Q18.at_ j3
        obtain ⟨W', srtW⟩ := srt_ex (W ++ U)
        have lW := Nat.le_trans (nodup_len W S svW.up.nodup wS) S40
        have jb : j < bs.length := by rw [Q18.svs.1, Q18.len]; exact j3
        have svU := Q18.svs.2 j _ _ (List.getElem?_eq_getElem jb) hU
        have lU := Nat.le_trans (nodup_len U S svU.up.nodup (Q18.sub _ _ hU)) S40
        dsimp only [gName]
        refine es_or (es_var (i := 11) rfl svW) (es_at (i := 8) (j := j) (F := nn H18) rfl Q18.lst (ed_var (i := 10) rfl (.int _)) Q18.svs hU) (by omega) srtW H18 (Same.refl _) _ fun nb H19 s19 svN => ?_
        refine ⟨_, _, W', rfl, L18.same s19, Q18.same s19, s19 _ _ el, svN, fun r hr => ?_, fun k U2 hk hU2 r hr => ?_⟩
        · rcases List.mem_append.mp ((srtW.2 r).mp hr) with hr | hr
          · exact wS r hr
          · exact Q18.sub _ _ hU r hr
        · rw [take_snoc hv] at hk
          rcases List.mem_append.mp hk with hk | hk
          · exact (srtW.2 r).mpr (List.mem_append_left _ (cov k U2 hk hU2 r hr))
          · have e : (k : Int) = j := V.int.inj (List.mem_singleton.mp hk)
            have e : k = j := by omega
            subst e
            rw [hU] at hU2; cases hU2
            exact (srtW.2 r).mpr (List.mem_append_right _ hr)
      · clear L17 Q17 sv17 el
        rintro σ' H18 ⟨o10, wb, W, rfl, L18, Q18, el, svW, wS, cov⟩
        rw [List.take_length] at cov
        have eW : W = S := up_ext rkR_inj svW.up up fun r => ⟨wS r, fun hr => by
          obtain ⟨j, U, h1, h2⟩ := covS r hr
          have j3 : j < 3 := by have := (List.getElem?_eq_some_iff.mp h1).1; rw [Q18.len] at this; exact this
          refine cov j U (pm.mem_iff.mpr ?_) h1 r h2
          match j, j3 with
          | 0, _ => exact List.mem_cons_self
          | 1, _ => exact List.mem_cons_of_mem _ List.mem_cons_self
          | 2, _ => exact List.mem_cons_of_mem _ (List.mem_cons_of_mem _ List.mem_cons_self)⟩
        rw [eW] at svW
        clear wS cov el eW pm uln covS
        obtain ⟨U0, hU0⟩ := Q18.at_ (j := 0) (by decide)
        obtain ⟨U1, hU1⟩ := Q18.at_ (j := 1) (by decide)
        obtain ⟨Ub, srtb⟩ := srt_ex (U0 ++ U1)
        have srtb' : Srt (U1 ++ U0) Ub := ⟨srtb.1, fun r => (srtb.2 r).trans ⟨fun h => List.mem_append.mpr (List.mem_append.mp h).symm, fun h => List.mem_append.mpr (List.mem_append.mp h).symm⟩⟩
        have lU : ∀ (j : Nat) U, Ss[j]? = some U → U.length ≤ 40 := fun j U h => by
          have jb : j < bs.length := by rw [Q18.svs.1]; exact (List.getElem?_eq_some_iff.mp h).1
          have sv := Q18.svs.2 j _ _ (List.getElem?_eq_getElem jb) h
          exact Nat.le_trans (nodup_len U S sv.up.nodup (Q18.sub _ _ h)) S40
        have l0 := lU 0 _ hU0
        have l1 := lU 1 _ hU1
        refine s_if (b := false) (et_is (et_or (et_not (et_test (ed_eqSv (F := nn H18) (es_var (i := 11) rfl svW) (es_var (i := 5) rfl L18.made)))) fun _ => et_not (et_test (ed_eqSv (F := nn H18) (es_or (es_at (i := 8) (j := 0) (F := nn H18) rfl Q18.lst ed_int Q18.svs hU0) (es_at (i := 8) (j := 1) (F := nn H18) rfl Q18.lst ed_int Q18.svs hU1) (by omega) srtb) (es_or (es_at (i := 8) (j := 1) (F := nn H18) rfl Q18.lst ed_int Q18.svs hU1) (es_at (i := 8) (j := 0) (F := nn H18) rfl Q18.lst ed_int Q18.svs hU0) (by omega) srtb')))) (by simp)) (fun h => nomatch h) (fun _ H19 s19 => ?_)
        have L19 := L18.same s19
        have svW19 := svW.same s19
        clear Q18 L18 svW s19 hU0 hU1
        dsimp only [tNext]
        -- rows taken out
        obtain ⟨zs3, ert3, ez3, hz3⟩ := rows_in L19.rows gS
        have zl3 : zs3.length ≤ 40 := by rw [← ez3, List.length_map] at S40; exact S40
        refine ⟨_, rfl, _, rfl, p, c, rt, _, _, 4, rfl, L19.pen, .inr ert3, by rw [List.length_map]; omega, by decide, by omega, fun l us H20 um u4 ul und fl el b20 P20 => ?_⟩
        obtain ⟨N, rfl, hN⟩ := refs_of um
        have hN20 : RowsAt K H20 N := fun z hz => ⟨L19.pen.st b20 (hz3 z (hN z hz)).1, (hz3 z (hN z hz)).2⟩
        have NS : ∀ z ∈ N, z.2 ∈ S := fun z hz => by rw [← ez3]; exact List.mem_map.mpr ⟨z, hN z hz, rfl⟩
        rw [List.length_map] at u4 P20
        have L20 := L19.but b20 (P20.more (m := 8100) (by omega))
        have svW20 := svW19.kp L19.pen (.but b20)
        clear L19 svW19 b20 P20 fl ert3 hz3
        refine ⟨l, rfl, ⟨_, SqL.of el⟩, for_list (K := K) (a := l) (xs := N.map fun z => V.ref z.1) (fun i σ' H' => ∃ (o9 o12 : Option V), σ' = [some (.ref a), some (.ref p), some (.ref g), some (.ref m), some (.ref rt), some (.ref mb), some (.ref hd), some (.ref ab), some (.ref pl), o9, o10, some (.ref wb), o12, none, none, none, none] ∧ Lw K T.C_Server p c rt mb tb 8100 S H' ∧ ServerAt K T.C_Server wb S H' ∧ RowsAt K H' N ∧ H' l = some (.lst (N.map fun z => V.ref z.1)))
          ⟨_, none, rfl, L20, svW20, hN20, el⟩ (fun i σ' H' _ ⟨_, _, _, _, _, _, e⟩ => SqL.of e) ?_ ?_⟩
        · clear L20 svW20 hN20 el
          rintro i v σ' H21 hv ⟨o9, o12, rfl, L21, svW, hN, el⟩
          rw [List.getElem?_map] at hv
          cases ez : N[i]? with
          | none => rw [ez] at hv; cases hv
          | some z =>
            rw [ez] at hv
            cases hv
            have zm := List.mem_of_getElem? ez
            have gz : goodR z.2 := gS _ (NS z zm)
            have er : ∀ H', Same H21 H' → ∀ {σ : L2.St} {F : Addr → Prop}, σ[9]? = some (some (.ref z.1)) → ED K (tVar 9) σ F H' (rowD z.2) := fun H' s' σ F e => ed_var e (df_row (row_dp (s'.stA (hN z zm).1)))
            dsimp only [gName]
            refine run_asg (es_sub (es_var (i := 11) rfl svW) (er H21 (Same.refl _) (F := nn H21) rfl) gz H21 (Same.refl _) _ fun lb H22 s22 svL => ?_)
            have L22 := L21.same s22
            have svW22 := svW.same s22
            have sL : Srt (S.filter fun s => !decide (s = z.2)) (S.filter fun s => !decide (s = z.2)) := Srt.self svL.up
            have lL : (S.filter fun s => !decide (s = z.2)).length ≤ 40 := Nat.le_trans (List.length_filter_le _ _) S40
            have no : z.2 ∉ S.filter fun s => !decide (s = z.2) := fun h => by
              have := (List.mem_filter.mp h).2
              simp at this
            have ff : (S.filter fun s => !decide (s = z.2)).filter (fun s => !decide (s = z.2)) = S.filter fun s => !decide (s = z.2) := by
              rw [List.filter_filter]; exact List.filter_congr fun x _ => Bool.and_self _
            have back : Srt ((S.filter fun s => !decide (s = z.2)) ++ [z.2]) S := ⟨up, fun r => by
              rw [List.mem_append, List.mem_filter, List.mem_singleton]
              constructor
              · intro hr
                by_cases e : r = z.2
                · exact .inr e
                · exact .inl ⟨hr, by rw [decide_eq_false e]; rfl⟩
              · rintro (h | rfl)
                · exact h.1
                · exact NS z zm⟩
            have SS : Srt (S ++ S) S := ⟨up, fun r => by rw [List.mem_append]; exact ⟨.inl, fun h => h.elim id id⟩⟩
            have neS : (S.filter fun s => !decide (s = z.2)) ≠ S := fun e => no (by rw [e]; exact NS z zm)
            have len1 : (S.filter fun s => !decide (s = z.2)).length + 1 = S.length := by
              have h1 := nodup_len S (z.2 :: S.filter fun s => !decide (s = z.2)) up.nodup fun y hy => by
                by_cases e : y = z.2
                · rw [e]; exact List.mem_cons_self
                · exact List.mem_cons_of_mem _ (List.mem_filter.mpr ⟨hy, by rw [decide_eq_false e]; rfl⟩)
              have h2 := nodup_len (z.2 :: S.filter fun s => !decide (s = z.2)) S (List.nodup_cons.mpr ⟨no, svL.up.nodup⟩) fun y hy => by
                rcases List.mem_cons.mp hy with rfl | hy
                · exact NS z zm
                · exact (List.mem_filter.mp hy).1
              rw [List.length_cons] at h1 h2
              omega
            generalize hLs : (S.filter fun s => !decide (s = z.2)) = Ls at svL sL lL no ff back neS len1
            refine s_if (b := false) (et_is (et_or (et_test (ed_inSv (F := nn H22) (er H22 s22 rfl) gz (es_var (i := 12) rfl svL))) fun _ => et_or (et_not (et_test (ed_eqSv (F := nn H22) (es_sub (es_var (i := 12) rfl svL) (er H22 s22 (F := nn H22) rfl) gz) (es_var (i := 12) rfl svL)))) fun _ => et_or (et_not (et_test (ed_eqSv (F := nn H22) (es_or (es_add (es_var (i := 12) rfl svL) (er H22 s22 (F := nn H22) rfl) gz (by omega) back) (es_var (i := 11) rfl svW22) (by omega) SS) (es_var (i := 11) rfl svW22)))) fun _ => et_or (et_test (ed_eqSv (F := nn H22) (es_var (i := 12) rfl svL) (es_var (i := 11) rfl svW22))) fun _ => et_test (ed_neI (F := nn H22) (ed_lenSv (es_var (i := 12) rfl svL)) (ed_sub (ed_lenSv (es_var (i := 11) rfl svW22)) ed_int))) ?_) (fun h => nomatch h) (fun _ H23 s23 => ?_)
            · rw [if_neg (show ¬ (false = true) from fun h => nomatch h), ff, decide_eq_false no, decide_eq_true rfl, decide_eq_true rfl, decide_eq_false neS, decide_eq_true (show ((Ls.length : Nat) : Int) = ((S.length : Nat) : Int) - 1 by omega)]
              rfl
            · exact ⟨_, _, rfl, L22.same s23, svW22.same s23, (hN.same s22).same s23, s23 _ _ (s22 _ _ el)⟩
        · clear L20 svW20 hN20 el
          rintro σ' H21 ⟨o9, o12, rfl, L21, svW, hN, el⟩
          clear hN el
          -- a row, and what is none
          obtain ⟨zs4, ert4, ez4, hz4⟩ := rows_in L21.rows gS
          have zl4 : 0 < zs4.length ∧ zs4.length ≤ 40 := by
            have := congrArg List.length ez4
            rw [List.length_map] at this
            have : 0 < S.length := List.length_pos_iff.mpr ne
            omega
          refine ⟨_, rfl, _, rfl, p, c, rt, _, _, rfl, L21.pen, .inr ert4, by rw [List.length_map]; omega, by rw [List.length_map]; omega, by omega, fun j v H22 hj b22 P22 => ?_⟩
          obtain ⟨z, zm, rfl⟩ := List.mem_map.mp (List.mem_of_getElem? hj)
          have zS : z.2 ∈ S := by rw [← ez4]; exact List.mem_map.mpr ⟨z, zm, rfl⟩
          have gz := gS _ zS
          have row22 : SqT K H22 z.1 (rowV z.2) := L21.pen.st b22 (hz4 z zm).1
          have L22 := L21.but b22 P22
          clear L21 svW ert4 hz4 b22 P22 hj
          obtain ⟨ra, r⟩ := z
          dsimp only at zS gz row22
          dsimp only [gName]
          have er : ∀ H', Same H22 H' → ∀ {σ : L2.St} {F : Addr → Prop}, σ[9]? = some (some (.ref ra)) → ED K (tVar 9) σ F H' (rowD r) := fun H' s' σ F e => ed_var e (df_row (row_dp (s'.stA row22)))
          refine run_asg (run_lstA (F := nn H22) (ds := oddsD r) (ea_cons ed_non (ea_cons ed_int (ea_cons (ed_ixT (j := 0) (er H22 (Same.refl _) rfl) ed_int rfl) (ea_cons (ed_is (ed_slT (er H22 (Same.refl _) rfl) eo_none (eo_some (K := K) (F := nn H22) (i := 2) ed_int)) rfl) (ea_cons (ed_catT (er H22 (Same.refl _) rfl) (ed_tup (ea_cons ed_str ea_nil) (by show 1 ≤ 100000; decide)) (by show 3 + 1 ≤ 100000; decide)) (ea_cons (ed_listOf (er H22 (Same.refl _) rfl) rfl)
            (ea_cons (ed_catT (ed_tup (ea_cons ed_str ea_nil) (by show 1 ≤ 100000; decide)) (ed_is (ed_slT (er H22 (Same.refl _) rfl) (eo_some (K := K) (F := nn H22) (i := 1) ed_int) eo_none) (e := .tuple [.str r.2.1, .str r.2.2]) rfl) (by show 1 + 2 ≤ 100000; decide))
            (ea_cons (ed_catT (ed_catT (ed_is (ed_slT (er H22 (Same.refl _) rfl) eo_none (eo_some (K := K) (F := nn H22) (i := 1) ed_int)) (e := .tuple [.str r.1]) rfl) (ed_tup (ea_cons ed_str ea_nil) (by show 1 ≤ 100000; decide)) (by show 1 + 1 ≤ 100000; decide)) (ed_is (ed_slT (er H22 (Same.refl _) rfl) (eo_some (K := K) (F := nn H22) (i := 2) ed_int) eo_none) (e := .tuple [.str r.2.2]) rfl) (by show 2 + 1 ≤ 100000; decide))
            (ea_cons (ed_catT (ed_is (ed_slT (er H22 (Same.refl _) rfl) eo_none (eo_some (K := K) (F := nn H22) (i := 2) ed_int)) (e := .tuple [.str r.1, .str r.2.1]) rfl) (ed_tup (ea_cons (d := .str "xxxxxxxxxxxxx") (ed_rep13 (K := K)) ea_nil) (by show 1 ≤ 100000; decide)) (by show 2 + 1 ≤ 100000; decide))
            (ea_cons (ed_catT (ed_is (ed_slT (er H22 (Same.refl _) rfl) eo_none (eo_some (K := K) (F := nn H22) (i := 2) ed_int)) (e := .tuple [.str r.1, .str r.2.1]) rfl) (ed_tup (ea_cons ed_int ea_nil) (by show 1 ≤ 100000; decide)) (by show 2 + 1 ≤ 100000; decide))
            (ea_cons (ed_tup (ea_cons (ed_ixT (j := 0) (er H22 (Same.refl _) rfl) ed_int rfl) (ea_cons ed_str (ea_cons (ed_ixT (j := 2) (er H22 (Same.refl _) rfl) ed_int rfl) ea_nil))) (by show 3 ≤ 100000; decide)) ea_nil))))))))))) (by show 11 ≤ 1000; decide) fun ol vs H23 s23 hvs eol => ?_)
          have L23 := L22.same s23
          have row23 := s23.stA row22
          clear er L22 row22 s23
          dsimp only [gName]
          refine ⟨_, rfl, _, rfl, p, c, ol, vs, _, rfl, L23.pen, .inl (SqL.of eol), by rw [dps_len hvs]; show 11 < 100000; decide, by omega, fun l3 us H24 pm3 fl3 el3 b24 P24 => ⟨6, rfl, l3, us, rfl, SqL.of el3, fun q hq => ?_⟩⟩
          have vln := dps_len hvs
          have vln : vs.length = 11 := vln
          have L24 := (L23.but b24 P24).same (Same.newA (o := .lst (cutV us none (some 6))) hq)
          have row24 := (Same.newA (o := .lst (cutV us none (some 6))) hq).stA (L23.pen.st b24 row23)
          have vals24 : ∀ v ∈ cutV us none (some 6), ∃ d ∈ oddsD r, Dp K (upd H24 q (.lst (cutV us none (some 6)))) v d := fun v hv => by
            rw [show (some (6 : Int)) = some ((6 : Nat) : Int) from rfl, cutV_to] at hv
            obtain ⟨k, hk, e⟩ := List.getElem_of_mem (pm3.mem_iff.mp (List.mem_of_mem_take hv))
            obtain ⟨d, hd1, hd2⟩ := dps_get' hvs (by rw [List.getElem?_eq_getElem hk, e])
            exact ⟨d, List.mem_of_getElem? hd1, dp_mono (Same.newA hq) (L23.pen.dp b24 hd2)⟩
          have eq24 : (upd H24 q (.lst (cutV us none (some 6)))) q = some (.lst (cutV us none (some 6))) := upd_same
          revert L24 row24 vals24 eq24
          generalize upd H24 q (.lst (cutV us none (some 6))) = H25
          have wl : (cutV us none (some 6)).length ≤ 6 := by
            rw [show (some (6 : Int)) = some ((6 : Nat) : Int) from rfl, cutV_to, List.length_take]; omega
          revert wl
          generalize cutV us none (some 6) = ws
          intro wl L25 row25 vals25 eq25
          clear L23 row23 hvs eol fl3 el3 b24 P24 hq pm3
          refine ⟨q, rfl, ⟨_, SqL.of eq25⟩, for_list (K := K) (a := q) (xs := ws) (fun i σ' H' => ∃ (o14 o15 : Option V), σ' = [some (.ref a), some (.ref p), some (.ref g), some (.ref m), some (.ref rt), some (.ref mb), some (.ref hd), some (.ref ab), some (.ref pl), some (.ref ra), o10, some (.ref wb), o12, some (.ref ol), o14, o15, none] ∧ Lw K T.C_Server p c rt mb tb (9000 + i) S H' ∧ SqT K H' ra (rowV r) ∧ (∀ v ∈ ws, ∃ d ∈ oddsD r, Dp K H' v d) ∧ H' q = some (.lst ws))
            ⟨none, none, rfl, L25.more (by omega), row25, vals25, eq25⟩ (fun i σ' H' _ ⟨_, _, _, _, _, _, e⟩ => SqL.of e) ?_ ?_⟩
          · clear L25 row25 vals25 eq25
            rintro i v σ' H26 hv ⟨o14, o15, rfl, L26, row26, vals26, eq26⟩
            have il : i < ws.length := (List.getElem?_eq_some_iff.mp hv).1
            obtain ⟨d, hdm, hd⟩ := vals26 v (List.mem_of_getElem? hv)
            have nd := odds_nice gz d hdm
            have no := odds_no d hdm
            have sh : Shown d := ⟨nd.sh, Nat.le_trans nd.dp (by decide), small5 (Nat.le_trans nd.ln (by decide))⟩
            have lay : SeqAt.shaped (.tuple [.str "server", .str d.shown]) = true := by
              exact told_lay nd.as
            dsimp only [gName]
            obtain ⟨zs5, ert5, ez5, _⟩ := rows_in L26.rows gS
            have ez5l := congrArg List.length ez5
            rw [List.length_map] at ez5l
            refine ⟨_, rfl, _, rfl, _, _, rfl, .inr ⟨_, ert5, rfl⟩, _, _, rfl, rfl, p, c, _, _, rfl, L26.pen, by omega, by rw [List.length_map]; omega, by omega, fun j H27 j0 j1 b27 P27 => ?_⟩
            obtain ⟨J, rfl⟩ : ∃ J : Nat, j = J := ⟨j.toNat, by omega⟩
            have Jl : J ≤ S.length := by rw [List.length_map] at j1; omega
            have L27 := L26.but b27 P27
            have row27 := L26.pen.st b27 row26
            have vals27 : ∀ v ∈ ws, ∃ d ∈ oddsD r, Dp K H27 v d := fun v hv => let ⟨d, h1, h2⟩ := vals26 v hv; ⟨d, h1, L26.pen.dp b27 h2⟩
            have eq27 := b27 _ _ (L26.pen.ne eq26 fun _ e => nomatch e) eq26
            have hd27 := L26.pen.dp b27 hd
            clear L26 row26 vals26 eq26 hd b27 P27 ert5
            -- handed to Server
            refine run_ifq (run_told (B := T.C_BadRow) (w := "server") (d := d) (i := 14) (v := v) L27.tab L27.pen rfl hd27 sh lay (fun H1 E eN out => ?_) fun H28 eN28 T28 => ?_)
            · have R1 : Dp K H1 (.ref rt) (rowsD S) := L27.pen.dpK (.ext eN) L27.rows
              have d1 : Dp K H1 v d := L27.pen.dpK (.ext eN) hd27
              refine run_mk (run_edc (F := nn H1) (ed_catT (ed_catT (ed_slT (ed_var (i := 4) rfl (df_rows R1)) eo_none (eo_some (K := K) (F := nn H1) (ed_var (i := 15) rfl (.int _)))) (ed_tup (ea_cons (ed_var (i := 14) rfl (dp_df d1)) ea_nil) (by show 1 ≤ 100000; decide)) ?_) (ed_slT (ed_var (i := 4) rfl (df_rows R1)) (eo_some (K := K) (F := nn H1) (ed_var (i := 15) rfl (.int _))) eo_none) ?_) fun u H2 s2 hu => ?_)
              · rw [cutD_to]
                have := List.length_take_le J (S.map rowD)
                show _ + 1 ≤ 100000; omega
              · rw [cutD_to, cutD_from _ _ (by rw [List.length_map]; exact Jl), List.length_append, List.length_drop, List.length_map, List.length_take, List.length_map]
                show _ + 1 + _ ≤ 100000; omega
              · rw [cutD_to, cutD_from _ _ (by rw [List.length_map]; exact Jl)] at hu
                have mem : ∀ x ∈ (S.map rowD).take J ++ [d] ++ (S.map rowD).drop J, x = d ∨ ∃ y ∈ S, x = rowD y := fun x hx => by
                  rcases List.mem_append.mp hx with hx | hx
                  · rcases List.mem_append.mp hx with hx | hx
                    · obtain ⟨y, hy, rfl⟩ := List.mem_map.mp (List.mem_of_mem_take hx)
                      exact .inr ⟨y, hy, rfl⟩
                    · exact .inl (List.mem_singleton.mp hx)
                  · obtain ⟨y, hy, rfl⟩ := List.mem_map.mp (List.mem_of_mem_drop hx)
                    exact .inr ⟨y, hy, rfl⟩
                refine bad_of T (Q := fun _ _ => False) (df_dp hu) (.inr rfl) (fun x hx => ?_) ?_ (fun x hx => ?_) (List.mem_append_left _ (List.mem_append_right _ List.mem_cons_self)) no fun y H' s' hy => out y H' (s2.trans s') hy
                · rcases mem x hx with rfl | ⟨y, hy, rfl⟩
                  · exact nd.gd
                  · exact row_gd (gS y hy)
                · rw [List.length_append, List.length_append, List.length_drop, List.length_take, List.length_map]
                  show _ + 1 + _ ≤ 300; omega
                · rcases mem x hx with rfl | ⟨y, hy, rfl⟩
                  · exact .inl rfl
                  · exact .inr (isRow_row (gS y hy))
            rw [if_neg (fun h => nomatch h)]
            dsimp only [tNext]
            have L28 : Lw K T.C_Server p c rt mb tb (9000 + i + 1) S H28 := L27.kp (.ext eN28) (L27.pen.ext eN28) T28
            have hd28 := L27.pen.dpK (.ext eN28) hd27
            refine run_ifq (run_told (B := T.C_BadRow) (w := "server") (d := d) (i := 14) (v := v) L28.tab L28.pen rfl hd28 sh lay (fun H1 E eN out => ?_) fun H29 eN29 T29 => ?_)
            · have d1 : Dp K H1 v d := L28.pen.dpK (.ext eN) hd28
              have sv := L28.made.kp L28.pen (.ext eN)
              obtain ⟨dx, fs, e⟩ := sv.obj_
              exact ⟨_, rfl, _, rfl, mb, dx, fs, rfl, e, .inr ⟨d, d1⟩, mb, v, d, S, rfl, sv, by omega, d1, nd.gd, fun _ y H' s' hy => out y H' s' hy, fun r2 _ _ _ e2 g2 => by rw [e2, isRow_row g2] at no; cases no⟩
            rw [if_neg (fun h => nomatch h)]
            dsimp only [tNext]
            have L29 : Lw K T.C_Server p c rt mb tb (9000 + i + 1) S H29 := L28.kp (.ext eN29) (L28.pen.ext eN29) T29
            have hd29 := L28.pen.dpK (.ext eN29) hd28
            refine run_ifs (run_or (run_told (B := T.C_BadRow) (w := "server") (d := d) (i := 14) (v := v) L29.tab L29.pen rfl hd29 sh lay (fun H1 E eN out => ?_) fun H30 eN30 T30 => ?_))
            · have d1 : Dp K H1 v d := L29.pen.dpK (.ext eN) hd29
              have sv := L29.made.kp L29.pen (.ext eN)
              obtain ⟨dx, fs, e⟩ := sv.obj_
              exact ⟨_, rfl, _, rfl, mb, dx, fs, rfl, e, .inr ⟨d, d1⟩, mb, v, d, S, rfl, sv, d1, nd.gd, fun _ y H' s' hy => out y H' s' hy, fun r2 _ _ e2 g2 => by rw [e2, isRow_row g2] at no; cases no⟩
            rw [if_neg (fun h => nomatch h)]
            have L30 : Lw K T.C_Server p c rt mb tb (9000 + i + 1) S H30 := L29.kp (.ext eN30) (L29.pen.ext eN30) T30
            have hd30 := L29.pen.dpK (.ext eN30) hd29
            have kp30 : Kp p H27 H30 := (Kp.ext eN28).trans ((Kp.ext eN29).trans (.ext eN30))
            refine (et_or (et_test (ed_inSvD (F := nn H30) (ed_var (i := 14) rfl (dp_df hd30)) nd.gd no (es_var (i := 5) rfl L30.made))) fun _ => et_test (ed_eqSvD (F := nn H30) (es_var (i := 5) rfl L30.made) (ed_var (i := 14) rfl (dp_df hd30)))) H30 (Same.refl _) _ fun H31 s31 => ?_
            refine ⟨_, _, rfl, (L30.same s31).more (by omega), s31.stA (L27.pen.stK kp30 row27), fun v hv => let ⟨d, h1, h2⟩ := vals27 v hv; ⟨d, h1, dp_mono s31 (L27.pen.dpK kp30 h2)⟩, s31 _ _ (kp30 _ _ (L27.pen.ne eq27 fun _ e => nomatch e) (fun _ e => nomatch e) eq27)⟩
          · clear L25 row25 vals25 eq25
            rintro σ' H26 ⟨o14, o15, rfl, L26, row26, _, _⟩
            -- one row more
            have zz : r.2.2 ≠ ("zzi" : Str) := by
              obtain ⟨k, hk, hn⟩ := nms_mem hps (inp r zS).2
              exact not_zzi (by omega) hn
            have g2 : goodR (r.1, r.2.1, ("zzi" : Str)) := ⟨gz.1, gz.2.1, by show nameB ("zzi" : Str) = true; decide +kernel⟩
            have nS : ((r.1, r.2.1, ("zzi" : Str)) : Rw) ∉ S := fun h => by
              obtain ⟨k, hk, hn⟩ := nms_mem hps (inp _ h).2
              exact not_zzi (by omega) hn rfl
            have er : ED K (tVar 9) ([some (.ref a), some (.ref p), some (.ref g), some (.ref m), some (.ref rt), some (.ref mb), some (.ref hd), some (.ref ab), some (.ref pl), some (.ref ra), o10, some (.ref wb), o12, some (.ref ol), o14, o15, none] : L2.St) (nn H26) H26 (rowD r) := ed_var rfl (df_row (row_dp row26))
            refine run_asgd (ed_catT (ed_is (ed_slT er eo_none (eo_some (K := K) (F := nn H26) (i := 2) ed_int)) (e := .tuple [.str r.1, .str r.2.1]) rfl) (ed_tup (ea_cons ed_str ea_nil) (by show 1 ≤ 100000; decide)) (by show 2 + 1 ≤ 100000; decide)) fun v H27 s27 hv => ?_
            have hv : Dp K H27 v (rowD (r.1, r.2.1, ("zzi" : Str))) := df_dp hv
            have L27 := L26.same s27
            dsimp only [gName]
            generalize ((r.1, r.2.1, ("zzi" : Str)) : Rw) = r2 at hv g2 nS
            obtain ⟨S2, srt2⟩ := srt_ex (S ++ [r2])
            have e1 : (S.filter fun s => !decide (s = r2)) = S := List.filter_eq_self.mpr fun x hx => by
              rw [decide_eq_false fun e : x = r2 => nS (e ▸ hx)]; rfl
            have in2 : r2 ∈ S2 := (srt2.2 r2).mpr (List.mem_append_right _ List.mem_cons_self)
            have o : ∀ H', Same H27 H' → ∀ {σ : L2.St} {F : Addr → Prop}, σ[16]? = some (some v) → ED K (tVar 16) σ F H' (rowD r2) := fun H' s' σ F e => ed_var e (df_row (dp_mono s' hv))
            have s1' : Srt [r2] [r2] := Srt.self (List.pairwise_singleton _ _)
            refine s_retB (F := nn H27) (ed_andV (ed_inSv (F := nn H27) (o H27 (Same.refl _) rfl) g2 (es_var (i := 5) rfl L27.made)) fun _ => ed_andV (ed_eqSv (F := nn H27) (es_sub (es_var (i := 5) rfl L27.made) (o H27 (Same.refl _) (F := nn H27) rfl) g2) (es_var (i := 5) rfl L27.made)) fun _ => ed_andV (ed_inSv (F := nn H27) (o H27 (Same.refl _) rfl) g2 (es_add (es_var (i := 5) rfl L27.made) (o H27 (Same.refl _) (F := nn H27) rfl) g2 (by omega) srt2)) fun _ => ed_eqSv (F := nn H27) (es_or (es_var (i := 5) rfl L27.made) (es_make T (F := nn H27) (R := [r2]) (ed_tup (ea_cons (o H27 (Same.refl _) rfl) ea_nil) (by show 1 ≤ 100000; decide)) (.inr rfl) (fun x hx => (List.mem_singleton.mp hx) ▸ g2) (by show 1 ≤ 300; decide) s1') (by show S.length + 1 ≤ 300; omega) srt2) (es_add (es_var (i := 5) rfl L27.made) (o H27 (Same.refl _) (F := nn H27) rfl) g2 (by omega) srt2)) ?_ fun H28 s28 => rfl
            rw [e1, decide_eq_false nS, decide_eq_true in2]
            simp
end
end Ag

set_option Elab.async false
set_option linter.all false
set_option maxRecDepth 100000
set_option maxHeartbeats 0
namespace Ag
open PySem PySem.Spec PyProof.Rows L2
/-! ### a table with text keys, as written -/
def TabOf : List DictEntry → List (Str × Int) → Prop
  | [], [] => True
  | e :: r, q :: s => (∃ t u, e.key = .str q.1 t ∧ e.val = .int q.2 u) ∧ TabOf r s
  | _, _ => False
theorem tab_find : ∀ {es : List DictEntry} {kvs : List (Str × Int)} (z : Str), TabOf es kvs → es.any (·.refKey) = false ∧ ((∃ i e u, (z, i) ∈ kvs ∧ (∀ j, kvs.lookup z = some j → j = i) ∧ es.find? (·.key.isStr z) = some e ∧ e.val = .int i u) ∨ (z ∉ kvs.map (·.1) ∧ es.find? (·.key.isStr z) = none))
  | [], [], z, _ => ⟨rfl, .inr ⟨by simp, rfl⟩⟩
  | e :: r, q :: s, z, ⟨⟨t, u, h1, h2⟩, h⟩ => by
    obtain ⟨a, b⟩ := tab_find z h
    have hr : e.refKey = false := by unfold DictEntry.refKey; rw [h1]
    refine ⟨by rw [List.any_cons, hr, a]; rfl, ?_⟩
    have hs : e.key.isStr z = (q.1 == z) := by rw [h1]; rfl
    by_cases hz : q.1 = z
    · refine .inl ⟨q.2, e, u, ?_, fun j hj => ?_, ?_, h2⟩
      · rw [← hz]; exact List.mem_cons_self
      · obtain ⟨q1, q2⟩ := q
        simp only at hz; subst hz
        simp at hj; exact hj.symm
      · rw [List.find?_cons, hs, beq_iff_eq.mpr hz]
    · have hf : (q.1 == z) = false := beq_eq_false_iff_ne.mpr hz
      have hf2 : (z == q.1) = false := beq_eq_false_iff_ne.mpr fun w => hz w.symm
      rcases b with ⟨i, e2, u2, m, l, f, v⟩ | ⟨m, f⟩
      · refine .inl ⟨i, e2, u2, List.mem_cons_of_mem _ m, fun j hj => l j ?_, ?_, v⟩
        · obtain ⟨q1, q2⟩ := q
          simp only at hf2
          rw [List.lookup_cons, hf2] at hj; exact hj
        · rw [List.find?_cons, hs, hf]; exact f
      · refine .inr ⟨?_, ?_⟩
        · rw [List.map_cons, List.mem_cons]; rintro (w | w)
          · exact hz w.symm
          · exact m w
        · rw [List.find?_cons, hs, hf]; exact f
section
variable {w : World} {K : PySem.W.Frag} {a : Addr} {es : Array DictEntry} {n : Nat} {kvs : List (Str × Int)}
theorem tab_in (l : K.lookup a = some ⟨.type "dict", none, .dict es n, #[]⟩) (t : TabOf es.toList kvs) (z : Str) : ∃ r, PySem.W.nsIn K a z = some r ∧ r.isSome = decide (z ∈ kvs.map (·.1)) := by
  obtain ⟨h1, h2⟩ := tab_find z t
  unfold PySem.W.nsIn
  rw [l]
  rcases h2 with ⟨i, e, u, m, _, f, v⟩ | ⟨m, f⟩
  · refine ⟨some e.val, ?_, ?_⟩
    · simp only [f]
    · exact (decide_eq_true (List.mem_map.mpr ⟨_, m, rfl⟩)).symm
  · refine ⟨none, ?_, (decide_eq_false m).symm⟩
    simp only [f, h1]; rfl
theorem tab_at (l : K.lookup a = some ⟨.type "dict", none, .dict es n, #[]⟩) (k : PySem.W.KeysLit w.params es.toList) (t : TabOf es.toList kvs) (nd : kvs.all (fun q => kvs.lookup q.1 == some q.2) = true) (z : Str) (i : Int) (hm : (z, i) ∈ kvs) : KDct K w a z (.int i) := by
  obtain ⟨h1, h2⟩ := tab_find z t
  have hl : kvs.lookup z = some i := by simpa using List.all_eq_true.mp nd _ hm
  rcases h2 with ⟨j, e, u, m, lk, f, v⟩ | ⟨m, f⟩
  · have := lk i hl; subst this
    refine ⟨es, n, e.val, l, k, ?_, u, v⟩
    unfold PySem.W.nsIn
    rw [l]
    simp only [f]
  · exact absurd (List.mem_map.mpr ⟨_, hm, rfl⟩) m
end
theorem binds_all {K : PySem.W.Frag} {fd : FuncData} {ps : List Str} (h : ∃ ds, Vals [] ds ∧ Binds K fd ps ds) : Binds K fd ps [] := by
  obtain ⟨ds, v, b⟩ := h
  cases v
  exact b
theorem all_mk {l : PySem.W.OpenLaw} {w : World} {K : PySem.W.Frag} {q : Program} {loose : List Str} {mean : ExcName → Option Value} {mg mb : Str → Option Value} {s : Shared} {d : DefRec} {fa cc tb : Addr} {xc : Value} {xo : Option Addr} {xs : Array (Option Value)} {vsx : Array Value} (TP : PyProof.Rows.Top q (PySem.W.looseW q loose) mean mg mb s.heap) (X : K.In s.heap)
    (hrec : (PyProof.Rows.recsOf q).find? (fun e => e.name == ("law" : Str)) = some d) (ntb : K.lookup tb = none) (hfa : mg "law" = some (.ref fa))
    {f0 : Addr} {od0 an0 : Option Addr} {sl0 : Array (Option Value)} {oc0 kV0 dc0 pm0 cd0 ct0 : Value}
    {f1 : Addr} {od1 an1 : Option Addr} {sl1 : Array (Option Value)} {oc1 kV1 dc1 pm1 cd1 ct1 : Value}
    {f2 : Addr} {od2 an2 : Option Addr} {sl2 : Array (Option Value)} {oc2 kV2 dc2 pm2 cd2 ct2 : Value}
    {f3 : Addr} {od3 an3 : Option Addr} {sl3 : Array (Option Value)} {oc3 kV3 dc3 pm3 cd3 ct3 : Value}
    {f4 : Addr} {od4 an4 : Option Addr} {sl4 : Array (Option Value)} {oc4 kV4 dc4 pm4 cd4 ct4 : Value}
    {f5 : Addr} {od5 an5 : Option Addr} {sl5 : Array (Option Value)} {oc5 kV5 dc5 pm5 cd5 ct5 : Value}
    {f6 : Addr} {od6 an6 : Option Addr} {sl6 : Array (Option Value)} {oc6 kV6 dc6 pm6 cd6 ct6 : Value}
    {f7 : Addr} {od7 an7 : Option Addr} {sl7 : Array (Option Value)} {oc7 kV7 dc7 pm7 cd7 ct7 : Value}
    {f8 : Addr} {od8 an8 : Option Addr} {sl8 : Array (Option Value)} {oc8 kV8 dc8 pm8 cd8 ct8 : Value}
    {f9 : Addr} {od9 an9 : Option Addr} {sl9 : Array (Option Value)} {oc9 kV9 dc9 pm9 cd9 ct9 : Value}
    {f10 : Addr} {od10 an10 : Option Addr} {sl10 : Array (Option Value)} {oc10 kV10 dc10 pm10 cd10 ct10 : Value}
    {f11 : Addr} {od11 an11 : Option Addr} {sl11 : Array (Option Value)} {oc11 kV11 dc11 pm11 cd11 ct11 : Value}
    {f12 : Addr} {od12 an12 : Option Addr} {sl12 : Array (Option Value)} {oc12 kV12 dc12 pm12 cd12 ct12 : Value}
    {f13 : Addr} {od13 an13 : Option Addr} {sl13 : Array (Option Value)} {oc13 kV13 dc13 pm13 cd13 ct13 : Value}
    {f14 : Addr} {od14 an14 : Option Addr} {sl14 : Array (Option Value)} {oc14 kV14 dc14 pm14 cd14 ct14 : Value}
    {f15 : Addr} {od15 an15 : Option Addr} {sl15 : Array (Option Value)} {oc15 kV15 dc15 pm15 cd15 ct15 : Value}
    {f16 : Addr} {od16 an16 : Option Addr} {sl16 : Array (Option Value)} {oc16 kV16 dc16 pm16 cd16 ct16 : Value}
    {f17 : Addr} {od17 an17 : Option Addr} {sl17 : Array (Option Value)} {oc17 kV17 dc17 pm17 cd17 ct17 : Value}
    {f18 : Addr} {od18 an18 : Option Addr} {sl18 : Array (Option Value)} {oc18 kV18 dc18 pm18 cd18 ct18 : Value}
    {f19 : Addr} {od19 an19 : Option Addr} {sl19 : Array (Option Value)} {oc19 kV19 dc19 pm19 cd19 ct19 : Value}
    {f20 : Addr} {od20 an20 : Option Addr} {sl20 : Array (Option Value)} {oc20 kV20 dc20 pm20 cd20 ct20 : Value}
    {f21 : Addr} {od21 an21 : Option Addr} {sl21 : Array (Option Value)} {oc21 kV21 dc21 pm21 cd21 ct21 : Value}
    {f22 : Addr} {od22 an22 : Option Addr} {sl22 : Array (Option Value)} {oc22 kV22 dc22 pm22 cd22 ct22 : Value}
    {CAgainError : Addr}
    {CBadRow : Addr}
    {fBadRow0 : Addr} {odBadRow0 anBadRow0 : Option Addr} {slBadRow0 : Array (Option Value)} {ocBadRow0 kVBadRow0 dcBadRow0 pmBadRow0 cdBadRow0 ctBadRow0 : Value}
    {CServer : Addr}
    {fServer0 : Addr} {odServer0 anServer0 : Option Addr} {slServer0 : Array (Option Value)} {ocServer0 kVServer0 dcServer0 pmServer0 cdServer0 ctServer0 : Value}
    {fServer1 : Addr} {odServer1 anServer1 : Option Addr} {slServer1 : Array (Option Value)} {ocServer1 kVServer1 dcServer1 pmServer1 cdServer1 ctServer1 : Value}
    {fServer2 : Addr} {odServer2 anServer2 : Option Addr} {slServer2 : Array (Option Value)} {ocServer2 kVServer2 dcServer2 pmServer2 cdServer2 ctServer2 : Value}
    {fServer3 : Addr} {odServer3 anServer3 : Option Addr} {slServer3 : Array (Option Value)} {ocServer3 kVServer3 dcServer3 pmServer3 cdServer3 ctServer3 : Value}
    {fServer4 : Addr} {odServer4 anServer4 : Option Addr} {slServer4 : Array (Option Value)} {ocServer4 kVServer4 dcServer4 pmServer4 cdServer4 ctServer4 : Value}
    {fServer5 : Addr} {odServer5 anServer5 : Option Addr} {slServer5 : Array (Option Value)} {ocServer5 kVServer5 dcServer5 pmServer5 cdServer5 ctServer5 : Value}
    {fServer6 : Addr} {odServer6 anServer6 : Option Addr} {slServer6 : Array (Option Value)} {ocServer6 kVServer6 dcServer6 pmServer6 cdServer6 ctServer6 : Value}
    {fServer7 : Addr} {odServer7 anServer7 : Option Addr} {slServer7 : Array (Option Value)} {ocServer7 kVServer7 dcServer7 pmServer7 cdServer7 ctServer7 : Value}
    {fServer8 : Addr} {odServer8 anServer8 : Option Addr} {slServer8 : Array (Option Value)} {ocServer8 kVServer8 dcServer8 pmServer8 cdServer8 ctServer8 : Value}
    {fServer9 : Addr} {odServer9 anServer9 : Option Addr} {slServer9 : Array (Option Value)} {ocServer9 kVServer9 dcServer9 pmServer9 cdServer9 ctServer9 : Value}
    {fServer10 : Addr} {odServer10 anServer10 : Option Addr} {slServer10 : Array (Option Value)} {ocServer10 kVServer10 dcServer10 pmServer10 cdServer10 ctServer10 : Value}
    {fServer11 : Addr} {odServer11 anServer11 : Option Addr} {slServer11 : Array (Option Value)} {ocServer11 kVServer11 dcServer11 pmServer11 cdServer11 ctServer11 : Value}
    {tFIGURES : Tok}
    {tLETTERS : Tok}
    (a0 : PySem.W.nsIn K mainGlobals "_wall" = some (some (.ref f0)))
    (l0 : K.lookup f0 = some ⟨oc0, od0, .func (PySem.W.fnOf "_wall" "_wall" (defArgs s_wall) (defBody s_wall) (defScope s_wall) .none kV0 dc0 pm0 an0 cd0 ct0), sl0⟩)
    (c0 : PySem.W.codeIn K cd0 "_wall" = true)
    (k0 : PySem.W.keepIn K (.ref f0) = true)
    (a1 : PySem.W.nsIn K mainGlobals "ascending" = some (some (.ref f1)))
    (l1 : K.lookup f1 = some ⟨oc1, od1, .func (PySem.W.fnOf "ascending" "ascending" (defArgs s_ascending) (defBody s_ascending) (defScope s_ascending) .none kV1 dc1 pm1 an1 cd1 ct1), sl1⟩)
    (c1 : PySem.W.codeIn K cd1 "ascending" = true)
    (k1 : PySem.W.keepIn K (.ref f1) = true)
    (a2 : PySem.W.nsIn K mainGlobals "is_name" = some (some (.ref f2)))
    (l2 : K.lookup f2 = some ⟨oc2, od2, .func (PySem.W.fnOf "is_name" "is_name" (defArgs s_is_name) (defBody s_is_name) (defScope s_is_name) .none kV2 dc2 pm2 an2 cd2 ct2), sl2⟩)
    (c2 : PySem.W.codeIn K cd2 "is_name" = true)
    (k2 : PySem.W.keepIn K (.ref f2) = true)
    (a3 : PySem.W.nsIn K mainGlobals "is_row" = some (some (.ref f3)))
    (l3 : K.lookup f3 = some ⟨oc3, od3, .func (PySem.W.fnOf "is_row" "is_row" (defArgs s_is_row) (defBody s_is_row) (defScope s_is_row) .none kV3 dc3 pm3 an3 cd3 ct3), sl3⟩)
    (c3 : PySem.W.codeIn K cd3 "is_row" = true)
    (k3 : PySem.W.keepIn K (.ref f3) = true)
    (a4 : PySem.W.nsIn K mainGlobals "need_rows" = some (some (.ref f4)))
    (l4 : K.lookup f4 = some ⟨oc4, od4, .func (PySem.W.fnOf "need_rows" "need_rows" (defArgs s_need_rows) (defBody s_need_rows) (defScope s_need_rows) .none kV4 dc4 pm4 an4 cd4 ct4), sl4⟩)
    (c4 : PySem.W.codeIn K cd4 "need_rows" = true)
    (k4 : PySem.W.keepIn K (.ref f4) = true)
    (a5 : PySem.W.nsIn K mainGlobals "_law_pen" = some (some (.ref f5)))
    (l5 : K.lookup f5 = some ⟨oc5, od5, .func (PySem.W.fnOf "_law_pen" "_law_pen" (defArgs s_law_pen) (defBody s_law_pen) (defScope s_law_pen) .none kV5 dc5 pm5 an5 cd5 ct5), sl5⟩)
    (c5 : PySem.W.codeIn K cd5 "_law_pen" = true)
    (k5 : PySem.W.keepIn K (.ref f5) = true)
    (a6 : PySem.W.nsIn K mainGlobals "_law_draw" = some (some (.ref f6)))
    (l6 : K.lookup f6 = some ⟨oc6, od6, .func (PySem.W.fnOf "_law_draw" "_law_draw" (defArgs s_law_draw) (defBody s_law_draw) (defScope s_law_draw) .none kV6 dc6 pm6 an6 cd6 ct6), sl6⟩)
    (c6 : PySem.W.codeIn K cd6 "_law_draw" = true)
    (k6 : PySem.W.keepIn K (.ref f6) = true)
    (a7 : PySem.W.nsIn K mainGlobals "_law_pick" = some (some (.ref f7)))
    (l7 : K.lookup f7 = some ⟨oc7, od7, .func (PySem.W.fnOf "_law_pick" "_law_pick" (defArgs s_law_pick) (defBody s_law_pick) (defScope s_law_pick) .none kV7 dc7 pm7 an7 cd7 ct7), sl7⟩)
    (c7 : PySem.W.codeIn K cd7 "_law_pick" = true)
    (k7 : PySem.W.keepIn K (.ref f7) = true)
    (a8 : PySem.W.nsIn K mainGlobals "_law_shuffled" = some (some (.ref f8)))
    (l8 : K.lookup f8 = some ⟨oc8, od8, .func (PySem.W.fnOf "_law_shuffled" "_law_shuffled" (defArgs s_law_shuffled) (defBody s_law_shuffled) (defScope s_law_shuffled) .none kV8 dc8 pm8 an8 cd8 ct8), sl8⟩)
    (c8 : PySem.W.codeIn K cd8 "_law_shuffled" = true)
    (k8 : PySem.W.keepIn K (.ref f8) = true)
    (a9 : PySem.W.nsIn K mainGlobals "_law_some" = some (some (.ref f9)))
    (l9 : K.lookup f9 = some ⟨oc9, od9, .func (PySem.W.fnOf "_law_some" "_law_some" (defArgs s_law_some) (defBody s_law_some) (defScope s_law_some) .none kV9 dc9 pm9 an9 cd9 ct9), sl9⟩)
    (c9 : PySem.W.codeIn K cd9 "_law_some" = true)
    (k9 : PySem.W.keepIn K (.ref f9) = true)
    (a10 : PySem.W.nsIn K mainGlobals "_law_name" = some (some (.ref f10)))
    (l10 : K.lookup f10 = some ⟨oc10, od10, .func (PySem.W.fnOf "_law_name" "_law_name" (defArgs s_law_name) (defBody s_law_name) (defScope s_law_name) .none kV10 dc10 pm10 an10 cd10 ct10), sl10⟩)
    (c10 : PySem.W.codeIn K cd10 "_law_name" = true)
    (k10 : PySem.W.keepIn K (.ref f10) = true)
    (a11 : PySem.W.nsIn K mainGlobals "_law_names" = some (some (.ref f11)))
    (l11 : K.lookup f11 = some ⟨oc11, od11, .func (PySem.W.fnOf "_law_names" "_law_names" (defArgs s_law_names) (defBody s_law_names) (defScope s_law_names) .none kV11 dc11 pm11 an11 cd11 ct11), sl11⟩)
    (c11 : PySem.W.codeIn K cd11 "_law_names" = true)
    (k11 : PySem.W.keepIn K (.ref f11) = true)
    (a12 : PySem.W.nsIn K mainGlobals "_law_mixed" = some (some (.ref f12)))
    (l12 : K.lookup f12 = some ⟨oc12, od12, .func (PySem.W.fnOf "_law_mixed" "_law_mixed" (defArgs s_law_mixed) (defBody s_law_mixed) (defScope s_law_mixed) .none kV12 dc12 pm12 an12 cd12 ct12), sl12⟩)
    (c12 : PySem.W.codeIn K cd12 "_law_mixed" = true)
    (k12 : PySem.W.keepIn K (.ref f12) = true)
    (a13 : PySem.W.nsIn K mainGlobals "_law_same" = some (some (.ref f13)))
    (l13 : K.lookup f13 = some ⟨oc13, od13, .func (PySem.W.fnOf "_law_same" "_law_same" (defArgs s_law_same) (defBody s_law_same) (defScope s_law_same) .none kV13 dc13 pm13 an13 cd13 ct13), sl13⟩)
    (c13 : PySem.W.codeIn K cd13 "_law_same" = true)
    (k13 : PySem.W.keepIn K (.ref f13) = true)
    (a14 : PySem.W.nsIn K mainGlobals "_law_tight" = some (some (.ref f14)))
    (l14 : K.lookup f14 = some ⟨oc14, od14, .func (PySem.W.fnOf "_law_tight" "_law_tight" (defArgs s_law_tight) (defBody s_law_tight) (defScope s_law_tight) .none kV14 dc14 pm14 an14 cd14 ct14), sl14⟩)
    (c14 : PySem.W.codeIn K cd14 "_law_tight" = true)
    (k14 : PySem.W.keepIn K (.ref f14) = true)
    (a15 : PySem.W.nsIn K mainGlobals "_law_some_machine" = some (some (.ref f15)))
    (l15 : K.lookup f15 = some ⟨oc15, od15, .func (PySem.W.fnOf "_law_some_machine" "_law_some_machine" (defArgs s_law_some_machine) (defBody s_law_some_machine) (defScope s_law_some_machine) .none kV15 dc15 pm15 an15 cd15 ct15), sl15⟩)
    (c15 : PySem.W.codeIn K cd15 "_law_some_machine" = true)
    (k15 : PySem.W.keepIn K (.ref f15) = true)
    (a16 : PySem.W.nsIn K mainGlobals "_law_turn_machine" = some (some (.ref f16)))
    (l16 : K.lookup f16 = some ⟨oc16, od16, .func (PySem.W.fnOf "_law_turn_machine" "_law_turn_machine" (defArgs s_law_turn_machine) (defBody s_law_turn_machine) (defScope s_law_turn_machine) .none kV16 dc16 pm16 an16 cd16 ct16), sl16⟩)
    (c16 : PySem.W.codeIn K cd16 "_law_turn_machine" = true)
    (k16 : PySem.W.keepIn K (.ref f16) = true)
    (a17 : PySem.W.nsIn K mainGlobals "_law_goal" = some (some (.ref f17)))
    (l17 : K.lookup f17 = some ⟨oc17, od17, .func (PySem.W.fnOf "_law_goal" "_law_goal" (defArgs s_law_goal) (defBody s_law_goal) (defScope s_law_goal) .none kV17 dc17 pm17 an17 cd17 ct17), sl17⟩)
    (c17 : PySem.W.codeIn K cd17 "_law_goal" = true)
    (k17 : PySem.W.keepIn K (.ref f17) = true)
    (a18 : PySem.W.nsIn K mainGlobals "_law_server_of" = some (some (.ref f18)))
    (l18 : K.lookup f18 = some ⟨oc18, od18, .func (PySem.W.fnOf "_law_server_of" "_law_server_of" (defArgs s_law_server_of) (defBody s_law_server_of) (defScope s_law_server_of) .none kV18 dc18 pm18 an18 cd18 ct18), sl18⟩)
    (c18 : PySem.W.codeIn K cd18 "_law_server_of" = true)
    (k18 : PySem.W.keepIn K (.ref f18) = true)
    (a19 : PySem.W.nsIn K mainGlobals "_law_made_server" = some (some (.ref f19)))
    (l19 : K.lookup f19 = some ⟨oc19, od19, .func (PySem.W.fnOf "_law_made_server" "_law_made_server" (defArgs s_law_made_server) (defBody s_law_made_server) (defScope s_law_made_server) .none kV19 dc19 pm19 an19 cd19 ct19), sl19⟩)
    (c19 : PySem.W.codeIn K cd19 "_law_made_server" = true)
    (k19 : PySem.W.keepIn K (.ref f19) = true)
    (a20 : PySem.W.nsIn K mainGlobals "_law_scene" = some (some (.ref f20)))
    (l20 : K.lookup f20 = some ⟨oc20, od20, .func (PySem.W.fnOf "_law_scene" "_law_scene" (defArgs s_law_scene) (defBody s_law_scene) (defScope s_law_scene) .none kV20 dc20 pm20 an20 cd20 ct20), sl20⟩)
    (c20 : PySem.W.codeIn K cd20 "_law_scene" = true)
    (k20 : PySem.W.keepIn K (.ref f20) = true)
    (a21 : PySem.W.nsIn K mainGlobals "_law_told" = some (some (.ref f21)))
    (l21 : K.lookup f21 = some ⟨oc21, od21, .func (PySem.W.fnOf "_law_told" "_law_told" (defArgs s_law_told) (defBody s_law_told) (defScope s_law_told) .none kV21 dc21 pm21 an21 cd21 ct21), sl21⟩)
    (c21 : PySem.W.codeIn K cd21 "_law_told" = true)
    (k21 : PySem.W.keepIn K (.ref f21) = true)
    (a22 : PySem.W.nsIn K mainGlobals "law" = some (some (.ref f22)))
    (l22 : K.lookup f22 = some ⟨oc22, od22, .func (PySem.W.fnOf "law" "law" (defArgs s_law) (defBody s_law) (defScope s_law) .none kV22 dc22 pm22 an22 cd22 ct22), sl22⟩)
    (c22 : PySem.W.codeIn K cd22 "law" = true)
    (k22 : PySem.W.keepIn K (.ref f22) = true)
    (gAgainError : PySem.W.nsIn K mainGlobals "AgainError" = some (some (.ref CAgainError)))
    (saAgainError : PySem.W.findIn K (.ref CAgainError) "__setattr__" = some (some (.builtin "object.__setattr__")))
    (kcAgainError : PySem.W.keepIn K (.ref CAgainError) = true)
    (hdAgainError : PySem.W.hasDictIn K CAgainError = true)
    (gaAgainError : PySem.W.findIn K (.ref CAgainError) "__getattribute__" = some (some (.builtin "BaseException.__getattribute__")))
    (ggAgainError : PySem.W.findIn K (.ref CAgainError) "__getattr__" = some none)
    (exAgainError : PySem.W.subIn K (.ref CAgainError) (.type "BaseException") = some true)
    (tyAgainError : PySem.W.typeIn K (.ref CAgainError) = some (.type "type"))
    (sbAgainError : PySem.W.subIn K (.ref CAgainError) (.ref CAgainError) = some true)
    (xlAgainError : ∃ nm q N bs bm sn sub ab col dd k0 k1 k2 k3 k5, K.lookup CAgainError = some (excClassObj nm q CAgainError N bs bm true sn sub ab col dd k0 k1 k2 k3 k5 "ValueError.__new__") ∧ PySem.HandSPX.refsVE bm = true)
    (gBadRow : PySem.W.nsIn K mainGlobals "BadRow" = some (some (.ref CBadRow)))
    (aBadRow0 : PySem.W.findIn K (.ref CBadRow) "__init__" = some (some (.ref fBadRow0)))
    (lBadRow0 : K.lookup fBadRow0 = some ⟨ocBadRow0, odBadRow0, .func (PySem.W.fnOf "__init__" "BadRow.__init__" (defArgs s_BadRow___init__) (defBody s_BadRow___init__) (defScope s_BadRow___init__) .none kVBadRow0 dcBadRow0 pmBadRow0 anBadRow0 cdBadRow0 ctBadRow0), slBadRow0⟩)
    (cBadRow0 : PySem.W.codeIn K cdBadRow0 "BadRow.__init__" = true)
    (kBadRow0 : PySem.W.keepIn K (.ref fBadRow0) = true)
    (tBadRow0 : PySem.W.typeIn K (.ref fBadRow0) = some (.type "function"))
    (nBadRowwhat : PySem.W.findIn K (.ref CBadRow) "what" = some none)
    (nBadRowrow : PySem.W.findIn K (.ref CBadRow) "row" = some none)
    (saBadRow : PySem.W.findIn K (.ref CBadRow) "__setattr__" = some (some (.builtin "object.__setattr__")))
    (kcBadRow : PySem.W.keepIn K (.ref CBadRow) = true)
    (hdBadRow : PySem.W.hasDictIn K CBadRow = true)
    (gaBadRow : PySem.W.findIn K (.ref CBadRow) "__getattribute__" = some (some (.builtin "BaseException.__getattribute__")))
    (ggBadRow : PySem.W.findIn K (.ref CBadRow) "__getattr__" = some none)
    (exBadRow : PySem.W.subIn K (.ref CBadRow) (.type "BaseException") = some true)
    (tyBadRow : PySem.W.typeIn K (.ref CBadRow) = some (.type "type"))
    (sbBadRow : PySem.W.subIn K (.ref CBadRow) (.ref CBadRow) = some true)
    (xlBadRow : ∃ nm q N bs bm sn sub ab col dd k0 k1 k2 k3 k5, K.lookup CBadRow = some (excClassObj nm q CBadRow N bs bm true sn sub ab col dd k0 k1 k2 k3 k5 "ValueError.__new__") ∧ PySem.HandSPX.refsVE bm = true)
    (gServer : PySem.W.nsIn K mainGlobals "Server" = some (some (.ref CServer)))
    (aServer0 : PySem.W.findIn K (.ref CServer) "__init__" = some (some (.ref fServer0)))
    (lServer0 : K.lookup fServer0 = some ⟨ocServer0, odServer0, .func (PySem.W.fnOf "__init__" "Server.__init__" (defArgs s_Server___init__) (defBody s_Server___init__) (defScope s_Server___init__) .none kVServer0 dcServer0 pmServer0 anServer0 cdServer0 ctServer0), slServer0⟩)
    (cServer0 : PySem.W.codeIn K cdServer0 "Server.__init__" = true)
    (kServer0 : PySem.W.keepIn K (.ref fServer0) = true)
    (iServer0 : PySem.W.isFn K (.ref fServer0) = true)
    (aServer1 : PySem.W.findIn K (.ref CServer) "__eq__" = some (some (.ref fServer1)))
    (lServer1 : K.lookup fServer1 = some ⟨ocServer1, odServer1, .func (PySem.W.fnOf "__eq__" "Server.__eq__" (defArgs s_Server___eq__) (defBody s_Server___eq__) (defScope s_Server___eq__) .none kVServer1 dcServer1 pmServer1 anServer1 cdServer1 ctServer1), slServer1⟩)
    (cServer1 : PySem.W.codeIn K cdServer1 "Server.__eq__" = true)
    (kServer1 : PySem.W.keepIn K (.ref fServer1) = true)
    (iServer1 : PySem.W.isFn K (.ref fServer1) = true)
    (aServer2 : PySem.W.findIn K (.ref CServer) "__len__" = some (some (.ref fServer2)))
    (lServer2 : K.lookup fServer2 = some ⟨ocServer2, odServer2, .func (PySem.W.fnOf "__len__" "Server.__len__" (defArgs s_Server___len__) (defBody s_Server___len__) (defScope s_Server___len__) .none kVServer2 dcServer2 pmServer2 anServer2 cdServer2 ctServer2), slServer2⟩)
    (cServer2 : PySem.W.codeIn K cdServer2 "Server.__len__" = true)
    (kServer2 : PySem.W.keepIn K (.ref fServer2) = true)
    (iServer2 : PySem.W.isFn K (.ref fServer2) = true)
    (aServer3 : PySem.W.findIn K (.ref CServer) "__contains__" = some (some (.ref fServer3)))
    (lServer3 : K.lookup fServer3 = some ⟨ocServer3, odServer3, .func (PySem.W.fnOf "__contains__" "Server.__contains__" (defArgs s_Server___contains__) (defBody s_Server___contains__) (defScope s_Server___contains__) .none kVServer3 dcServer3 pmServer3 anServer3 cdServer3 ctServer3), slServer3⟩)
    (cServer3 : PySem.W.codeIn K cdServer3 "Server.__contains__" = true)
    (kServer3 : PySem.W.keepIn K (.ref fServer3) = true)
    (iServer3 : PySem.W.isFn K (.ref fServer3) = true)
    (aServer4 : PySem.W.findIn K (.ref CServer) "__add__" = some (some (.ref fServer4)))
    (lServer4 : K.lookup fServer4 = some ⟨ocServer4, odServer4, .func (PySem.W.fnOf "__add__" "Server.__add__" (defArgs s_Server___add__) (defBody s_Server___add__) (defScope s_Server___add__) .none kVServer4 dcServer4 pmServer4 anServer4 cdServer4 ctServer4), slServer4⟩)
    (cServer4 : PySem.W.codeIn K cdServer4 "Server.__add__" = true)
    (kServer4 : PySem.W.keepIn K (.ref fServer4) = true)
    (iServer4 : PySem.W.isFn K (.ref fServer4) = true)
    (aServer5 : PySem.W.findIn K (.ref CServer) "__sub__" = some (some (.ref fServer5)))
    (lServer5 : K.lookup fServer5 = some ⟨ocServer5, odServer5, .func (PySem.W.fnOf "__sub__" "Server.__sub__" (defArgs s_Server___sub__) (defBody s_Server___sub__) (defScope s_Server___sub__) .none kVServer5 dcServer5 pmServer5 anServer5 cdServer5 ctServer5), slServer5⟩)
    (cServer5 : PySem.W.codeIn K cdServer5 "Server.__sub__" = true)
    (kServer5 : PySem.W.keepIn K (.ref fServer5) = true)
    (iServer5 : PySem.W.isFn K (.ref fServer5) = true)
    (aServer6 : PySem.W.findIn K (.ref CServer) "__or__" = some (some (.ref fServer6)))
    (lServer6 : K.lookup fServer6 = some ⟨ocServer6, odServer6, .func (PySem.W.fnOf "__or__" "Server.__or__" (defArgs s_Server___or__) (defBody s_Server___or__) (defScope s_Server___or__) .none kVServer6 dcServer6 pmServer6 anServer6 cdServer6 ctServer6), slServer6⟩)
    (cServer6 : PySem.W.codeIn K cdServer6 "Server.__or__" = true)
    (kServer6 : PySem.W.keepIn K (.ref fServer6) = true)
    (iServer6 : PySem.W.isFn K (.ref fServer6) = true)
    (aServer7 : PySem.W.findIn K (.ref CServer) "answers" = some (some (.ref fServer7)))
    (lServer7 : K.lookup fServer7 = some ⟨ocServer7, odServer7, .func (PySem.W.fnOf "answers" "Server.answers" (defArgs s_Server_answers) (defBody s_Server_answers) (defScope s_Server_answers) .none kVServer7 dcServer7 pmServer7 anServer7 cdServer7 ctServer7), slServer7⟩)
    (cServer7 : PySem.W.codeIn K cdServer7 "Server.answers" = true)
    (kServer7 : PySem.W.keepIn K (.ref fServer7) = true)
    (iServer7 : PySem.W.isFn K (.ref fServer7) = true)
    (aServer8 : PySem.W.findIn K (.ref CServer) "known" = some (some (.ref fServer8)))
    (lServer8 : K.lookup fServer8 = some ⟨ocServer8, odServer8, .func (PySem.W.fnOf "known" "Server.known" (defArgs s_Server_known) (defBody s_Server_known) (defScope s_Server_known) .none kVServer8 dcServer8 pmServer8 anServer8 cdServer8 ctServer8), slServer8⟩)
    (cServer8 : PySem.W.codeIn K cdServer8 "Server.known" = true)
    (kServer8 : PySem.W.keepIn K (.ref fServer8) = true)
    (iServer8 : PySem.W.isFn K (.ref fServer8) = true)
    (aServer9 : PySem.W.findIn K (.ref CServer) "halls" = some (some (.ref fServer9)))
    (lServer9 : K.lookup fServer9 = some ⟨ocServer9, odServer9, .func (PySem.W.fnOf "halls" "Server.halls" (defArgs s_Server_halls) (defBody s_Server_halls) (defScope s_Server_halls) .none kVServer9 dcServer9 pmServer9 anServer9 cdServer9 ctServer9), slServer9⟩)
    (cServer9 : PySem.W.codeIn K cdServer9 "Server.halls" = true)
    (kServer9 : PySem.W.keepIn K (.ref fServer9) = true)
    (iServer9 : PySem.W.isFn K (.ref fServer9) = true)
    (aServer10 : PySem.W.findIn K (.ref CServer) "calls" = some (some (.ref fServer10)))
    (lServer10 : K.lookup fServer10 = some ⟨ocServer10, odServer10, .func (PySem.W.fnOf "calls" "Server.calls" (defArgs s_Server_calls) (defBody s_Server_calls) (defScope s_Server_calls) .none kVServer10 dcServer10 pmServer10 anServer10 cdServer10 ctServer10), slServer10⟩)
    (cServer10 : PySem.W.codeIn K cdServer10 "Server.calls" = true)
    (kServer10 : PySem.W.keepIn K (.ref fServer10) = true)
    (iServer10 : PySem.W.isFn K (.ref fServer10) = true)
    (aServer11 : PySem.W.findIn K (.ref CServer) "doubts" = some (some (.ref fServer11)))
    (lServer11 : K.lookup fServer11 = some ⟨ocServer11, odServer11, .func (PySem.W.fnOf "doubts" "Server.doubts" (defArgs s_Server_doubts) (defBody s_Server_doubts) (defScope s_Server_doubts) .none kVServer11 dcServer11 pmServer11 anServer11 cdServer11 ctServer11), slServer11⟩)
    (cServer11 : PySem.W.codeIn K cdServer11 "Server.doubts" = true)
    (kServer11 : PySem.W.keepIn K (.ref fServer11) = true)
    (iServer11 : PySem.W.isFn K (.ref fServer11) = true)
    (nServerrows : PySem.W.findIn K (.ref CServer) "rows" = some none)
    (nServer_answers : PySem.W.findIn K (.ref CServer) "_answers" = some none)
    (nServer_known : PySem.W.findIn K (.ref CServer) "_known" = some none)
    (saServer : PySem.W.findIn K (.ref CServer) "__setattr__" = some (some (.builtin "object.__setattr__")))
    (kcServer : PySem.W.keepIn K (.ref CServer) = true)
    (hdServer : PySem.W.hasDictIn K CServer = true)
    (pgServer : PySem.W.plainGet K CServer Str.empty = true)
    (poServer : PySem.W.plainOver K CServer = true)
    (miServer : PySem.W.makesIn K CServer = true)
    (eaServer : PySem.W.findIn K (.ref CServer) "__class__" = some (some (.builtin "object.__class__")))
    (emServer : PySem.W.mroIn K CServer (.type "object") = some true)
    (eN : PySem.W.specialIn K (.builtin "object.__class__") "__get__" = some (some (.builtin "getset_descriptor.__get__")))
    (eT : PySem.W.takesIn K (.builtin "object.__class__") = some true)
    (xtoc_Server_Add : OpC K CServer .Add)
    (xtoc_Server_Sub : OpC K CServer .Sub)
    (xtoc_Server_BitOr : OpC K CServer .BitOr)
    (xtns_Server : NotSub K CServer)
    (xtnk_Server : NotKit K CServer)
    (xtom_Server : PySem.W.mroIn K CServer (.type "object") = some true)
    (xton_Server : PySem.W.findIn K (.ref CServer) "__ne__" = some (some (.builtin "object.__ne__")))
    (kiServerServer : PySem.W.kitOne K (.ref CServer) (.ref CServer) = some true)
    (gFIGURES : PySem.W.nsIn K mainGlobals "FIGURES" = some (some (.str "0123456789" tFIGURES)))
    (gLETTERS : PySem.W.nsIn K mainGlobals "LETTERS" = some (some (.str "abcdefghijklmnopqrstuvwxyz" tLETTERS)))
    (btuple : PySem.W.nsIn K mainGlobals "tuple" = some none)
    (ball : PySem.W.nsIn K mainGlobals "all" = some none)
    (brange : PySem.W.nsIn K mainGlobals "range" = some none)
    (bisinstance : PySem.W.nsIn K mainGlobals "isinstance" = some none)
    (bint : PySem.W.nsIn K mainGlobals "int" = some none)
    (blen : PySem.W.nsIn K mainGlobals "len" = some none)
    (benumerate : PySem.W.nsIn K mainGlobals "enumerate" = some none)
    (bsorted : PySem.W.nsIn K mainGlobals "sorted" = some none)
    (bdict : PySem.W.nsIn K mainGlobals "dict" = some none)
    (blist : PySem.W.nsIn K mainGlobals "list" = some none)
    (bstr : PySem.W.nsIn K mainGlobals "str" = some none)
    (bset : PySem.W.nsIn K mainGlobals "set" = some none)
    (bbool : PySem.W.nsIn K mainGlobals "bool" = some none)
    (brepr : PySem.W.nsIn K mainGlobals "repr" = some none)
    (bmin : PySem.W.nsIn K mainGlobals "min" = some none)
    (bzip : PySem.W.nsIn K mainGlobals "zip" = some none)
    (hcd : cd22 = .ref cc) (lcc : K.lookup cc = some ⟨xc, xo, .fields vsx, xs⟩) (hv : (vsx[11]? : Option Value) = some (.ref tb)) :
    LawG l w K 63 mg fa s := by
  have G := TP.g
  have htb : PySem.W.tabIn K "law" = some (cc, tb) := by
    simp only [PySem.W.tabIn, a22, l22, PySem.W.fnOf, hcd, lcc, hv]
  have e : f22 = fa := Value.ref.inj (Option.some.inj ((PySem.W.mg_of X G a22).symm.trans hfa))
  subst e
  let T : Txt w K mg := {
    a_wall := f0
    d_wall := (PySem.W.fnOf "_wall" "_wall" (defArgs s_wall) (defBody s_wall) (defScope s_wall) .none kV0 dc0 pm0 an0 cd0 ct0)
    D_wall := ⟨fun_mk (st := s_wall) l0 c0 k0, PySem.W.mg_of X G a0, (fun_mk (x := "_wall") (qual := "_wall") (st := s_wall) l0 c0 k0).binds (ps := ["k"]) fun _ _ _ _ _ _ us hl => match us, hl with | [_], _ => rfl⟩
    a_ascending := f1
    d_ascending := (PySem.W.fnOf "ascending" "ascending" (defArgs s_ascending) (defBody s_ascending) (defScope s_ascending) .none kV1 dc1 pm1 an1 cd1 ct1)
    D_ascending := ⟨fun_mk (st := s_ascending) l1 c1 k1, PySem.W.mg_of X G a1, (fun_mk (x := "ascending") (qual := "ascending") (st := s_ascending) l1 c1 k1).binds (ps := ["names"]) fun _ _ _ _ _ _ us hl => match us, hl with | [_], _ => rfl⟩
    a_is_name := f2
    d_is_name := (PySem.W.fnOf "is_name" "is_name" (defArgs s_is_name) (defBody s_is_name) (defScope s_is_name) .none kV2 dc2 pm2 an2 cd2 ct2)
    D_is_name := ⟨fun_mk (st := s_is_name) l2 c2 k2, PySem.W.mg_of X G a2, (fun_mk (x := "is_name") (qual := "is_name") (st := s_is_name) l2 c2 k2).binds (ps := ["value"]) fun _ _ _ _ _ _ us hl => match us, hl with | [_], _ => rfl⟩
    a_is_row := f3
    d_is_row := (PySem.W.fnOf "is_row" "is_row" (defArgs s_is_row) (defBody s_is_row) (defScope s_is_row) .none kV3 dc3 pm3 an3 cd3 ct3)
    D_is_row := ⟨fun_mk (st := s_is_row) l3 c3 k3, PySem.W.mg_of X G a3, (fun_mk (x := "is_row") (qual := "is_row") (st := s_is_row) l3 c3 k3).binds (ps := ["value"]) fun _ _ _ _ _ _ us hl => match us, hl with | [_], _ => rfl⟩
    a_need_rows := f4
    d_need_rows := (PySem.W.fnOf "need_rows" "need_rows" (defArgs s_need_rows) (defBody s_need_rows) (defScope s_need_rows) .none kV4 dc4 pm4 an4 cd4 ct4)
    D_need_rows := ⟨fun_mk (st := s_need_rows) l4 c4 k4, PySem.W.mg_of X G a4, (fun_mk (x := "need_rows") (qual := "need_rows") (st := s_need_rows) l4 c4 k4).binds (ps := ["rows"]) fun _ _ _ _ _ _ us hl => match us, hl with | [_], _ => rfl⟩
    a_law_pen := f5
    d_law_pen := (PySem.W.fnOf "_law_pen" "_law_pen" (defArgs s_law_pen) (defBody s_law_pen) (defScope s_law_pen) .none kV5 dc5 pm5 an5 cd5 ct5)
    D_law_pen := ⟨fun_mk (st := s_law_pen) l5 c5 k5, PySem.W.mg_of X G a5, (fun_mk (x := "_law_pen") (qual := "_law_pen") (st := s_law_pen) l5 c5 k5).binds (ps := ["script"]) fun _ _ _ _ _ _ us hl => match us, hl with | [_], _ => rfl⟩
    a_law_draw := f6
    d_law_draw := (PySem.W.fnOf "_law_draw" "_law_draw" (defArgs s_law_draw) (defBody s_law_draw) (defScope s_law_draw) .none kV6 dc6 pm6 an6 cd6 ct6)
    D_law_draw := ⟨fun_mk (st := s_law_draw) l6 c6 k6, PySem.W.mg_of X G a6, (fun_mk (x := "_law_draw") (qual := "_law_draw") (st := s_law_draw) l6 c6 k6).binds (ps := ["pen", "many"]) fun _ _ _ _ _ _ us hl => match us, hl with | [_, _], _ => rfl⟩
    a_law_pick := f7
    d_law_pick := (PySem.W.fnOf "_law_pick" "_law_pick" (defArgs s_law_pick) (defBody s_law_pick) (defScope s_law_pick) .none kV7 dc7 pm7 an7 cd7 ct7)
    D_law_pick := ⟨fun_mk (st := s_law_pick) l7 c7 k7, PySem.W.mg_of X G a7, (fun_mk (x := "_law_pick") (qual := "_law_pick") (st := s_law_pick) l7 c7 k7).binds (ps := ["pen", "some"]) fun _ _ _ _ _ _ us hl => match us, hl with | [_, _], _ => rfl⟩
    a_law_shuffled := f8
    d_law_shuffled := (PySem.W.fnOf "_law_shuffled" "_law_shuffled" (defArgs s_law_shuffled) (defBody s_law_shuffled) (defScope s_law_shuffled) .none kV8 dc8 pm8 an8 cd8 ct8)
    D_law_shuffled := ⟨fun_mk (st := s_law_shuffled) l8 c8 k8, PySem.W.mg_of X G a8, (fun_mk (x := "_law_shuffled") (qual := "_law_shuffled") (st := s_law_shuffled) l8 c8 k8).binds (ps := ["pen", "some"]) fun _ _ _ _ _ _ us hl => match us, hl with | [_, _], _ => rfl⟩
    a_law_some := f9
    d_law_some := (PySem.W.fnOf "_law_some" "_law_some" (defArgs s_law_some) (defBody s_law_some) (defScope s_law_some) .none kV9 dc9 pm9 an9 cd9 ct9)
    D_law_some := ⟨fun_mk (st := s_law_some) l9 c9 k9, PySem.W.mg_of X G a9, (fun_mk (x := "_law_some") (qual := "_law_some") (st := s_law_some) l9 c9 k9).binds (ps := ["pen", "some", "most"]) fun _ _ _ _ _ _ us hl => match us, hl with | [_, _, _], _ => rfl⟩
    a_law_name := f10
    d_law_name := (PySem.W.fnOf "_law_name" "_law_name" (defArgs s_law_name) (defBody s_law_name) (defScope s_law_name) .none kV10 dc10 pm10 an10 cd10 ct10)
    D_law_name := ⟨fun_mk (st := s_law_name) l10 c10 k10, PySem.W.mg_of X G a10, (fun_mk (x := "_law_name") (qual := "_law_name") (st := s_law_name) l10 c10 k10).binds (ps := ["pen", "index"]) fun _ _ _ _ _ _ us hl => match us, hl with | [_, _], _ => rfl⟩
    a_law_names := f11
    d_law_names := (PySem.W.fnOf "_law_names" "_law_names" (defArgs s_law_names) (defBody s_law_names) (defScope s_law_names) .none kV11 dc11 pm11 an11 cd11 ct11)
    D_law_names := ⟨fun_mk (st := s_law_names) l11 c11 k11, PySem.W.mg_of X G a11, (fun_mk (x := "_law_names") (qual := "_law_names") (st := s_law_names) l11 c11 k11).binds (ps := ["pen", "many"]) fun _ _ _ _ _ _ us hl => match us, hl with | [_, _], _ => rfl⟩
    a_law_mixed := f12
    d_law_mixed := (PySem.W.fnOf "_law_mixed" "_law_mixed" (defArgs s_law_mixed) (defBody s_law_mixed) (defScope s_law_mixed) .none kV12 dc12 pm12 an12 cd12 ct12)
    D_law_mixed := ⟨fun_mk (st := s_law_mixed) l12 c12 k12, PySem.W.mg_of X G a12, (fun_mk (x := "_law_mixed") (qual := "_law_mixed") (st := s_law_mixed) l12 c12 k12).binds (ps := ["pen", "some"]) fun _ _ _ _ _ _ us hl => match us, hl with | [_, _], _ => rfl⟩
    a_law_same := f13
    d_law_same := (PySem.W.fnOf "_law_same" "_law_same" (defArgs s_law_same) (defBody s_law_same) (defScope s_law_same) .none kV13 dc13 pm13 an13 cd13 ct13)
    D_law_same := ⟨fun_mk (st := s_law_same) l13 c13 k13, PySem.W.mg_of X G a13, (fun_mk (x := "_law_same") (qual := "_law_same") (st := s_law_same) l13 c13 k13).binds (ps := ["told", "due"]) fun _ _ _ _ _ _ us hl => match us, hl with | [_, _], _ => rfl⟩
    a_law_tight := f14
    d_law_tight := (PySem.W.fnOf "_law_tight" "_law_tight" (defArgs s_law_tight) (defBody s_law_tight) (defScope s_law_tight) .none kV14 dc14 pm14 an14 cd14 ct14)
    D_law_tight := ⟨fun_mk (st := s_law_tight) l14 c14 k14, PySem.W.mg_of X G a14, (fun_mk (x := "_law_tight") (qual := "_law_tight") (st := s_law_tight) l14 c14 k14).binds (ps := ["calls", "rows", "marks"]) fun _ _ _ _ _ _ us hl => match us, hl with | [_, _, _], _ => rfl⟩
    a_law_some_machine := f15
    d_law_some_machine := (PySem.W.fnOf "_law_some_machine" "_law_some_machine" (defArgs s_law_some_machine) (defBody s_law_some_machine) (defScope s_law_some_machine) .none kV15 dc15 pm15 an15 cd15 ct15)
    D_law_some_machine := ⟨fun_mk (st := s_law_some_machine) l15 c15 k15, PySem.W.mg_of X G a15, (fun_mk (x := "_law_some_machine") (qual := "_law_some_machine") (st := s_law_some_machine) l15 c15 k15).binds (ps := ["pen", "calls", "many"]) fun _ _ _ _ _ _ us hl => match us, hl with | [_, _, _], _ => rfl⟩
    a_law_turn_machine := f16
    d_law_turn_machine := (PySem.W.fnOf "_law_turn_machine" "_law_turn_machine" (defArgs s_law_turn_machine) (defBody s_law_turn_machine) (defScope s_law_turn_machine) .none kV16 dc16 pm16 an16 cd16 ct16)
    D_law_turn_machine := ⟨fun_mk (st := s_law_turn_machine) l16 c16 k16, PySem.W.mg_of X G a16, (fun_mk (x := "_law_turn_machine") (qual := "_law_turn_machine") (st := s_law_turn_machine) l16 c16 k16).binds (ps := ["pen", "calls", "many"]) fun _ _ _ _ _ _ us hl => match us, hl with | [_, _, _], _ => rfl⟩
    a_law_goal := f17
    d_law_goal := (PySem.W.fnOf "_law_goal" "_law_goal" (defArgs s_law_goal) (defBody s_law_goal) (defScope s_law_goal) .none kV17 dc17 pm17 an17 cd17 ct17)
    D_law_goal := ⟨fun_mk (st := s_law_goal) l17 c17 k17, PySem.W.mg_of X G a17, (fun_mk (x := "_law_goal") (qual := "_law_goal") (st := s_law_goal) l17 c17 k17).binds (ps := ["pen"]) fun _ _ _ _ _ _ us hl => match us, hl with | [_], _ => rfl⟩
    a_law_server_of := f18
    d_law_server_of := (PySem.W.fnOf "_law_server_of" "_law_server_of" (defArgs s_law_server_of) (defBody s_law_server_of) (defScope s_law_server_of) .none kV18 dc18 pm18 an18 cd18 ct18)
    D_law_server_of := ⟨fun_mk (st := s_law_server_of) l18 c18 k18, PySem.W.mg_of X G a18, (fun_mk (x := "_law_server_of") (qual := "_law_server_of") (st := s_law_server_of) l18 c18 k18).binds (ps := ["rows"]) fun _ _ _ _ _ _ us hl => match us, hl with | [_], _ => rfl⟩
    a_law_made_server := f19
    d_law_made_server := (PySem.W.fnOf "_law_made_server" "_law_made_server" (defArgs s_law_made_server) (defBody s_law_made_server) (defScope s_law_made_server) .none kV19 dc19 pm19 an19 cd19 ct19)
    D_law_made_server := ⟨fun_mk (st := s_law_made_server) l19 c19 k19, PySem.W.mg_of X G a19, (fun_mk (x := "_law_made_server") (qual := "_law_made_server") (st := s_law_made_server) l19 c19 k19).binds (ps := ["pen", "server"]) fun _ _ _ _ _ _ us hl => match us, hl with | [_, _], _ => rfl⟩
    a_law_scene := f20
    d_law_scene := (PySem.W.fnOf "_law_scene" "_law_scene" (defArgs s_law_scene) (defBody s_law_scene) (defScope s_law_scene) .none kV20 dc20 pm20 an20 cd20 ct20)
    D_law_scene := ⟨fun_mk (st := s_law_scene) l20 c20 k20, PySem.W.mg_of X G a20, (fun_mk (x := "_law_scene") (qual := "_law_scene") (st := s_law_scene) l20 c20 k20).binds (ps := ["pen"]) fun _ _ _ _ _ _ us hl => match us, hl with | [_], _ => rfl⟩
    a_law_told := f21
    d_law_told := (PySem.W.fnOf "_law_told" "_law_told" (defArgs s_law_told) (defBody s_law_told) (defScope s_law_told) .none kV21 dc21 pm21 an21 cd21 ct21)
    D_law_told := ⟨fun_mk (st := s_law_told) l21 c21 k21, PySem.W.mg_of X G a21, (fun_mk (x := "_law_told") (qual := "_law_told") (st := s_law_told) l21 c21 k21).binds (ps := ["call"]) fun _ _ _ _ _ _ us hl => match us, hl with | [_], _ => rfl⟩
    a_law := f22
    d_law := (PySem.W.fnOf "law" "law" (defArgs s_law) (defBody s_law) (defScope s_law) .none kV22 dc22 pm22 an22 cd22 ct22)
    D_law := ⟨fun_mk (st := s_law) l22 c22 k22, PySem.W.mg_of X G a22, (fun_mk (x := "law") (qual := "law") (st := s_law) l22 c22 k22).binds (ps := ["script"]) fun _ _ _ _ _ _ us hl => match us, hl with | [_], _ => rfl⟩
    C_AgainError := CAgainError
    g_AgainError := PySem.W.mg_of X G gAgainError
    ox_AgainError := ⟨xlAgainError, saAgainError, exAgainError, tyAgainError, kcAgainError⟩
    xf_AgainError := ⟨gaAgainError, ggAgainError, exAgainError, hdAgainError⟩
    sb_AgainError := sbAgainError
    C_BadRow := CBadRow
    g_BadRow := PySem.W.mg_of X G gBadRow
    a_BadRow___init__ := fBadRow0
    d_BadRow___init__ := (PySem.W.fnOf "__init__" "BadRow.__init__" (defArgs s_BadRow___init__) (defBody s_BadRow___init__) (defScope s_BadRow___init__) .none kVBadRow0 dcBadRow0 pmBadRow0 anBadRow0 cdBadRow0 ctBadRow0)
    D_BadRow___init__ := ⟨fun_mk (st := s_BadRow___init__) lBadRow0 cBadRow0 kBadRow0, (fun_mk (x := "__init__") (qual := "BadRow.__init__") (st := s_BadRow___init__) lBadRow0 cBadRow0 kBadRow0).binds (ps := ["self", "what", "row"]) fun _ _ _ _ _ _ us hl => match us, hl with | [_, _, _], _ => rfl⟩
    ic_BadRow := aBadRow0
    ti_BadRow := tBadRow0
    na_BadRow_what := nBadRowwhat
    na_BadRow_row := nBadRowrow
    ox_BadRow := ⟨xlBadRow, saBadRow, exBadRow, tyBadRow, kcBadRow⟩
    xf_BadRow := ⟨gaBadRow, ggBadRow, exBadRow, hdBadRow⟩
    sb_BadRow := sbBadRow
    C_Server := CServer
    g_Server := PySem.W.mg_of X G gServer
    a_Server___init__ := fServer0
    d_Server___init__ := (PySem.W.fnOf "__init__" "Server.__init__" (defArgs s_Server___init__) (defBody s_Server___init__) (defScope s_Server___init__) .none kVServer0 dcServer0 pmServer0 anServer0 cdServer0 ctServer0)
    D_Server___init__ := ⟨fun_mk (st := s_Server___init__) lServer0 cServer0 kServer0, (fun_mk (x := "__init__") (qual := "Server.__init__") (st := s_Server___init__) lServer0 cServer0 kServer0).binds (ps := ["self", "rows"]) fun _ _ _ _ _ _ us hl => match us, hl with | [_, _], _ => rfl⟩
    mk_Server := ⟨miServer, aServer0, iServer0, kcServer⟩
    a_Server___eq__ := fServer1
    d_Server___eq__ := (PySem.W.fnOf "__eq__" "Server.__eq__" (defArgs s_Server___eq__) (defBody s_Server___eq__) (defScope s_Server___eq__) .none kVServer1 dcServer1 pmServer1 anServer1 cdServer1 ctServer1)
    D_Server___eq__ := ⟨fun_mk (st := s_Server___eq__) lServer1 cServer1 kServer1, (fun_mk (x := "__eq__") (qual := "Server.__eq__") (st := s_Server___eq__) lServer1 cServer1 kServer1).binds (ps := ["self", "other"]) fun _ _ _ _ _ _ us hl => match us, hl with | [_, _], _ => rfl⟩
    mt_Server___eq__ := ⟨aServer1, iServer1, kServer1⟩
    a_Server___len__ := fServer2
    d_Server___len__ := (PySem.W.fnOf "__len__" "Server.__len__" (defArgs s_Server___len__) (defBody s_Server___len__) (defScope s_Server___len__) .none kVServer2 dcServer2 pmServer2 anServer2 cdServer2 ctServer2)
    D_Server___len__ := ⟨fun_mk (st := s_Server___len__) lServer2 cServer2 kServer2, (fun_mk (x := "__len__") (qual := "Server.__len__") (st := s_Server___len__) lServer2 cServer2 kServer2).binds (ps := ["self"]) fun _ _ _ _ _ _ us hl => match us, hl with | [_], _ => rfl⟩
    mt_Server___len__ := ⟨aServer2, iServer2, kServer2⟩
    a_Server___contains__ := fServer3
    d_Server___contains__ := (PySem.W.fnOf "__contains__" "Server.__contains__" (defArgs s_Server___contains__) (defBody s_Server___contains__) (defScope s_Server___contains__) .none kVServer3 dcServer3 pmServer3 anServer3 cdServer3 ctServer3)
    D_Server___contains__ := ⟨fun_mk (st := s_Server___contains__) lServer3 cServer3 kServer3, (fun_mk (x := "__contains__") (qual := "Server.__contains__") (st := s_Server___contains__) lServer3 cServer3 kServer3).binds (ps := ["self", "row"]) fun _ _ _ _ _ _ us hl => match us, hl with | [_, _], _ => rfl⟩
    mt_Server___contains__ := ⟨aServer3, iServer3, kServer3⟩
    a_Server___add__ := fServer4
    d_Server___add__ := (PySem.W.fnOf "__add__" "Server.__add__" (defArgs s_Server___add__) (defBody s_Server___add__) (defScope s_Server___add__) .none kVServer4 dcServer4 pmServer4 anServer4 cdServer4 ctServer4)
    D_Server___add__ := ⟨fun_mk (st := s_Server___add__) lServer4 cServer4 kServer4, (fun_mk (x := "__add__") (qual := "Server.__add__") (st := s_Server___add__) lServer4 cServer4 kServer4).binds (ps := ["self", "row"]) fun _ _ _ _ _ _ us hl => match us, hl with | [_, _], _ => rfl⟩
    mt_Server___add__ := ⟨aServer4, iServer4, kServer4⟩
    a_Server___sub__ := fServer5
    d_Server___sub__ := (PySem.W.fnOf "__sub__" "Server.__sub__" (defArgs s_Server___sub__) (defBody s_Server___sub__) (defScope s_Server___sub__) .none kVServer5 dcServer5 pmServer5 anServer5 cdServer5 ctServer5)
    D_Server___sub__ := ⟨fun_mk (st := s_Server___sub__) lServer5 cServer5 kServer5, (fun_mk (x := "__sub__") (qual := "Server.__sub__") (st := s_Server___sub__) lServer5 cServer5 kServer5).binds (ps := ["self", "row"]) fun _ _ _ _ _ _ us hl => match us, hl with | [_, _], _ => rfl⟩
    mt_Server___sub__ := ⟨aServer5, iServer5, kServer5⟩
    a_Server___or__ := fServer6
    d_Server___or__ := (PySem.W.fnOf "__or__" "Server.__or__" (defArgs s_Server___or__) (defBody s_Server___or__) (defScope s_Server___or__) .none kVServer6 dcServer6 pmServer6 anServer6 cdServer6 ctServer6)
    D_Server___or__ := ⟨fun_mk (st := s_Server___or__) lServer6 cServer6 kServer6, (fun_mk (x := "__or__") (qual := "Server.__or__") (st := s_Server___or__) lServer6 cServer6 kServer6).binds (ps := ["self", "other"]) fun _ _ _ _ _ _ us hl => match us, hl with | [_, _], _ => rfl⟩
    mt_Server___or__ := ⟨aServer6, iServer6, kServer6⟩
    a_Server_answers := fServer7
    d_Server_answers := (PySem.W.fnOf "answers" "Server.answers" (defArgs s_Server_answers) (defBody s_Server_answers) (defScope s_Server_answers) .none kVServer7 dcServer7 pmServer7 anServer7 cdServer7 ctServer7)
    D_Server_answers := ⟨fun_mk (st := s_Server_answers) lServer7 cServer7 kServer7, (fun_mk (x := "answers") (qual := "Server.answers") (st := s_Server_answers) lServer7 cServer7 kServer7).binds (ps := ["self", "hall", "call"]) fun _ _ _ _ _ _ us hl => match us, hl with | [_, _, _], _ => rfl⟩
    mt_Server_answers := ⟨aServer7, iServer7, kServer7⟩
    a_Server_known := fServer8
    d_Server_known := (PySem.W.fnOf "known" "Server.known" (defArgs s_Server_known) (defBody s_Server_known) (defScope s_Server_known) .none kVServer8 dcServer8 pmServer8 anServer8 cdServer8 ctServer8)
    D_Server_known := ⟨fun_mk (st := s_Server_known) lServer8 cServer8 kServer8, (fun_mk (x := "known") (qual := "Server.known") (st := s_Server_known) lServer8 cServer8 kServer8).binds (ps := ["self", "hall"]) fun _ _ _ _ _ _ us hl => match us, hl with | [_, _], _ => rfl⟩
    mt_Server_known := ⟨aServer8, iServer8, kServer8⟩
    a_Server_halls := fServer9
    d_Server_halls := (PySem.W.fnOf "halls" "Server.halls" (defArgs s_Server_halls) (defBody s_Server_halls) (defScope s_Server_halls) .none kVServer9 dcServer9 pmServer9 anServer9 cdServer9 ctServer9)
    D_Server_halls := ⟨fun_mk (st := s_Server_halls) lServer9 cServer9 kServer9, (fun_mk (x := "halls") (qual := "Server.halls") (st := s_Server_halls) lServer9 cServer9 kServer9).binds (ps := ["self"]) fun _ _ _ _ _ _ us hl => match us, hl with | [_], _ => rfl⟩
    mt_Server_halls := ⟨aServer9, iServer9, kServer9⟩
    a_Server_calls := fServer10
    d_Server_calls := (PySem.W.fnOf "calls" "Server.calls" (defArgs s_Server_calls) (defBody s_Server_calls) (defScope s_Server_calls) .none kVServer10 dcServer10 pmServer10 anServer10 cdServer10 ctServer10)
    D_Server_calls := ⟨fun_mk (st := s_Server_calls) lServer10 cServer10 kServer10, (fun_mk (x := "calls") (qual := "Server.calls") (st := s_Server_calls) lServer10 cServer10 kServer10).binds (ps := ["self"]) fun _ _ _ _ _ _ us hl => match us, hl with | [_], _ => rfl⟩
    mt_Server_calls := ⟨aServer10, iServer10, kServer10⟩
    a_Server_doubts := fServer11
    d_Server_doubts := (PySem.W.fnOf "doubts" "Server.doubts" (defArgs s_Server_doubts) (defBody s_Server_doubts) (defScope s_Server_doubts) .none kVServer11 dcServer11 pmServer11 anServer11 cdServer11 ctServer11)
    D_Server_doubts := ⟨fun_mk (st := s_Server_doubts) lServer11 cServer11 kServer11, (fun_mk (x := "doubts") (qual := "Server.doubts") (st := s_Server_doubts) lServer11 cServer11 kServer11).binds (ps := ["self"]) fun _ _ _ _ _ _ us hl => match us, hl with | [_], _ => rfl⟩
    mt_Server_doubts := ⟨aServer11, iServer11, kServer11⟩
    na_Server_rows := nServerrows
    na_Server__answers := nServer_answers
    na_Server__known := nServer_known
    cl_Server := ⟨pgServer, hdServer, poServer, saServer⟩
    ty_Server := fun H a dx fs e => .ins e ⟨pgServer, hdServer, poServer, saServer⟩ eaServer eN eT emServer
    oc_Server_Add := xtoc_Server_Add
    oc_Server_Sub := xtoc_Server_Sub
    oc_Server_BitOr := xtoc_Server_BitOr
    ns_Server := xtns_Server
    nk_Server := xtnk_Server
    om_Server := xtom_Server
    on_Server := xton_Server
    ki_Server_Server := kiServerServer
    t_FIGURES := tFIGURES
    g_FIGURES := PySem.W.mg_of X G gFIGURES
    t_LETTERS := tLETTERS
    g_LETTERS := PySem.W.mg_of X G gLETTERS
    b_tuple := PySem.W.mg_none_of X G btuple
    b_all := PySem.W.mg_none_of X G ball
    b_range := PySem.W.mg_none_of X G brange
    b_isinstance := PySem.W.mg_none_of X G bisinstance
    b_int := PySem.W.mg_none_of X G bint
    b_len := PySem.W.mg_none_of X G blen
    b_enumerate := PySem.W.mg_none_of X G benumerate
    b_sorted := PySem.W.mg_none_of X G bsorted
    b_dict := PySem.W.mg_none_of X G bdict
    b_list := PySem.W.mg_none_of X G blist
    b_str := PySem.W.mg_none_of X G bstr
    b_set := PySem.W.mg_none_of X G bset
    b_bool := PySem.W.mg_none_of X G bbool
    b_repr := PySem.W.mg_none_of X G brepr
    b_min := PySem.W.mg_none_of X G bmin
    b_zip := PySem.W.mg_none_of X G bzip }
  obtain ⟨hd, ht⟩ := PySem.W.tab_of TP X hrec htb
  refine ⟨[(cc, tb)], fun p hp => by rw [List.mem_singleton.mp hp]; exact ht, fun p hp => by rw [List.mem_singleton.mp hp]; exact ntb, fun p hp => by rw [List.mem_singleton.mp hp]; exact hd, fun a ns base H hl _ _ _ hTB hT hs e0 => ?_⟩
  exact law_runs T (PySem.W.law_code X G htb hfa (X _ _ l22) rfl) (hTB _ (List.mem_singleton.mpr rfl)) (hT _ (List.mem_singleton.mpr rfl)) hs hl e0
end Ag
open PySem PySem.W PyProof.Rows in
set_option maxRecDepth 100000 in
set_option maxHeartbeats 0 in
theorem PySem.Challenge.cw_againnotes_k18_whole_servers_in_any_orde_holds : PySem.Challenge.rw_againnotes_k18_whole_servers_in_any_orde.Holds := by
  w_on; o_law; k_head; (case hw => w_witness2)
  k_fill
  refine Ag.walk_G (l := PySem.Challenge.rw_againnotes_k18_whole_servers_in_any_orde) (n := 63) rfl (by decide) rfl (fun w h Y => PySem.W.km_in_of Y) ?F
  case F =>
    intro w mg mb fa s mean TP KX hmg
    refine' Ag.all_mk TP KX ?hrec ?ntb hmg ?a0 ?l0 ?c0 ?k0 ?a1 ?l1 ?c1 ?k1 ?a2 ?l2 ?c2 ?k2 ?a3 ?l3 ?c3 ?k3 ?a4 ?l4 ?c4 ?k4 ?a5 ?l5 ?c5 ?k5 ?a6 ?l6 ?c6 ?k6 ?a7 ?l7 ?c7 ?k7 ?a8 ?l8 ?c8 ?k8 ?a9 ?l9 ?c9 ?k9 ?a10 ?l10 ?c10 ?k10 ?a11 ?l11 ?c11 ?k11 ?a12 ?l12 ?c12 ?k12 ?a13 ?l13 ?c13 ?k13 ?a14 ?l14 ?c14 ?k14 ?a15 ?l15 ?c15 ?k15 ?a16 ?l16 ?c16 ?k16 ?a17 ?l17 ?c17 ?k17 ?a18 ?l18 ?c18 ?k18 ?a19 ?l19 ?c19 ?k19 ?a20 ?l20 ?c20 ?k20 ?a21 ?l21 ?c21 ?k21 ?a22 ?l22 ?c22 ?k22 ?gAgainError ?saAgainError ?kcAgainError ?hdAgainError ?gaAgainError ?ggAgainError ?exAgainError ?tyAgainError ?sbAgainError ?xlAgainError ?gBadRow ?aBadRow0 ?lBadRow0 ?cBadRow0 ?kBadRow0 ?tBadRow0 ?nBadRowwhat ?nBadRowrow ?saBadRow ?kcBadRow ?hdBadRow ?gaBadRow ?ggBadRow ?exBadRow ?tyBadRow ?sbBadRow ?xlBadRow ?gServer ?aServer0 ?lServer0 ?cServer0 ?kServer0 ?iServer0 ?aServer1 ?lServer1 ?cServer1 ?kServer1 ?iServer1 ?aServer2 ?lServer2 ?cServer2 ?kServer2 ?iServer2 ?aServer3 ?lServer3 ?cServer3 ?kServer3 ?iServer3 ?aServer4 ?lServer4 ?cServer4 ?kServer4 ?iServer4 ?aServer5 ?lServer5 ?cServer5 ?kServer5 ?iServer5 ?aServer6 ?lServer6 ?cServer6 ?kServer6 ?iServer6 ?aServer7 ?lServer7 ?cServer7 ?kServer7 ?iServer7 ?aServer8 ?lServer8 ?cServer8 ?kServer8 ?iServer8 ?aServer9 ?lServer9 ?cServer9 ?kServer9 ?iServer9 ?aServer10 ?lServer10 ?cServer10 ?kServer10 ?iServer10 ?aServer11 ?lServer11 ?cServer11 ?kServer11 ?iServer11 ?nServerrows ?nServer_answers ?nServer_known ?saServer ?kcServer ?hdServer ?pgServer ?poServer ?miServer ?eaServer ?emServer ?eN ?eT ?xtoc_Server_Add ?xtoc_Server_Sub ?xtoc_Server_BitOr ?xtns_Server ?xtnk_Server ?xtom_Server ?xton_Server ?kiServerServer ?gFIGURES ?gLETTERS ?btuple ?ball ?brange ?bisinstance ?bint ?blen ?benumerate ?bsorted ?bdict ?blist ?bstr ?bset ?bbool ?brepr ?bmin ?bzip ?hcd ?lcc ?hv
    (case hrec => rfl)
    (case a0 => k_is)
    (case l0 => k_is)
    (case c0 => k_is)
    (case k0 => k_is)
    (case a1 => k_is)
    (case l1 => k_is)
    (case c1 => k_is)
    (case k1 => k_is)
    (case a2 => k_is)
    (case l2 => k_is)
    (case c2 => k_is)
    (case k2 => k_is)
    (case a3 => k_is)
    (case l3 => k_is)
    (case c3 => k_is)
    (case k3 => k_is)
    (case a4 => k_is)
    (case l4 => k_is)
    (case c4 => k_is)
    (case k4 => k_is)
    (case a5 => k_is)
    (case l5 => k_is)
    (case c5 => k_is)
    (case k5 => k_is)
    (case a6 => k_is)
    (case l6 => k_is)
    (case c6 => k_is)
    (case k6 => k_is)
    (case a7 => k_is)
    (case l7 => k_is)
    (case c7 => k_is)
    (case k7 => k_is)
    (case a8 => k_is)
    (case l8 => k_is)
    (case c8 => k_is)
    (case k8 => k_is)
    (case a9 => k_is)
    (case l9 => k_is)
    (case c9 => k_is)
    (case k9 => k_is)
    (case a10 => k_is)
    (case l10 => k_is)
    (case c10 => k_is)
    (case k10 => k_is)
    (case a11 => k_is)
    (case l11 => k_is)
    (case c11 => k_is)
    (case k11 => k_is)
    (case a12 => k_is)
    (case l12 => k_is)
    (case c12 => k_is)
    (case k12 => k_is)
    (case a13 => k_is)
    (case l13 => k_is)
    (case c13 => k_is)
    (case k13 => k_is)
    (case a14 => k_is)
    (case l14 => k_is)
    (case c14 => k_is)
    (case k14 => k_is)
    (case a15 => k_is)
    (case l15 => k_is)
    (case c15 => k_is)
    (case k15 => k_is)
    (case a16 => k_is)
    (case l16 => k_is)
    (case c16 => k_is)
    (case k16 => k_is)
    (case a17 => k_is)
    (case l17 => k_is)
    (case c17 => k_is)
    (case k17 => k_is)
    (case a18 => k_is)
    (case l18 => k_is)
    (case c18 => k_is)
    (case k18 => k_is)
    (case a19 => k_is)
    (case l19 => k_is)
    (case c19 => k_is)
    (case k19 => k_is)
    (case a20 => k_is)
    (case l20 => k_is)
    (case c20 => k_is)
    (case k20 => k_is)
    (case a21 => k_is)
    (case l21 => k_is)
    (case c21 => k_is)
    (case k21 => k_is)
    (case a22 => k_is)
    (case l22 => k_is)
    (case c22 => k_is)
    (case k22 => k_is)
    (case gAgainError => k_is)
    (case saAgainError => k_is)
    (case kcAgainError => k_is)
    (case hdAgainError => k_is)
    (case gaAgainError => k_is)
    (case ggAgainError => k_is)
    (case exAgainError => k_is)
    (case tyAgainError => k_is)
    (case sbAgainError => k_is)
    (case xlAgainError => exact ⟨_, _, _, _, _, _, _, _, _, _, _, _, _, _, _, by k_is, by rfl⟩)
    (case gBadRow => k_is)
    (case aBadRow0 => k_is)
    (case lBadRow0 => k_is)
    (case cBadRow0 => k_is)
    (case kBadRow0 => k_is)
    (case tBadRow0 => k_is)
    (case nBadRowwhat => k_is)
    (case nBadRowrow => k_is)
    (case saBadRow => k_is)
    (case kcBadRow => k_is)
    (case hdBadRow => k_is)
    (case gaBadRow => k_is)
    (case ggBadRow => k_is)
    (case exBadRow => k_is)
    (case tyBadRow => k_is)
    (case sbBadRow => k_is)
    (case xlBadRow => exact ⟨_, _, _, _, _, _, _, _, _, _, _, _, _, _, _, by k_is, by rfl⟩)
    (case gServer => k_is)
    (case aServer0 => k_is)
    (case lServer0 => k_is)
    (case cServer0 => k_is)
    (case kServer0 => k_is)
    (case iServer0 => k_is)
    (case aServer1 => k_is)
    (case lServer1 => k_is)
    (case cServer1 => k_is)
    (case kServer1 => k_is)
    (case iServer1 => k_is)
    (case aServer2 => k_is)
    (case lServer2 => k_is)
    (case cServer2 => k_is)
    (case kServer2 => k_is)
    (case iServer2 => k_is)
    (case aServer3 => k_is)
    (case lServer3 => k_is)
    (case cServer3 => k_is)
    (case kServer3 => k_is)
    (case iServer3 => k_is)
    (case aServer4 => k_is)
    (case lServer4 => k_is)
    (case cServer4 => k_is)
    (case kServer4 => k_is)
    (case iServer4 => k_is)
    (case aServer5 => k_is)
    (case lServer5 => k_is)
    (case cServer5 => k_is)
    (case kServer5 => k_is)
    (case iServer5 => k_is)
    (case aServer6 => k_is)
    (case lServer6 => k_is)
    (case cServer6 => k_is)
    (case kServer6 => k_is)
    (case iServer6 => k_is)
    (case aServer7 => k_is)
    (case lServer7 => k_is)
    (case cServer7 => k_is)
    (case kServer7 => k_is)
    (case iServer7 => k_is)
    (case aServer8 => k_is)
    (case lServer8 => k_is)
    (case cServer8 => k_is)
    (case kServer8 => k_is)
    (case iServer8 => k_is)
    (case aServer9 => k_is)
    (case lServer9 => k_is)
    (case cServer9 => k_is)
    (case kServer9 => k_is)
    (case iServer9 => k_is)
    (case aServer10 => k_is)
    (case lServer10 => k_is)
    (case cServer10 => k_is)
    (case kServer10 => k_is)
    (case iServer10 => k_is)
    (case aServer11 => k_is)
    (case lServer11 => k_is)
    (case cServer11 => k_is)
    (case kServer11 => k_is)
    (case iServer11 => k_is)
    (case nServerrows => k_is)
    (case nServer_answers => k_is)
    (case nServer_known => k_is)
    (case saServer => k_is)
    (case kcServer => k_is)
    (case hdServer => k_is)
    (case pgServer => k_is)
    (case poServer => k_is)
    (case miServer => k_is)
    (case eaServer => k_is)
    (case emServer => k_is)
    (case eN => k_is)
    (case eT => k_is)
    (case xtoc_Server_Add => refine ⟨by k_is, ⟨_, by k_is, by first | exact .inl rfl | exact .inr ⟨_, rfl⟩⟩, ?_⟩; intro T hT; simp only [Ag.tyNames, List.mem_cons, List.not_mem_nil, or_false] at hT; rcases hT with rfl | rfl | rfl | rfl | rfl | rfl <;> exact ⟨_, _, by k_is, by k_is, by k_is⟩)
    (case xtoc_Server_Sub => refine ⟨by k_is, ⟨_, by k_is, by first | exact .inl rfl | exact .inr ⟨_, rfl⟩⟩, ?_⟩; intro T hT; simp only [Ag.tyNames, List.mem_cons, List.not_mem_nil, or_false] at hT; rcases hT with rfl | rfl | rfl | rfl | rfl | rfl <;> exact ⟨_, _, by k_is, by k_is, by k_is⟩)
    (case xtoc_Server_BitOr => refine ⟨by k_is, ⟨_, by k_is, by first | exact .inl rfl | exact .inr ⟨_, rfl⟩⟩, ?_⟩; intro T hT; simp only [Ag.tyNames, List.mem_cons, List.not_mem_nil, or_false] at hT; rcases hT with rfl | rfl | rfl | rfl | rfl | rfl <;> exact ⟨_, _, by k_is, by k_is, by k_is⟩)
    (case xtns_Server => intro T hT; simp only [Ag.tyNames, List.mem_cons, List.not_mem_nil, or_false] at hT; rcases hT with rfl | rfl | rfl | rfl | rfl | rfl <;> k_is)
    (case xtnk_Server => intro T hT; simp only [Ag.tyNames, List.mem_cons, List.not_mem_nil, or_false] at hT; rcases hT with rfl | rfl | rfl | rfl | rfl | rfl <;> kernel_rfl)
    (case xtom_Server => k_is)
    (case xton_Server => k_is)
    (case kiServerServer => kernel_rfl)
    (case gFIGURES => k_is)
    (case gLETTERS => k_is)
    (case btuple => k_is)
    (case ball => k_is)
    (case brange => k_is)
    (case bisinstance => k_is)
    (case bint => k_is)
    (case blen => k_is)
    (case benumerate => k_is)
    (case bsorted => k_is)
    (case bdict => k_is)
    (case blist => k_is)
    (case bstr => k_is)
    (case bset => k_is)
    (case bbool => k_is)
    (case brepr => k_is)
    (case bmin => k_is)
    (case bzip => k_is)
    (case hcd => rfl)
    (case lcc => k_is)
    (case hv => rfl)
    (case ntb => first | kernel_rfl | rfl | decide)
#print axioms PySem.Challenge.cw_againnotes_k18_whole_servers_in_any_orde_holds
