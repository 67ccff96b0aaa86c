import PyProof.Rows.All
import Wide.All
import OpenK.AllK
import Wide.FinOn
import HandS.ForMost
import HandS.Set
import HandS.TupSets
import HandS.Evl
import HandS.More
import HandS.IsInst
import HandS.Style
import HandS.Wide
import HandS.DeepEq
import HandS.RevRange
import PySem.Challenge.RW_apart_k10_facts_and_a_cell
set_option Elab.async false
set_option linter.all false
set_option maxRecDepth 100000
set_option maxHeartbeats 2000000
/-! set(list of texts), sorted(such a set): rules of my own over the layer -/
namespace Ap
open PySem PySem.Spec PyProof.Rows L2
/-- an entry's text -/
def tx (e : Int × Value) : Str := match e.2 with
  | .str k _ => k
  | _ => Str.empty
def TxE (P : Program) (w : World) (e : Int × Value) : Prop := ∃ k tk, e.2 = Value.str k tk ∧ e.1 = (PySem.strKind P w).hash k
/-- the set at a has just the texts ks, each once -/
def SetX (P : Program) (w : World) (h : Heap) (a : Addr) (ks : List Str) : Prop :=
  ∃ o es ep t, (h.get? a = some o ∧ o.ExactSet ∧ o.data = .set es ep t) ∧ ((∀ e ∈ es.toList, TxE P w e) ∧ (es.toList.map tx).Perm ks ∧ ks.Nodup) ∧
    (es.size < scanBound ∧ t.fits es.size = true) ∧ Ris t.place.toList ∧ (w.params.followText "set-order" = true ∨ t.led = true)
def ins (ks : List Str) (k : Str) : List Str := if k ∈ ks then ks else k :: ks
theorem ins_in {ks : List Str} {k j : Str} : j ∈ ins ks k ↔ j = k ∨ j ∈ ks := by
  unfold ins
  by_cases c : k ∈ ks
  · rw [if_pos c]
    exact ⟨.inr, fun z => z.elim (fun e => e ▸ c) id⟩
  · rw [if_neg c, List.mem_cons]
theorem ins_nd {ks : List Str} {k : Str} (n : ks.Nodup) : (ins ks k).Nodup := by
  unfold ins
  by_cases c : k ∈ ks
  · rw [if_pos c]; exact n
  · rw [if_neg c]; exact List.nodup_cons.mpr ⟨c, n⟩
theorem ins_len {ks : List Str} {k : Str} : (ins ks k).length ≤ ks.length + 1 := by
  unfold ins
  split
  · omega
  · simp
/-- the texts of a list, each once -/
def once : List Str → List Str → List Str
  | ks, [] => ks
  | ks, x :: r => once (ins ks x) r
theorem once_in : ∀ (xs ks : List Str) (j : Str), j ∈ once ks xs ↔ j ∈ ks ∨ j ∈ xs
  | [], ks, j => by simp [once]
  | x :: r, ks, j => by
    show j ∈ once (ins ks x) r ↔ _
    rw [once_in r (ins ks x) j, ins_in, List.mem_cons]
    constructor
    · rintro ((a | a) | a)
      · exact .inr (.inl a)
      · exact .inl a
      · exact .inr (.inr a)
    · rintro (a | a | a)
      · exact .inl (.inr a)
      · exact .inl (.inl a)
      · exact .inr a
theorem once_nd : ∀ (xs ks : List Str), ks.Nodup → (once ks xs).Nodup
  | [], _, n => n
  | x :: r, _, n => once_nd r _ (ins_nd n)
theorem once_len : ∀ (xs ks : List Str), (once ks xs).length ≤ ks.length + xs.length
  | [], ks => by simp [once]
  | x :: r, ks => by
    have h := once_len r (ins ks x)
    have g := ins_len (ks := ks) (k := x)
    show (once (ins ks x) r).length ≤ ks.length + (r.length + 1)
    omega
section
variable {P : Program} {w : World} {A : Around} {E : Value → Shared → Prop} {s : Shared} {a : Addr} {ks : List Str}
theorem elemsX {l : List (Int × Value)} (g : ∀ e ∈ l, TxE P w e) : ElemsOf (PySem.strKind P w) l := by
  intro e he
  obtain ⟨k, tk, e1, e2⟩ := g e he
  refine ⟨⟨k, ?_, e2⟩, ?_⟩
  · rw [e1]; exact PySem.strKind_is P w k tk
  · rw [e1]; rfl
theorem isX {e : Int × Value} (g : TxE P w e) (k : Str) : (PySem.strKind P w).is k e.2 = true ↔ tx e = k := by
  obtain ⟨j, tk, e1, _⟩ := g
  unfold tx
  rw [e1]
  show (Value.isStrOf k (Value.str j tk)) = true ↔ j = k
  constructor
  · intro z
    obtain ⟨t, q⟩ := Value.isStrOf_shape z
    injection q
  · intro z
    rw [z]
    exact PySem.strKind_is P w k tk
theorem hasX {l : List (Int × Value)} (g : ∀ e ∈ l, TxE P w e) (k : Str) : (∃ e ∈ l, (PySem.strKind P w).is k e.2 = true) ↔ k ∈ l.map tx := by
  rw [List.mem_map]
  exact ⟨fun ⟨e, he, q⟩ => ⟨e, he, (isX (g e he) k).mp q⟩, fun ⟨e, he, q⟩ => ⟨e, he, (isX (g e he) k).mpr q⟩⟩
theorem storedX {h : Heap} {o : Obj} {es es' : Array (Int × Value)} {ep : Nat} {t t' : SetTable} (h1 : h.get? a = some o ∧ o.ExactSet ∧ o.data = .set es ep t) :
    ∃ o', (h.update a (Obj.putSet es' t')).get? a = some o' ∧ o'.ExactSet ∧ o'.data = .set es' (ep + 1) t' :=
  ⟨_, L2.store_at h1.1 h1.2.2, h1.2.1, rfl⟩
/-- what a search tells -/
theorem scanX {es : Array (Int × Value)} (g : ∀ e ∈ es.toList, TxE P w e) (k : Str) :
    (k ∉ es.toList.map tx ∧ List.findIdx? (fun e => (PySem.strKind P w).is k e.2) es.toList = none) ∨ (k ∈ es.toList.map tx ∧ ∃ j, List.findIdx? (fun e => (PySem.strKind P w).is k e.2) es.toList = some j) := by
  cases c : List.findIdx? (fun e => (PySem.strKind P w).is k e.2) es.toList with
  | none =>
    refine .inl ⟨fun z => ?_, rfl⟩
    obtain ⟨e, he, q⟩ := (hasX g k).mpr z
    have r := List.findIdx?_eq_none_iff.mp c e he
    rw [q] at r
    cases r
  | some j =>
    obtain ⟨hj, q, _⟩ := List.findIdx?_eq_some_iff_getElem.mp c
    exact .inr ⟨(hasX g k).mp ⟨_, List.getElem_mem hj, q⟩, j, rfl⟩
theorem ruleX (b : Bool) {s₁ : Shared} {Q' : Unit → Shared → Prop} (q : Q' () s₁) : wpAny (model P w) A (match b with
    | true => rule "set.scan.the-table-gave-way"
    | false => pure ()) Q' E s₁ := by
  cases b
  · exact wpAny_pure q
  · exact wpAny_rule q
/-- the entries and the table are stored, and laid anew where it is due -/
theorem laidX {g : Bool → Sem Unit} (hg : ∀ (b : Bool) (s₁ : Shared) (Q' : Unit → Shared → Prop), Q' () s₁ → wpAny (model P w) A (g b) Q' E s₁) {o : Obj} {es es1 : Array (Int × Value)} {ep : Nat} {t t2 : SetTable}
    (ho : s.heap.get? a = some o ∧ o.ExactSet ∧ o.data = .set es ep t) (hk : (∀ e ∈ es1.toList, TxE P w e) ∧ (es1.toList.map tx).Perm ks ∧ ks.Nodup) (hz : es1.size < scanBound ∧ t2.fits es1.size = true)
    (hr : Ris t2.place.toList) (hl : w.params.followText "set-order" = true ∨ t2.led = true) {d : Bool} {R : Option Bool → Shared → Prop}
    (k : ∀ h', Heap.SameBut a s.heap h' → SetX P w h' a ks → R (some true) { s with heap := h' }) :
    wpAny (model P w) A (do
        storeSet a es1 t2
        if (!d && t2.tooFull) = true then do
            g (relayAll t2 es1 (SetTable.grown es1.size)).2.2
            storeSet a (relayAll t2 es1 (SetTable.grown es1.size)).1 (relayAll t2 es1 (SetTable.grown es1.size)).2.1
            pure (some true)
          else pure (some true)) R E s := by
  refine wpAny_bind (wpAny_storeSet_of ho.1 ho.2.2 ?_ (fits_of_scanBound hz.1))
  obtain ⟨o1, q1⟩ := storedX (es' := es1) (t' := t2) ho
  have b1 := Heap.SameBut.update s.heap a (Obj.putSet es1 t2)
  by_cases c : (!d && t2.tooFull) = true
  · rw [if_pos c]
    have pm := relayAll_perm t2 es1 (SetTable.grown es1.size)
    have f3 := relayAll_fits t2 es1 (SetTable.grown es1.size)
    have r3 := L2.relayAll_ris t2 es1 (SetTable.grown es1.size)
    have l3 := L2.relayAll_led t2 es1 (SetTable.grown es1.size)
    generalize relayAll t2 es1 (SetTable.grown es1.size) = Y at pm f3 r3 l3 ⊢
    obtain ⟨es2, t3, gave⟩ := Y
    dsimp only at pm f3 r3 l3 ⊢
    have z2 : es2.size < scanBound := by
      have e : es2.size = es1.size := by rw [← Array.length_toList, pm.length_eq, Array.length_toList]
      rw [e]; exact hz.1
    refine wpAny_bind (hg _ _ _ ?_)
    refine wpAny_bind (wpAny_storeSet_of q1.1 q1.2.2 ?_ (fits_of_scanBound z2))
    obtain ⟨o2, q2⟩ := storedX (es' := es2) (t' := t3) q1
    refine wpAny_pure (k _ (b1.trans (Heap.SameBut.update _ a _)) ⟨o2, es2, _, t3, q2, ⟨fun e he => hk.1 e (pm.mem_iff.mp he), (pm.map tx).trans hk.2.1, hk.2.2⟩, ⟨z2, f3⟩, r3, ?_⟩)
    rcases hl with z | z
    · exact .inl z
    · exact .inr (l3.trans z)
  · rw [if_neg c]
    exact wpAny_pure (k _ b1 ⟨o1, es1, _, t2, q1, hk, hz, hr, hl⟩)
theorem addX {k : Str} {tk : Tok} {Q : Bool → Shared → Prop} (R : SetX P w s.heap a ks) (room : ks.length + 1 < scanBound)
    (hQ : ∀ b h', Heap.SameBut a s.heap h' → SetX P w h' a (ins ks k) → Q b { s with heap := h' }) :
    wpAny (model P w) A (setAddHashed a (.str k tk) ((PySem.strKind P w).hash k)) Q E s := by
  obtain ⟨o, es, ep, t, ho, hk, hz, hr, hl⟩ := R
  have key : (PySem.strKind P w).is k (.str k tk) = true := PySem.strKind_is P w k tk
  have sc : (Value.str k tk).scannable = true := rfl
  have el := elemsX hk.1
  unfold setAddHashed setAddHashedIn
  refine wpAny_holding (wpAny_bind (wpAny_setState_of ho.1 ho.2.2 hz.2 ?_))
  dsimp only
  rw [byScan_of sc hz.1 el]
  simp only [↓reduceIte]
  unfold setAddByScan
  refine wpAny_bind ?_
  refine wpAny_bind (wpAny_rule ?_)
  refine wpAny_bind (wpAny_setScan_of key ho.1 ho.2.2 hz.2 el ?_)
  have sp := scanX hk.1 k
  have mk : k ∈ es.toList.map tx ↔ k ∈ ks := hk.2.1.mem_iff
  rcases sp with ⟨c, e⟩ | ⟨c, j, e⟩
  · rw [e]
    dsimp only
    have ck : k ∉ ks := fun z => c (mk.mpr z)
    have ei : ins ks k = k :: ks := if_neg ck
    have pm := layNew_perm t es ((PySem.strKind P w).hash k) (.str k tk)
    have f1 := layNew_fits t es ((PySem.strKind P w).hash k) (.str k tk)
    have r1 := L2.layNew_ris t es ((PySem.strKind P w).hash k) (.str k tk) hr
    have l1 := L2.layNew_led t es ((PySem.strKind P w).hash k) (.str k tk)
    generalize layNew t es ((PySem.strKind P w).hash k) (.str k tk) = Y at pm f1 r1 l1 ⊢
    obtain ⟨es1, t1, wd, gave⟩ := Y
    dsimp only at pm f1 r1 l1 ⊢
    rw [Array.toList_push] at pm
    have pc := pm.trans (List.perm_append_singleton _ _)
    have nk : (∀ e ∈ es1.toList, TxE P w e) ∧ (es1.toList.map tx).Perm (ins ks k) ∧ (ins ks k).Nodup := by
      refine ⟨fun e he => ?_, ?_, ins_nd hk.2.2⟩
      · rcases List.mem_cons.mp (pc.mem_iff.mp he) with z | z
        · rw [z]; exact ⟨k, tk, rfl, rfl⟩
        · exact hk.1 e z
      · rw [ei]
        exact (pc.map tx).trans (List.Perm.cons k hk.2.1)
    have zl : es1.size < scanBound := by
      have q := nk.2.1.length_eq
      rw [List.length_map, Array.length_toList, ei, List.length_cons] at q
      omega
    have led : w.params.followText "set-order" = true ∨ t1.led = true := hl.imp id fun z => l1.trans z
    refine wpAny_bind (ruleX _ ?_)
    split
    · refine wpAny_bind ?_
      rw [hashByValue_scannable 8 sc]
      refine wpAny_pure ?_
      refine laidX (fun b s₁ Q' q => ruleX b q) ho nk ⟨zl, ?_⟩ ?_ ?_ ?_
      · first | (split <;> first | exact f1 | exact SetTable.fits_plain_off f1) | exact f1
      · first | (split <;> exact r1) | exact r1
      · first | (split <;> exact led) | exact led
      · intro h' sb r; dsimp only; exact wpAny_pure (hQ _ h' sb r)
    · refine wpAny_bind (wpAny_pure ?_)
      simp only [↓reduceIte]
      refine laidX (fun b s₁ Q' q => ruleX b q) ho nk ⟨zl, f1⟩ r1 led ?_
      intro h' sb r; dsimp only; exact wpAny_pure (hQ _ h' sb r)
  · rw [e]
    dsimp only
    have ck : k ∈ ks := mk.mp c
    have ei : ins ks k = ks := if_pos ck
    refine wpAny_pure (wpAny_pure ?_)
    exact hQ _ s.heap (Heap.SameBut.refl a s.heap) (by rw [ei]; exact ⟨o, es, ep, t, ho, hk, hz, hr, hl⟩)
theorem SetX.at {h h' : Heap} (R : SetX P w h a ks) (k : ∀ o, h.get? a = some o → h'.get? a = some o) : SetX P w h' a ks := by
  obtain ⟨o, es, ep, t, ho, r⟩ := R
  exact ⟨o, es, ep, t, ⟨k o ho.1, ho.2⟩, r⟩
theorem SetX.size {h : Heap} (R : SetX P w h a ks) : ks.length < scanBound := by
  obtain ⟨o, es, ep, t, _, hk, hz, _⟩ := R
  rw [← hk.2.1.length_eq, List.length_map, Array.length_toList]
  exact hz.1
theorem freshX (h : Heap) : SetX P w (h.push { cls := .type "set", dict := none, data := .set #[] 0 (.fresh 0 0 (!w.params.followText "set-order")) }) h.objs.size [] := by
  refine ⟨_, #[], 0, _, ⟨Heap.get?_push_size _ rfl, ⟨rfl, rfl, rfl⟩, rfl⟩, ⟨fun e he => by simp at he, List.Perm.refl _, List.nodup_nil⟩, ⟨by decide, by rfl⟩, List.Pairwise.nil, ?_⟩
  cases c : w.params.followText "set-order" with
  | true => exact .inl rfl
  | false => exact .inr rfl
end
end Ap

set_option Elab.async false
set_option linter.all false
set_option maxRecDepth 100000
set_option maxHeartbeats 4000000
namespace Ap
open PySem PySem.Spec PyProof.Rows L2
section
variable {P : Program} {w : World} {A : Around}
theorem once_snoc : ∀ (xs ks : List Str) (x : Str), once ks (xs ++ [x]) = ins (once ks xs) x
  | [], ks, x => rfl
  | y :: r, ks, x => once_snoc r (ins ks y) x
theorem strs_get : ∀ {us : List Value} {xs : List Str}, StrsAre us xs → ∀ (i : Nat) (v : Value), us[i]? = some v → ∃ x t, xs[i]? = some x ∧ v = Value.str x t
  | _, _, .nil, i, v, h => by simp at h
  | _, _, .cons n t hr, 0, v, h => ⟨n, t, rfl, by simpa using h.symm⟩
  | _, _, .cons n t hr, i + 1, v, h => by
    have h' := h
    rw [List.getElem?_cons_succ] at h'
    obtain ⟨x, u, e1, e2⟩ := strs_get hr i v h'
    exact ⟨x, u, by rw [List.getElem?_cons_succ]; exact e1, e2⟩
theorem loopX {I : Addr} {fp wr : List Addr} {G : Array GenState → Array GenState → Prop} {n : Nat} {Pv : Nat → Value → Prop} {St : Nat → Shared → Prop} {R : Result → Shared → Prop}
    (W : WalksS P w A.in1 I fp wr G n Pv St) (D : Addr) (hD : D ∉ fp) (xs : List Str) (hn : n = xs.length) (hz : n < 4000) (hval : ∀ i v, Pv i v → ∃ x t, xs[i]? = some x ∧ v = Value.str x t) :
    ∀ (k i : Nat) (s : Shared), n - i = k → i ≤ n → St i s → SetX P w s.heap D (once [] (xs.take i)) →
      (∀ s', Moved (D :: wr) G s s' → SetX P w s'.heap D (once [] xs) → R (.ok (.ret .none)) s') → codeAny (model P w) A (.builtin "set.update.loop" ⟨[.ref D, .ref I], []⟩) R s := by
  have hDw : D ∉ wr := fun h => hD (W.sub _ h)
  have sub : ∀ b ∈ wr, b ∈ D :: wr := fun b hb => List.mem_cons_of_mem _ hb
  intro k
  induction k with
  | zero =>
    intro i s hk hi st hS hR
    have e : i = n := by omega
    subst e
    refine codeAny_builtin PyProof.Rows.F.entry_set_update_loop ?_
    rw [Around.under_plainId PyProof.Rows.F.plain_set_update_loop _]
    show wpAny _ A.in1 (pyNext (.ref I) >>= _) _ _ s
    refine wpAny_bind (W.done s _ _ st fun s' hm => ?_)
    show wpAny _ A.in1 (ret Value.none) _ _ s'
    rw [hn, List.take_length] at hS
    exact wpAny_pure (hR s' (hm.mono sub) (hS.at fun o e => hm.heap D o hDw e))
  | succ k ih =>
    intro i s hk hi st hS hR
    have lt : i < n := by omega
    refine codeAny_builtin PyProof.Rows.F.entry_set_update_loop ?_
    rw [Around.under_plainId PyProof.Rows.F.plain_set_update_loop _]
    show wpAny _ A.in1 (pyNext (.ref I) >>= _) _ _ s
    refine wpAny_bind (W.item i s _ _ lt st fun v s' hP st' hm => ?_)
    obtain ⟨x, t, hx, rfl⟩ := hval i v hP
    have hS' : SetX P w s'.heap D (once [] (xs.take i)) := hS.at fun o e => hm.heap D o hDw e
    show wpAny _ A.in1 (holding [Value.str x t] (setAdd D (.str x t)) >>= _) _ _ s'
    refine wpAny_bind (wpAny_holding ?_)
    unfold setAdd
    refine wpAny_holding ?_
    refine wpAny_bind ((PySem.strKind P w).pyHash (k := x) (PySem.strKind_is _ _ _ _) ?_)
    refine addX (s := { s' with toks := s'.toks + 1 }) hS' ?_ fun b h' sb hS2 => ?_
    · have q := once_len (xs.take i) []
      rw [List.length_take, List.length_nil] at q
      unfold scanBound
      omega
    have e2 : ins (once [] (xs.take i)) x = once [] (xs.take (i + 1)) := by
      rw [List.take_succ, hx, Option.toList_some, once_snoc]
    rw [e2] at hS2
    refine wpAny_pure ⟨plainId_quiet PyProof.Rows.F.plain_set_update_loop _, ih (i + 1) _ (by omega) lt (W.frame _ s' _ _ st' (Nat.le_succ _) fun b hb o e => ?_) hS2 fun s2 hm2 hS3 => ?_⟩
    · refine (sb.2 b fun z => hD ?_).trans e
      rw [← z]
      exact hb
    · refine hR s2 (Moved.trans W.gtrans ((hm.mono sub).then_heap (Nat.le_succ _) fun b o hb e => ?_) hm2) hS3
      refine (sb.2 b fun z => hb ?_).trans e
      rw [z]
      exact List.mem_cons_self
end
section
variable {P : Program} {w : World} {A : Around} {E : Value → Shared → Prop} {s : Shared}
abbrev emptySet (w : World) : Obj := { cls := .type "set", dict := none, data := .set #[] 0 (.fresh 0 0 (!w.params.followText "set-order")) }
/-- set(xs), xs a list of texts -/
theorem call_setX {l : Addr} {items : Array Value} {xs : List Str} {Q : Value → Shared → Prop} (hh : A.handled = none) (hl : s.heap.IsList l items) (hi : StrsAre items.toList xs) (hz : xs.length < 4000)
    (h : ∀ (h' : Heap) (tk : Nat), SetX P w h' s.heap.objs.size (once [] xs) → (∀ b o, s.heap.get? b = some o → h'.get? b = some o) → Q (.ref s.heap.objs.size) { s with heap := h', toks := tk }) :
    wpAny (model P w) A (call (.type "set") [.ref l]) Q E s := by
  obtain ⟨c, tl, hmro⟩ := PySem.F.called_set.mro
  have hmade := PySem.F.called_set.made
  have hsub := PySem.F.called_set.sub
  refine wpAny_call (codeAny_of_tree ?_)
  show wpAny _ _ (callAny (.type "set") _) _ _ _
  refine wpAny_pure ⟨Code.quiet_builtin _ (by decide +kernel), codeAny_builtin PySem.F.entry_type_call ?_⟩
  rw [Around.under_plain (weight_type_call_type "set" [.ref l] []) rfl]
  have u1 := PySem.F.called_set.notType
  have u2 := PySem.F.called_set.canCreate
  have u3 := PySem.F.typeCall_set_1 (.ref l)
  repeat (any_goals (first | assumption | wp_step))
  refine codeAny_mono (code_set_led1 (.ref l) (E := E) (Q₁ := fun obj s₁ => obj = .ref s.heap.objs.size ∧ s₁ = { s with heap := s.heap.push (emptySet w) }) ⟨rfl, rfl⟩) fun r s₁ hr => ?_
  cases r with
  | error e => exact hr
  | ok fl =>
    cases fl with
    | ret obj =>
      obtain ⟨rfl, rfl⟩ := hr
      have hS : (s.heap.push (emptySet w)).get? s.heap.objs.size = some (emptySet w) := Heap.get?_push_size _ rfl
      have hT : Shared.TypeIs { s with heap := s.heap.push (emptySet w) } (.ref s.heap.objs.size) "set" := ⟨_, hS, rfl⟩
      have u4 := PySem.F.called_set.init.lookup
      have u5 := PySem.F.called_set.init.bind (.ref s.heap.objs.size)
      repeat (any_goals (first | assumption | wp_step))
      refine codeAny_mono (codeAny_call_builtin (R := wants (fun r s₂ => r = .none ∧ ∃ h' tk, s₂ = { s with heap := h', toks := tk } ∧ SetX P w h' s.heap.objs.size (once [] xs) ∧
          (∀ b o, s.heap.get? b = some o → h'.get? b = some o)) E) PySem.F.called_set.init.plain PySem.F.entry_set_init (check_set_init_1 hT ?_)) fun r₂ s₂ hr₂ => ?_
      · obtain ⟨ol, hol, hcl, nl, hdl⟩ := hl
        obtain ⟨ocls, odict, odata, oslots⟩ := ol
        simp only at hcl hdl
        subst hcl; subst hdl
        have v1 : (s.heap.push (emptySet w)).get? l = some { cls := .type "list", dict := odict, data := .seq items nl, slots := oslots } := Heap.get?_push_of_some _ hol
        have v2 := PySem.F.sub_list_set
        have v3 := PySem.F.sub_list_frozenset
        have v4 : (Value.type "list" == Value.type "dict") = false := by decide
        have hl1 : (s.heap.push (emptySet w)).IsList l items := ⟨_, v1, rfl, nl, rfl⟩
        unfold Builtin.«set.__init__» noKeywords Builtin.Frozenset.updateFrom
        generalize hPI : pyIter = PI
        wp_walk
        subst hPI
        refine wpAny_pyIter_list hl1 ?_
        refine wpAny_bind (wpAny_runValue ?_)
        have hlS : l < s.heap.objs.size := Heap.lt_size hol
        have hh3 : A.in1.in1.in1.handled = none := by simp [hh]
        have hz1 : (s.heap.push (emptySet w)).objs.size = s.heap.objs.size + 1 := Heap.size_push ..
        have ne : l ≠ (s.heap.push (emptySet w)).objs.size := by
          rw [hz1]
          exact Nat.ne_of_lt (Nat.lt_succ_of_lt hlS)
        have nf : s.heap.objs.size ∉ [(s.heap.push (emptySet w)).objs.size, l] := by
          rw [hz1]
          intro z
          rcases List.mem_cons.mp z with z | z
          · exact Nat.ne_of_lt (Nat.lt_succ_self _) z
          · exact Nat.ne_of_gt hlS (List.mem_singleton.mp z)
        have hsz : items.size = xs.length := by rw [← Array.length_toList]; exact StrsAre.len_eq hi
        refine loopX ((Walks.list hh3 _ l ne items).toS) s.heap.objs.size nf xs hsz (by omega) (fun i v hv => strs_get hi i v (by rw [Array.getElem?_toList]; exact hv)) (items.size - 0) 0 _ (by omega) (Nat.zero_le _)
          ⟨⟨_, Heap.get?_push_size _ rfl, rfl, rfl⟩, (hl1.push _)⟩ ?_ ?_
        · have q : SetX P w (s.heap.push (emptySet w)) s.heap.objs.size [] := freshX s.heap
          exact q.at fun o e => Heap.get?_push_of_some _ e
        · intro s' hm hS'
          obtain ⟨h', g', d', tk', os'⟩ := s'
          have eg : g' = s.gens := hm.gens
          have ed : d' = s.drawn := hm.drawn
          have eo : os' = s.os := hm.os
          subst eg; subst ed; subst eo
          show wpAny _ _ _ _ _ _
          refine wpAny_pure ?_
          show wpAny _ _ (ret Value.none) _ _ _
          refine wpAny_pure ⟨rfl, h', tk', rfl, hS', fun b o e => ?_⟩
          have lb : b < s.heap.objs.size := Heap.lt_size e
          refine hm.heap b o (fun z => ?_) (Heap.get?_push_of_some _ (Heap.get?_push_of_some _ e))
          rcases List.mem_cons.mp z with z | z
          · exact Nat.ne_of_lt lb z
          · refine Nat.ne_of_lt (Nat.lt_succ_of_lt lb) ?_
            rw [List.mem_singleton.mp z, hz1]
      · cases r₂ with
        | error e => exact hr₂
        | ok fl₂ =>
          cases fl₂ with
          | ret r =>
            obtain ⟨rfl, h', tk, rfl, hS', hk'⟩ := hr₂
            repeat (any_goals (first | assumption | wp_step))
            exact h _ _ hS' hk'
          | _ => exact hr₂.elim
    | _ => exact hr.elim
/-- sorted(such a set) -/
theorem call_sortedX {a : Addr} {ks : List Str} {Q : Value → Shared → Prop} (R : SetX P w s.heap a ks) (hh : A.handled = none) (h64 : ks.length < 64)
    (hQ : ∀ s' p (out : Array Value) (c : Nat) (ys : List Str), (∀ b o, s.heap.get? b = some o → s'.heap.get? b = some o) → s'.gens = s.gens → s'.os = s.os → s.heap.objs.size ≤ p →
      s'.heap.get? p = some (seqObj "list" out c) → StrsAre out.toList ys → ys.Perm ks → sortedS ys = true → Q (.ref p) s') :
    wpAny (model P w) A (call (.builtin "sorted") [.ref a]) Q E s := by
  obtain ⟨o, es, ep, t, ho, hk, hz, hr, hl⟩ := R
  refine Calls.call_function_entry kind_sorted plain_sorted entry_sorted (args_sorted1 _) ?_
  unfold Builtin.«sorted»
  refine wpAny_bind (m := checkCount "sorted" 1 1 _) (wpAny_pure ?_)
  refine wpAny_bind (collect_set (A := A.in1) hh ⟨o, ho.1, ho.2.1.1, ho.2.2⟩ hz.2 hz.1 hr hl fun s1 vs k1 z1 g1 o1 pm => ?_)
  have all : ∀ v ∈ vs, ∃ x tk, v = Value.str x tk := fun v hv => by
    obtain ⟨e, he, q⟩ := List.mem_map.mp (pm.mem_iff.mp hv)
    obtain ⟨k, tk, e1, _⟩ := hk.1 e he
    exact ⟨k, tk, by rw [← q]; exact e1⟩
  have st := strsAre_map vs all
  have pk : (vs.map strOf).Perm ks := by
    refine List.Perm.trans ?_ hk.2.1
    have q := pm.map strOf
    rw [List.map_map] at q
    refine q.trans ?_
    have e : es.toList.map (strOf ∘ fun x => x.2) = es.toList.map tx := List.map_congr_left fun e he => by
      obtain ⟨k, tk, e1, _⟩ := hk.1 e he
      show strOf e.2 = tx e
      unfold tx
      rw [e1]
      rfl
    rw [e]
  have lv : vs.length = ks.length := by
    have q := pk.length_eq
    rw [List.length_map] at q
    exact q
  refine wpAny_bind (wpAny_newList ?_ (by rw [lv, sizeLine_eq]; omega))
  have hoL : (s1.heap.push (seqObj "list" vs.toArray 0)).get? s1.heap.objs.size = some (seqObj "list" vs.toArray 0) := Heap.get?_push_size _ rfl
  refine wpAny_bind (wpAny_holding (wpAny_call_entry slot_list_sort ⟨_, hoL, rfl⟩ entry_list_sort (list_sort_treeK strKind_oneLt hoL st.keysOf (fun v₁ v₂ rest e => keyKind_strs (by rw [← e]; exact st)) (by rw [lv]; exact h64) fun st' hp hs => ⟨_, rfl, ?_⟩) (args_list_sort _)))
  obtain ⟨ys, y1, y2, y3⟩ := sorted_out_str st hp hs
  obtain ⟨c, hc⟩ := sortedHeap_at (vs := vs) (out := (arrOf st').map (·.2)) hoL
  refine wpAny_pure ⟨_, rfl, hQ _ s1.heap.objs.size ((arrOf st').map (·.2)) c ys (fun b u e => ?_) g1 o1 z1 hc y1 (y2.trans pk) y3⟩
  have q := k1 b u e
  have lt := Heap.lt_size q
  show (sortedHeap (s1.heap.push (seqObj "list" vs.toArray 0)) s1.heap.objs.size vs ((arrOf st').map (·.2))).get? b = some u
  rw [sortedHeap_old (Nat.ne_of_lt lt) (by rw [size_push']; exact Nat.lt_succ_of_lt lt)]
  exact Heap.get?_push_of_some _ q
end
/-! ### as rules of the layer -/
def SetTx (P : Program) (w : World) (a : Addr) (ks : List Str) : HO := .ext fun h => SetX P w h a ks
theorem setTx_ok {w : World} {P : Program} {H : Hp} {h : Heap} {a : Addr} {ks : List Str} (R : SetX P w h a ks) : ObjOk P w H h a (SetTx P w a ks) := by
  have ⟨o, _, _, _, ho, _⟩ := R
  exact ⟨R, ⟨o, ho.1⟩, fun h1 h2 p k => SetX.at p k⟩
def rSetTx (K : PySem.W.Frag) (P : Program) (w : World) : List V → Hp → VK → Prop := fun xs H Q => ∃ (l : Addr) (ss : List Str), xs = [V.ref l] ∧ SqL K H l (ss.map V.str) ∧ ss.length < 4000 ∧
  ∀ p, H p = none → Q (.ref p) (upd H p (SetTx P w p (once [] ss)))
def rSortTx (P : Program) (w : World) : List V → Hp → VK → Prop := fun xs H Q => ∃ (a : Addr) (ks : List Str), xs = [V.ref a] ∧ H a = some (SetTx P w a ks) ∧ ks.length < 64 ∧
  ∀ (ys : List Str) p, ys.Perm ks → sortedS ys = true → H p = none → Q (.ref p) (upd H p (.lst (ys.map V.str)))
section
variable {X : Cx}
theorem cr_setTx (hc : X.calm = true) : CallR X (.type "set") (rSetTx X.K X.prog X.w) := by
  intro pins s σ H xs us Q I r h
  obtain ⟨l, ss, rfl, hl, hz, q⟩ := h
  rw [Vals.ref1 r]
  obtain ⟨its, rv, pl, _⟩ := I.list hl
  refine call_setX (I.ok.hd hc) pl.isList (by simpa using rv.strs) hz fun h' tk R k => ?_
  exact ⟨.ref _, _, I.laid (t' := tk) k (Nat.le_refl _) (setTx_ok R), rfl, q _ (I.hok.fresh (Nat.le_refl _))⟩
theorem cr_sortTx (hc : X.calm = true) : CallR X (.builtin "sorted") (rSortTx X.prog X.w) := by
  intro pins s σ H vs us Q I r h
  obtain ⟨a, ks, rfl, ha, h64, q⟩ := h
  have R : SetX X.prog X.w s.heap a ks := (I.hok a _ ha).1
  rw [Vals.ref1 r]
  refine call_sortedX R (I.ok.hd hc) h64 fun s' p out c ys k g o hp hg hi pm hs => ?_
  have hn : H p = none := I.hok.fresh hp
  have hz : (ys.map V.str).length ≤ sizeLine := by
    rw [List.length_map, pm.length_eq, sizeLine_eq]
    omega
  have J : Inv X pins σ (upd H p (.lst (ys.map V.str))) { s with heap := s'.heap, gens := s'.gens, drawn := s'.drawn, toks := s'.toks } :=
    I.call (ch := []) (Un.laid k hp hn) (I.hok.laid k hp ⟨hz, out.toList, c, vals_of_strs hi, hg⟩) (by rw [g]; exact I.bare) (fun _ z => nomatch z)
  have e : s' = { s with heap := s'.heap, gens := s'.gens, drawn := s'.drawn, toks := s'.toks } := by
    cases s'
    cases s
    cases o
    rfl
  rw [e]
  exact ⟨.ref p, _, J, rfl, q ys p pm hs hn⟩
end
end Ap

set_option Elab.async false
set_option linter.all false
set_option maxRecDepth 100000
set_option maxHeartbeats 2000000
/-! one step of a reading each: rules of my own, all by definition -/
namespace Ap
open PySem PySem.Spec PyProof.Rows L2
abbrev Gr (H H' : Hp) : Prop := ∀ a o, H a = some o → H' a = some o
theorem Gr.rfl {H : Hp} : Gr H H := fun _ _ h => h
theorem Gr.tr {H H1 H2 : Hp} (a : Gr H H1) (b : Gr H1 H2) : Gr H H2 := fun x o h => b x o (a x o h)
theorem gr_new {H : Hp} {p : Addr} {o : HO} (h : H p = none) : Gr H (upd H p o) := fun a u e => by
  rw [upd_ne (ne_of_none e h)]
  exact e
theorem gr_mut {H H' : Hp} {p : Addr} {o : HO} (e : Gr H H') (h : H p = none) : Gr H (upd H' p o) := fun a u ha => by
  rw [upd_ne (ne_of_none ha h)]
  exact e a u ha
theorem gr_free {H H' : Hp} {p : Addr} (e : Gr H H') (h : H' p = none) : H p = none := by
  cases h1 : H p with
  | none => rfl
  | some o => rw [e p o h1] at h; cases h
theorem gr_at {H H' : Hp} {a : Addr} {u : HO} (e : Gr H H') (h : H a = some u) : H' a = some u := e a u h
theorem at_new {H : Hp} {p a : Addr} {o u : HO} (hp : H p = none) (h : H a = some u) : upd H p o a = some u := gr_new hp a u h
theorem at_ne {H : Hp} {p a : Addr} {o : HO} {u : Option HO} (ne : a ≠ p) (h : H a = u) : upd H p o a = u := by rw [upd_ne ne]; exact h
theorem free_new {H : Hp} {p q : Addr} {o : HO} (h : upd H p o q = none) : H q = none := by
  by_cases e : q = p
  · rw [e, upd_same] at h; cases h
  · rw [upd_ne e] at h; exact h
theorem rd_gr {H H' : Hp} {a : Addr} {u : HO} (e : Gr H H') (h : Rd H a u) : Rd H' a u := by
  rcases h with h | ⟨o, h⟩
  · exact .inl (e a _ h)
  · exact .inr ⟨o, e a _ h⟩
theorem sql_gr {K : PySem.W.Frag} {H H' : Hp} {a : Addr} {xs : List V} (e : Gr H H') (h : SqL K H a xs) : SqL K H' a xs := by
  rcases h with h | h
  · exact .inl (rd_gr e h)
  · exact .inr h
theorem sqt_gr {K : PySem.W.Frag} {H H' : Hp} {a : Addr} {xs : List V} (e : Gr H H') (h : SqT K H a xs) : SqT K H' a xs := by
  rcases h with h | h
  · exact .inl (rd_gr e h)
  · exact .inr h
theorem sql_of {K : PySem.W.Frag} {H : Hp} {a : Addr} {xs : List V} (h : H a = some (.lst xs)) : SqL K H a xs := .inl (.inl h)
theorem sqt_of {K : PySem.W.Frag} {H : Hp} {a : Addr} {xs : List V} (h : H a = some (.tup xs)) : SqT K H a xs := .inl (.inl h)
mutual
theorem dp_gr {K : PySem.W.Frag} {H H' : Hp} (e : Gr H H') : ∀ {v : V} {d : PyData}, Dp K H v d → Dp K H' v d
  | _, _, .non => .non
  | _, _, .bl b => .bl b
  | _, _, .int i => .int i
  | _, _, .str x => .str x
  | _, _, .lst h k => .lst (sql_gr e h) (dpa_gr e k)
  | _, _, .tup h k => .tup (sqt_gr e h) (dpa_gr e k)
theorem dpa_gr {K : PySem.W.Frag} {H H' : Hp} (e : Gr H H') : ∀ {vs : List V} {ds : List PyData}, DpAll K H vs ds → DpAll K H' vs ds
  | _, _, .nil => .nil
  | _, _, .cons h k => .cons (dp_gr e h) (dpa_gr e k)
end
def qDget (x y : V) (H : Hp) (Q : VK) : Prop := ∃ a v, x = .ref a ∧ DGet H a y (some v) ∧ Q v H
def qDin (y x : V) (H : Hp) (Q : VK) : Prop := ∃ a o, x = .ref a ∧ DGet H a y o ∧ Q (.bl o.isSome) H
def qDnin (y x : V) (H : Hp) (Q : VK) : Prop := ∃ a o, x = .ref a ∧ DGet H a y o ∧ Q (.bl (!o.isSome)) H
def qDput (x y v : V) (H : Hp) (R : Hp → Prop) : Prop := ∃ a H4, x = .ref a ∧ DPut H a y v H4 ∧ R H4
section
variable {K : PySem.W.Frag} {σ : L2.St} {H : Hp} {Q : VK} {D : Ends} {ta tb te tc td tx ty tv : TE} {t u c : TT} {t1 t2 tw : TS} {tl th : TO} {x y v : V} {i j : Nat} {g : TG} {as rs : TA}
/-! expressions -/
theorem x_var (h : σ[i]? = some (some v)) (q : Q v H) : tVar i σ H Q := ⟨v, h, q⟩
theorem x_c (q : Q v H) : tC v σ H Q := q
theorem x_op {r : R2} (q : ta σ H fun x H1 => tb σ H1 fun y H2 => r x y H2 Q) : tOp r ta tb σ H Q := q
theorem x_un {r : V → Hp → VK → Prop} (q : ta σ H fun x H1 => r x H1 Q) : tUn r ta σ H Q := q
theorem x_I0 {f : Int → Int → V} {a b : Int} (q : Q (f a b) H) : rI0 f (.int a) (.int b) H Q := ⟨a, b, rfl, rfl, q⟩
theorem x_I {C : Int → Int → Prop} {f : Int → Int → V} {a b : Int} (hc : C a b) (q : Q (f a b) H) : rI C f (.int a) (.int b) H Q := ⟨a, b, rfl, rfl, hc, q⟩
theorem x_U {f : Int → V} {a : Int} (q : Q (f a) H) : rU f (.int a) H Q := ⟨a, rfl, q⟩
theorem x_eq (h : scal x y = true) (q : Q (.bl (decide (x = y))) H) : rEq x y H Q := ⟨h, q⟩
theorem x_ne (h : scal x y = true) (q : Q (.bl (!decide (x = y))) H) : rNe x y H Q := ⟨h, q⟩
theorem x_ixL {p : Addr} {xs : List V} {k : Int} (h : SqL K H p xs) (a : atI xs k = some v) (q : Q v H) : rIxL K (.ref p) (.int k) H Q := ⟨p, xs, k, v, rfl, rfl, h, a, q⟩
theorem x_ixT {p : Addr} {xs : List V} {k : Int} (h : SqT K H p xs) (a : atI xs k = some v) (q : Q v H) : rIxT K (.ref p) (.int k) H Q := ⟨p, xs, k, v, rfl, rfl, h, a, q⟩
theorem x_ixS {z : Str} {k : Int} {n : Nat} (l : z.length ≤ sizeLine) (a : atI z.cps.toList k = some n) (q : Q (.str ⟨#[n]⟩) H) : rIxS (.str z) (.int k) H Q := ⟨z, k, n, rfl, rfl, l, a, q⟩
theorem x_cat {l b : Addr} {xs zs : List V} (h1 : H l = some (.lst xs)) (h2 : H b = some (.lst zs)) (hz : xs.length + zs.length ≤ sizeLine) (q : ∀ p, H p = none → Q (.ref p) (upd H p (.lst (xs ++ zs)))) : rCat (.ref l) (.ref b) H Q :=
  ⟨l, b, xs, zs, rfl, rfl, h1, h2, hz, q⟩
theorem x_catT {l b : Addr} {xs zs : List V} (h1 : SqT K H l xs) (h2 : SqT K H b zs) (n1 : xs ≠ []) (n2 : zs ≠ []) (hz : xs.length + zs.length ≤ sizeLine) (q : ∀ p, H p = none → Q (.ref p) (upd H p (.tup (xs ++ zs)))) : rCatT K (.ref l) (.ref b) H Q :=
  ⟨l, b, xs, zs, rfl, rfl, h1, h2, n1, hz, fun e => absurd e n2, fun _ => q⟩
theorem x_inL {p : Addr} {xs : List V} {neg : Bool} (h : SqL K H p xs) (hx : flatV x = true) (ha : xs.all flatV = true) (q : Q (.bl (if neg then !inV x xs else inV x xs)) H) : rIn K neg x (.ref p) H Q := ⟨p, xs, rfl, .inl h, hx, ha, q⟩
theorem x_inT {p : Addr} {xs : List V} {neg : Bool} (h : SqT K H p xs) (hx : flatV x = true) (ha : xs.all flatV = true) (q : Q (.bl (if neg then !inV x xs else inV x xs)) H) : rIn K neg x (.ref p) H Q := ⟨p, xs, rfl, .inr h, hx, ha, q⟩
theorem x_eqD {d e : PyData} (h1 : Dp K H x d) (h2 : Dp K H y e) (s1 : SeqAt.shaped d = true) (s2 : SeqAt.shaped e = true) (q : Q (.bl (PyData.eqv d e)) H) : rEqD K x y H Q := ⟨d, e, h1, h2, s1, s2, q⟩
theorem x_neD {d e : PyData} (h1 : Dp K H x d) (h2 : Dp K H y e) (s1 : SeqAt.shaped d = true) (s2 : SeqAt.shaped e = true) (q : Q (.bl (!PyData.eqv d e)) H) : rNeD K x y H Q := ⟨d, e, h1, h2, s1, s2, q⟩
theorem x_tup (q : as σ H fun xs H1 => xs.length ≤ sizeLine ∧ ∀ p, H1 p = none → Q (.ref p) (upd H1 p (.tup xs))) : tTup as σ H Q := q
theorem x_lst (q : as σ H fun xs H1 => xs.length ≤ sizeLine ∧ ∀ p, H1 p = none → Q (.ref p) (upd H1 p (.lst xs))) : tLst as σ H Q := q
theorem x_nil {Q : List V → Hp → Prop} (q : Q [] H) : tNil σ H Q := q
theorem x_cons {Q : List V → Hp → Prop} (q : ta σ H fun x H1 => rs σ H1 fun xs H2 => Q (x :: xs) H2) : tCons ta rs σ H Q := q
theorem x_cb {r : List V → Hp → VK → Prop} (q : as σ H fun vs H1 => r vs H1 Q) : tCB r as σ H Q := q
theorem x_bm {T : String} {r : V → List V → Hp → VK → Prop} (q : ta σ H fun x H1 => tyV K T x H1 ∧ as σ H1 fun xs H2 => r x xs H2 Q) : tBM K T r ta as σ H Q := q
theorem x_bm0 {T : String} {r : V → List V → Hp → VK → Prop} (q : ta σ H fun x H1 => tyV K T x H1 ∧ r x [] H1 Q) : tBM0 K T r ta σ H Q := q
theorem x_sl {r : V → Option Int → Option Int → Hp → VK → Prop} (q : te σ H fun x H1 => tl σ H1 fun l H2 => th σ H2 fun u H3 => r x l u H3 Q) : tSl r te tl th σ H Q := q
theorem x_slL {a : Addr} {xs : List V} {lo hi : Option Int} (h : SqL K H a xs) (q : ∀ p, H p = none → Q (.ref p) (upd H p (.lst (cutV xs lo hi)))) : rSlL K (.ref a) lo hi H Q := ⟨a, xs, rfl, h, q⟩
theorem x_slS {z : Str} {lo hi : Option Int} (hz : z.length ≤ sizeLine) (q : Q (.str (cutS z lo hi)) H) : rSlS (.str z) lo hi H Q := ⟨z, rfl, hz, q⟩
theorem x_nop {Q : Option Int → Hp → Prop} (q : Q none H) : tNoPart σ H Q := q
theorem x_part {Q : Option Int → Hp → Prop} (q : te σ H fun x H1 => ∃ k, x = .int k ∧ Q (some k) H1) : tPart te σ H Q := q
theorem x_if (q : t σ H fun b H1 => if b = true then ta σ H1 Q else tb σ H1 Q) : tIf t ta tb σ H Q := q
theorem x_andV (q : ta σ H fun x H1 => ∃ k, x = .bl k ∧ if k = true then tb σ H1 Q else Q (.bl false) H1) : tAndV ta tb σ H Q := q
theorem x_orV (q : ta σ H fun x H1 => ∃ k, x = .bl k ∧ if k = true then Q (.bl true) H1 else tb σ H1 Q) : tOrV ta tb σ H Q := q
theorem x_notV (q : ta σ H fun x H1 => ∃ k, x = .bl k ∧ Q (.bl (!k)) H1) : tNotV ta σ H Q := q
theorem x_dget (q : td σ H fun x H1 => ty σ H1 fun y H2 => qDget x y H2 Q) : tDGet td ty σ H Q := q
theorem x_din (q : ty σ H fun y H1 => td σ H1 fun x H2 => qDin y x H2 Q) : tDIn ty td σ H Q := q
theorem x_dnotin (q : ty σ H fun y H1 => td σ H1 fun x H2 => qDnin y x H2 Q) : tDNotIn ty td σ H Q := q
theorem x_dnew (q : ∀ p, H p = none → Q (.ref p) (upd H p (.dK []))) : tDNewK σ H Q := q
theorem x_dnewT (q : ∀ p, H p = none → Q (.ref p) (upd H p (.dT []))) : tDNewT σ H Q := q
/-! tests -/
section
variable {Q : Bool → Hp → Prop}
theorem x_test (q : ta σ H fun x H1 => ∃ k, x = .bl k ∧ Q k H1) : tTest ta σ H Q := q
theorem x_B (q : ta σ H fun x H1 => ∃ k, x = .bl k ∧ Q k H1) : tB ta σ H Q := q
theorem x_bl {b : Bool} {R : Bool → Prop} (q : R b) : ∃ k, V.bl b = .bl k ∧ R k := ⟨b, rfl, q⟩
theorem x_not (q : t σ H fun k H1 => Q (!k) H1) : tNot t σ H Q := q
theorem x_and (q : t σ H fun k H1 => if k = true then u σ H1 Q else Q false H1) : tAnd t u σ H Q := q
theorem x_or (q : t σ H fun k H1 => if k = true then Q true H1 else u σ H1 Q) : tOr t u σ H Q := q
theorem x_yes (q : Q true H) : tYes σ H Q := q
end
/-! statements -/
theorem x_next (q : D.nx σ H) : tNext D σ H := q
theorem x_brk (q : D.bk σ H) : tBreak D σ H := q
theorem x_cont (q : D.ct σ H) : tCont D σ H := q
theorem x_seq (q : t1 { D with nx := t2 D } σ H) : tSeq t1 t2 D σ H := q
theorem x_drop (q : te σ H fun _ H1 => D.nx σ H1) : tDrop te D σ H := q
theorem x_ret (q : te σ H D.rt) : tRet te D σ H := q
theorem x_retN (q : D.rt .non H) : tRetN D σ H := q
theorem x_ifS (q : c σ H fun b H1 => if b = true then t1 D σ H1 else t2 D σ H1) : tIfS c t1 t2 D σ H := q
theorem x_asg (q : te σ H fun x H1 => g x σ H1 D.nx) : tAsg te g D σ H := q
theorem x_gn {Q : L2.St → Hp → Prop} (q : Q (σ.set i (some v)) H) : gName i v σ H Q := q
theorem x_gnil {Q : L2.St → Hp → Prop} (q : Q σ H) : gNil [] σ H Q := ⟨rfl, q⟩
theorem x_gcons {Q : L2.St → Hp → Prop} {vs : List V} {gs : TGs} (q : g v σ H fun σ' H' => gs vs σ' H' Q) : gCons g gs (v :: vs) σ H Q := ⟨v, vs, rfl, q⟩
theorem x_gtup {Q : L2.St → Hp → Prop} {gs : TGs} {n : Nat} {p : Addr} {xs : List V} (h : SqT K H p xs) (l : xs.length = n) (q : gs xs σ H Q) : gTup K n gs (.ref p) σ H Q := ⟨p, xs, rfl, h, l, q⟩
theorem x_par {vs : List V} (q : as σ H fun vs H1 => ∃ v w, vs = [v, w] ∧ D.nx ((σ.set i (some v)).set j (some w)) H1) : tPar i j as D σ H := q
theorem x_dput (q : tv σ H fun v H1 => td σ H1 fun x H2 => ty σ H2 fun y H3 => qDput x y v H3 (D.nx σ)) : sDPut td ty tv D σ H := q
/-! loops, with what is asked of them in one piece -/
theorem x_forL (q : ta σ H fun v H1 => ∃ a xs, v = .ref a ∧ SqL K H1 a xs ∧ ∃ Pv : Nat → L2.St → Hp → Prop, Pv 0 σ H1 ∧ (∀ i σ' H', i ≤ xs.length → Pv i σ' H' → SqL K H' a xs) ∧
      (∀ i x σ' H', xs[i]? = some x → Pv i σ' H' → g x σ' H' fun σ2 H2 => t1 { D with nx := Pv (i + 1), ct := Pv (i + 1), bk := D.nx } σ2 H2) ∧ ∀ σ' H', Pv xs.length σ' H' → D.nx σ' H')
    (mono : ∀ Q Q' : VK, (∀ v H1, Q v H1 → Q' v H1) → ta σ H Q → ta σ H Q') : tFor (iList K ta) g t1 D σ H :=
  mono _ _ (fun v H1 ⟨a, xs, e, hs, Pv, h0, hl, hs', hd⟩ => ⟨a, e, ⟨xs, hs⟩, for_list Pv h0 hl hs' hd⟩) q
/-- over a list that a name holds -/
theorem x_forV {a : Addr} {xs : List V} (hv : σ[i]? = some (some (.ref a))) (hx : SqL K H a xs) (Pv : Nat → L2.St → Hp → Prop) (h0 : Pv 0 σ H) (hl : ∀ i σ' H', i ≤ xs.length → Pv i σ' H' → SqL K H' a xs)
    (hs : ∀ i x σ' H', xs[i]? = some x → Pv i σ' H' → g x σ' H' fun σ2 H2 => t1 { D with nx := Pv (i + 1), ct := Pv (i + 1), bk := D.nx } σ2 H2) (hd : ∀ σ' H', Pv xs.length σ' H' → D.nx σ' H') : tFor (iList K (tVar i)) g t1 D σ H :=
  ⟨.ref a, hv, a, rfl, ⟨xs, hx⟩, for_list Pv h0 hl hs hd⟩
end
end Ap
namespace Ap
open PySem PySem.Spec PyProof.Rows L2
/-! loops and comprehensions, in two parts: what is walked, then the word of the turns -/
section
variable {K : PySem.W.Frag} {σ : L2.St} {H : Hp} {Q : VK} {D : Ends} {ta tb te tl : TE} {t u c tt : TT} {t1 t2 tw : TS} {x y v : V} {i j : Nat} {g : TG} {as rs : TA} {wi : TI}
theorem id_var (q : tVar i σ H Q) : tVar i σ H Q := q
theorem id_I {C : Int → Int → Prop} {f : Int → Int → V} (q : rI C f x y H Q) : rI C f x y H Q := q
theorem id_eq (q : rEq x y H Q) : rEq x y H Q := q
theorem id_ne (q : rNe x y H Q) : rNe x y H Q := q
theorem id_ixT (q : rIxT K x y H Q) : rIxT K x y H Q := q
theorem id_ixL (q : rIxL K x y H Q) : rIxL K x y H Q := q
theorem id_ixT0 (q : rIxT K x (.int 0) H Q) : rIxT K x (.int 0) H Q := q
theorem id_ixL0 (q : rIxL K x (.int 0) H Q) : rIxL K x (.int 0) H Q := q
theorem id_ixT1 (q : rIxT K x (.int 1) H Q) : rIxT K x (.int 1) H Q := q
theorem id_ixL1 (q : rIxL K x (.int 1) H Q) : rIxL K x (.int 1) H Q := q
theorem id_ixT2 (q : rIxT K x (.int 2) H Q) : rIxT K x (.int 2) H Q := q
theorem id_ixL2 (q : rIxL K x (.int 2) H Q) : rIxL K x (.int 2) H Q := q
theorem id_ixT3 (q : rIxT K x (.int 3) H Q) : rIxT K x (.int 3) H Q := q
theorem id_ixL3 (q : rIxL K x (.int 3) H Q) : rIxL K x (.int 3) H Q := q
theorem id_ixT4 (q : rIxT K x (.int 4) H Q) : rIxT K x (.int 4) H Q := q
theorem id_ixL4 (q : rIxL K x (.int 4) H Q) : rIxL K x (.int 4) H Q := q
theorem id_ixT5 (q : rIxT K x (.int 5) H Q) : rIxT K x (.int 5) H Q := q
theorem id_ixL5 (q : rIxL K x (.int 5) H Q) : rIxL K x (.int 5) H Q := q
theorem id_ixT6 (q : rIxT K x (.int 6) H Q) : rIxT K x (.int 6) H Q := q
theorem id_ixL6 (q : rIxL K x (.int 6) H Q) : rIxL K x (.int 6) H Q := q
theorem id_ixT7 (q : rIxT K x (.int 7) H Q) : rIxT K x (.int 7) H Q := q
theorem id_ixL7 (q : rIxL K x (.int 7) H Q) : rIxL K x (.int 7) H Q := q
theorem id_ixT8 (q : rIxT K x (.int 8) H Q) : rIxT K x (.int 8) H Q := q
theorem id_ixL8 (q : rIxL K x (.int 8) H Q) : rIxL K x (.int 8) H Q := q
theorem id_ixT9 (q : rIxT K x (.int 9) H Q) : rIxT K x (.int 9) H Q := q
theorem id_ixL9 (q : rIxL K x (.int 9) H Q) : rIxL K x (.int 9) H Q := q
theorem id_ixTm (q : rIxT K x (.int (-1)) H Q) : rIxT K x (.int (-1)) H Q := q
theorem id_ixLm (q : rIxL K x (.int (-1)) H Q) : rIxL K x (.int (-1)) H Q := q
theorem id_cat (q : rCat x y H Q) : rCat x y H Q := q
theorem id_gtup {gs : TGs} {n : Nat} {Q : L2.St → Hp → Prop} (q : gTup K n gs x σ H Q) : gTup K n gs x σ H Q := q
theorem x_start {N : List Str} {vs : List V} {τ : L2.St} (e : L2.start N vs = τ) (q : t1 D τ H) : t1 D (L2.start N vs) H := by rw [e]; exact q
/-- the word of a for -/
def ForQ (J : It) (g : TG) (t1 : TS) (D : Ends) (σ : L2.St) (H : Hp) : Prop := ∃ W : Nat → Nat → L2.St → Hp → Prop, (∃ m, W 0 m σ H) ∧ ∀ i m σ H, W i m σ H →
  (J.stop i H ∧ D.nx σ H) ∨ (J.go i H ∧ ∃ N : L2.St → Hp → Prop, (∀ σ' H', N σ' H' → ∃ m', m' < m ∧ W (i + 1) m' σ' H') ∧ ∀ x H', J.yld i H x H' → g x σ H' fun σ2 H2 => t1 { D with nx := N, ct := N, bk := D.nx } σ2 H2)
theorem x_for (q : wi σ H fun J H1 => ForQ J g t1 D σ H1) : tFor wi g t1 D σ H := q
theorem x_iL {R : It → Hp → Prop} (q : tl σ H fun x H1 => ∃ a, x = .ref a ∧ (∃ xs, SqL K H1 a xs) ∧ R (Itl K a) H1) : iList K tl σ H R := q
theorem x_iT {R : It → Hp → Prop} (q : tl σ H fun x H1 => ∃ a, x = .ref a ∧ (∃ xs, SqT K H1 a xs) ∧ R (Itt K a) H1) : iTup K tl σ H R := q
theorem x_iR1 {R : It → Hp → Prop} (q : as σ H fun vs H1 => ∃ j : Int, vs = [.int j] ∧ -(2 ^ 62) ≤ j ∧ j < 2 ^ 62 ∧ R (Itr 0 j.toNat) H1) : iRng1 as σ H R := q
theorem x_iR2 {R : It → Hp → Prop} (q : as σ H fun vs H1 => ∃ i j : Int, vs = [.int i, .int j] ∧ (-(2 ^ 62) ≤ i ∧ i < 2 ^ 62 ∧ -(2 ^ 62) ≤ j ∧ j < 2 ^ 62) ∧ R (Itr i (j - i).toNat) H1) : iRng2 as σ H R := q
theorem fin_L {a : Addr} {xs : List V} (hx : SqL K H a xs) (Pv : Nat → L2.St → Hp → Prop) (h0 : Pv 0 σ H) (hl : ∀ i σ' H', i ≤ xs.length → Pv i σ' H' → SqL K H' a xs)
    (hs : ∀ i x σ' H', xs[i]? = some x → Pv i σ' H' → g x σ' H' fun σ2 H2 => t1 { D with nx := Pv (i + 1), ct := Pv (i + 1), bk := D.nx } σ2 H2) (hd : ∀ σ' H', Pv xs.length σ' H' → D.nx σ' H') :
    ∃ a', V.ref a = .ref a' ∧ (∃ xs, SqL K H a' xs) ∧ ForQ (Itl K a') g t1 D σ H := ⟨a, rfl, ⟨xs, hx⟩, for_list Pv h0 hl hs hd⟩
theorem fin_T {a : Addr} {xs : List V} (hx : SqT K H a xs) (Pv : Nat → L2.St → Hp → Prop) (h0 : Pv 0 σ H) (hl : ∀ i σ' H', i ≤ xs.length → Pv i σ' H' → SqT K H' a xs)
    (hs : ∀ i x σ' H', xs[i]? = some x → Pv i σ' H' → g x σ' H' fun σ2 H2 => t1 { D with nx := Pv (i + 1), ct := Pv (i + 1), bk := D.nx } σ2 H2) (hd : ∀ σ' H', Pv xs.length σ' H' → D.nx σ' H') :
    ∃ a', V.ref a = .ref a' ∧ (∃ xs, SqT K H a' xs) ∧ ForQ (Itt K a') g t1 D σ H := ⟨a, rfl, ⟨xs, hx⟩, for_tup Pv h0 hl hs hd⟩
theorem fin_R1 {n : Nat} (hn : n < 2 ^ 62) (Pv : Nat → L2.St → Hp → Prop) (h0 : Pv 0 σ H) (hs : ∀ (i : Nat) σ' H', i < n → Pv i σ' H' → g (.int (i : Int)) σ' H' fun σ2 H2 => t1 { D with nx := Pv (i + 1), ct := Pv (i + 1), bk := D.nx } σ2 H2)
    (hd : ∀ σ' H', Pv n σ' H' → D.nx σ' H') : ∃ j : Int, [V.int (n : Int)] = [.int j] ∧ -(2 ^ 62) ≤ j ∧ j < 2 ^ 62 ∧ ForQ (Itr 0 j.toNat) g t1 D σ H :=
  ⟨n, rfl, by omega, by omega, by
    have e : (n : Int).toNat = n := Int.toNat_natCast n
    rw [e]
    refine for_range Pv h0 (fun i σ' H' hi p => ?_) hd
    rw [Int.zero_add]
    exact hs i σ' H' hi p⟩
theorem fin_R2 {lo n : Nat} (hn : lo + n < 2 ^ 62) {hi : Int} (e : hi = ((lo + n : Nat) : Int)) (Pv : Nat → L2.St → Hp → Prop) (h0 : Pv 0 σ H) (hs : ∀ (i : Nat) σ' H', i < n → Pv i σ' H' → g (.int ((lo + i : Nat) : Int)) σ' H' fun σ2 H2 => t1 { D with nx := Pv (i + 1), ct := Pv (i + 1), bk := D.nx } σ2 H2)
    (hd : ∀ σ' H', Pv n σ' H' → D.nx σ' H') : ∃ i j : Int, [V.int (lo : Int), V.int hi] = [.int i, .int j] ∧ (-(2 ^ 62) ≤ i ∧ i < 2 ^ 62 ∧ -(2 ^ 62) ≤ j ∧ j < 2 ^ 62) ∧ ForQ (Itr i (j - i).toNat) g t1 D σ H :=
  ⟨lo, hi, rfl, by omega, by
    have e2 : (hi - (lo : Int)).toNat = n := by omega
    rw [e2]
    refine for_range Pv h0 (fun i σ' H' hi p => ?_) hd
    rw [← Int.natCast_add]
    exact hs i σ' H' hi p⟩
/-- the word of a comprehension -/
def LcQ (J : It) (g : TG) (tt : TT) (te : TE) (vs : List Nat) (σ : L2.St) (H1 : Hp) (Q : VK) : Prop := ∀ D, H1 D = none → ∃ W : Nat → Nat → Hp → Prop, (∃ m, W 0 m (upd H1 D (.lst []))) ∧ ∀ i m H, W i m H →
  (J.stop i H ∧ Q (.ref D) H) ∨ (J.go i H ∧ ∃ Nx : Hp → Prop, (∀ H', Nx H' → ∃ m', m' < m ∧ W (i + 1) m' H') ∧ ∀ x H', J.yld i H x H' → g x (wipe σ vs) H' fun σ2 H2 => wipe σ2 vs = wipe σ vs ∧ tt σ2 H2 fun b H3 =>
    if b = true then te σ2 H3 fun y H4 => ∃ acc, H4 D = some (.lst acc) ∧ acc.length < sizeLine ∧ Nx (upd H4 D (.lst (acc ++ [y]))) else Nx H3)
theorem x_lc {vs : List Nat} (q : wi σ H fun J H1 => LcQ J g tt te vs σ H1 Q) : tLc wi g tt te vs σ H Q := q
theorem fin_lcL {a : Addr} {xs : List V} {vs : List Nat} (hx : SqL K H a xs) (Pv : Addr → Nat → Hp → Prop) (h0 : ∀ D, H D = none → Pv D 0 (upd H D (.lst []))) (hl : ∀ D i H', i ≤ xs.length → Pv D i H' → SqL K H' a xs)
    (hs : ∀ D i x H', xs[i]? = some x → Pv D i H' → g x (wipe σ vs) H' fun σ2 H2 => wipe σ2 vs = wipe σ vs ∧ tt σ2 H2 fun b H3 =>
      if b = true then te σ2 H3 fun y H4 => ∃ acc, H4 D = some (.lst acc) ∧ acc.length < sizeLine ∧ Pv D (i + 1) (upd H4 D (.lst (acc ++ [y]))) else Pv D (i + 1) H3) (hd : ∀ D H', Pv D xs.length H' → Q (.ref D) H') :
    ∃ a', V.ref a = .ref a' ∧ (∃ xs, SqL K H a' xs) ∧ LcQ (Itl K a') g tt te vs σ H Q := ⟨a, rfl, ⟨xs, hx⟩, fun D hD => lc_list (Pv D) (h0 D hD) (hl D) (hs D) (hd D)⟩
theorem fin_lcR1 {n : Nat} {vs : List Nat} (hn : n < 2 ^ 62) (Pv : Addr → Nat → Hp → Prop) (h0 : ∀ D, H D = none → Pv D 0 (upd H D (.lst [])))
    (hs : ∀ D (i : Nat) H', i < n → Pv D i H' → g (.int (i : Int)) (wipe σ vs) H' fun σ2 H2 => wipe σ2 vs = wipe σ vs ∧ tt σ2 H2 fun b H3 =>
      if b = true then te σ2 H3 fun y H4 => ∃ acc, H4 D = some (.lst acc) ∧ acc.length < sizeLine ∧ Pv D (i + 1) (upd H4 D (.lst (acc ++ [y]))) else Pv D (i + 1) H3) (hd : ∀ D H', Pv D n H' → Q (.ref D) H') :
    ∃ j : Int, [V.int (n : Int)] = [.int j] ∧ -(2 ^ 62) ≤ j ∧ j < 2 ^ 62 ∧ LcQ (Itr 0 j.toNat) g tt te vs σ H Q :=
  ⟨n, rfl, by omega, by omega, by
    have e : (n : Int).toNat = n := Int.toNat_natCast n
    rw [e]
    intro D hD
    refine lc_range (Pv D) (h0 D hD) (fun i H' hi p => ?_) (hd D)
    rw [Int.zero_add]
    exact hs D i H' hi p⟩
/-- a while: a word, a number that falls -/
theorem x_while (W : Nat → L2.St → Hp → Prop) (m0 : Nat) (h0 : W m0 σ H)
    (hs : ∀ m σ' H', W m σ' H' → c σ' H' fun b H1 => if b = true then ∃ N : L2.St → Hp → Prop, (∀ σ2 H2, N σ2 H2 → ∃ m', m' < m ∧ W m' σ2 H2) ∧ t1 { D with nx := N, ct := N, bk := D.nx } σ' H1 else D.nx σ' H1) : tWhile c t1 D σ H :=
  ⟨W, ⟨m0, h0⟩, hs⟩
/-- an if, its test known or not -/
theorem x_ite {A B : Prop} {b : Bool} (h1 : b = true → A) (h2 : b = false → B) : if b = true then A else B := by
  cases b
  · exact h2 rfl
  · exact h1 rfl
theorem x_append {l : Addr} {xs : List V} (h : H l = some (.lst xs)) (hz : xs.length < sizeLine) (q : Q .non (upd H l (.lst (xs ++ [y])))) : tyV K "list" (.ref l) H ∧ rAppend (.ref l) [y] H Q :=
  ⟨.inl ⟨rfl, xs, sql_of h⟩, l, xs, y, rfl, rfl, h, hz, q⟩
theorem x_dgetK {a : Addr} {kvs : List (Key × V)} {k : Key} (h : H a = some (.dK kvs)) (e : valV kvs k = some v) (q : Q v H) : qDget (.ref a) (kV k) H Q := ⟨a, v, rfl, by rw [← e]; exact DGet.k h, q⟩
theorem x_dinK {a : Addr} {kvs : List (Key × V)} {k : Key} (h : H a = some (.dK kvs)) (q : Q (.bl (valV kvs k).isSome) H) : qDin (kV k) (.ref a) H Q := ⟨a, _, rfl, DGet.k h, q⟩
theorem x_dninK {a : Addr} {kvs : List (Key × V)} {k : Key} (h : H a = some (.dK kvs)) (q : Q (.bl (!(valV kvs k).isSome)) H) : qDnin (kV k) (.ref a) H Q := ⟨a, _, rfl, DGet.k h, q⟩
theorem x_dputK {a : Addr} {kvs : List (Key × V)} {k : Key} {R : Hp → Prop} (h : H a = some (.dK kvs)) (hz : kvs.length < sizeLine) (q : R (upd H a (.dK (putK kvs k v)))) : qDput (.ref a) (kV k) v H R := ⟨a, _, rfl, DPut.k h hz, q⟩
end
def sp_none : Sp := fun _ _ _ _ => False
end Ap
namespace Ap
open PySem PySem.Spec PyProof.Rows L2
/-! built-ins, each at its values -/
section
variable {K : PySem.W.Frag} {σ : L2.St} {H : Hp} {Q : VK} {x y v : V}
theorem id_ty {R : Prop} {l : Addr} (q : tyV K "list" (.ref l) H ∧ R) : tyV K "list" (.ref l) H ∧ R := q
theorem x_ki {n : Int} {R : Int → Prop} (q : R n) : ∃ k, V.int n = .int k ∧ R k := ⟨n, rfl, q⟩
theorem x_ty {R : Prop} {l : Addr} {xs : List V} (h : H l = some (.lst xs)) (q : R) : tyV K "list" (.ref l) H ∧ R := ⟨.inl ⟨rfl, xs, sql_of h⟩, q⟩
theorem x_app {l : Addr} {xs : List V} (h : H l = some (.lst xs)) (hz : xs.length < sizeLine) (q : Q .non (upd H l (.lst (xs ++ [y])))) : rAppend (.ref l) [y] H Q := ⟨l, xs, y, rfl, rfl, h, hz, q⟩
theorem x_ext {l b : Addr} {xs zs : List V} (h : H l = some (.lst xs)) (h2 : H b = some (.lst zs)) (hz : xs.length + zs.length ≤ sizeLine) (q : Q .non (upd H l (.lst (xs ++ zs)))) : rExtend (.ref l) [.ref b] H Q := ⟨l, b, xs, zs, rfl, rfl, h, h2, hz, q⟩
theorem x_pop {l : Addr} {xs : List V} (h : H l = some (.lst xs)) (e : xs[xs.length - 1]? = some y) (q : Q y (upd H l (.lst xs.dropLast))) : rPop (.ref l) [] H Q := ⟨l, xs, y, rfl, rfl, h, e, q⟩
theorem x_clear {l : Addr} {xs : List V} (h : H l = some (.lst xs)) (q : Q .non (upd H l (.lst []))) : rClear (.ref l) [] H Q := ⟨l, xs, rfl, rfl, h, q⟩
theorem x_slT {a : Addr} {xs : List V} {lo hi : Option Int} (h : SqT K H a xs) (n : ¬ (HT.sIx xs.length 0 lo = 0 ∧ HT.sIx xs.length xs.length hi = xs.length)) (q : ∀ p, H p = none → Q (.ref p) (upd H p (.tup (cutV xs lo hi)))) : rSlT K (.ref a) lo hi H Q := ⟨a, xs, rfl, h, n, q⟩
theorem x_sum {a : Addr} {ns : List Int} (h : SqL K H a (ns.map V.int)) (q : Q (.int ns.sum) H) : rSum K [.ref a] H Q := ⟨a, ns, rfl, h, q⟩
theorem x_all {a : Addr} {bs : List Bool} (h : SqL K H a (bs.map V.bl)) (q : Q (.bl (bs.all id)) H) : rAll K [.ref a] H Q := ⟨a, bs, rfl, h, q⟩
theorem x_any {a : Addr} {bs : List Bool} (h : SqL K H a (bs.map V.bl)) (q : Q (.bl (bs.any id)) H) : rAny K [.ref a] H Q := ⟨a, bs, rfl, h, q⟩
end
end Ap
namespace Ap
open PySem PySem.Spec PyProof.Rows L2
/-! the same, named -/
def rcLen (K : PySem.W.Frag) : List V → Hp → VK → Prop := fun xs H Q => ∃ p ys, xs = [.ref p] ∧ (SqL K H p ys ∨ SqT K H p ys) ∧ Q (.int ys.length) H
def rcLenD : List V → Hp → VK → Prop := fun xs H Q => ∃ a kvs, xs = [V.ref a] ∧ H a = some (.dK kvs) ∧ Q (.int kvs.length) H
def rcList (K : PySem.W.Frag) : List V → Hp → VK → Prop := fun xs H Q => ∃ p ys, xs = [.ref p] ∧ (SqL K H p ys ∨ SqT K H p ys) ∧ ∀ l, H l = none → Q (.ref l) (upd H l (.lst ys))
def rcTup (K : PySem.W.Frag) : List V → Hp → VK → Prop := fun xs H Q => ∃ p ys, xs = [.ref p] ∧ ((SqL K H p ys ∧ ∀ l, H l = none → Q (.ref l) (upd H l (.tup ys))) ∨ (SqT K H p ys ∧ Q (.ref p) H))
def rcInt : List V → Hp → VK → Prop := fun xs H Q => (∃ i, xs = [.int i] ∧ Q (.int i) H) ∨ ∃ k, xs = [.bl k] ∧ Q (.int (if k then 1 else 0)) H
def rcDict : List V → Hp → VK → Prop := fun xs H Q => ∃ (a : Addr) (kvs : List (Key × V)), xs = [.ref a] ∧ Rd H a (.dK kvs) ∧ ∀ p, H p = none → Q (.ref p) (upd H p (.dK kvs))
def roAddS : R2 := fun x y H Q => ∃ i j, x = .str i ∧ y = .str j ∧ i.length + j.length ≤ sizeLine ∧ Q (.str (i ++ j)) H
def roIsN : R2 := fun x y H Q => y = .non ∧ Q (.bl (decide (x = .non))) H
def roNotN : R2 := fun x y H Q => y = .non ∧ Q (.bl (!decide (x = .non))) H
section
variable {X : Cx}
theorem cc_len : CallR X (.builtin "len") (rcLen X.K) := call_len_seq
theorem cc_lenD : CallR X (.builtin "len") rcLenD := call_lenD
theorem cc_list : CallR X (.type "list") (rcList X.K) := call_list_of
theorem cc_tup : CallR X (.type "tuple") (rcTup X.K) := call_tuple_of
theorem cc_int : CallR X (.type "int") rcInt := call_int1
theorem cc_dict : CallR X (.type "dict") rcDict := call_dictD
theorem oo_addS : OpR X (binaryOp .Add) roAddS := op_add_str
theorem oo_isN : OpR X (compareOp .Is) roIsN := op_isN
theorem oo_notN : OpR X (compareOp .IsNot) roNotN := op_notN
end
section
variable {K : PySem.W.Frag} {H : Hp} {Q : VK} {x y v : V}
theorem x_lenL {a : Addr} {xs : List V} (h : SqL K H a xs) (q : Q (.int xs.length) H) : rcLen K [.ref a] H Q := ⟨a, xs, rfl, .inl h, q⟩
theorem x_lenT {a : Addr} {xs : List V} (h : SqT K H a xs) (q : Q (.int xs.length) H) : rcLen K [.ref a] H Q := ⟨a, xs, rfl, .inr h, q⟩
theorem x_lenD {a : Addr} {kvs : List (Key × V)} (h : H a = some (.dK kvs)) (q : Q (.int kvs.length) H) : rcLenD [.ref a] H Q := ⟨a, kvs, rfl, h, q⟩
theorem x_listL {a : Addr} {xs : List V} (h : SqL K H a xs) (q : ∀ l, H l = none → Q (.ref l) (upd H l (.lst xs))) : rcList K [.ref a] H Q := ⟨a, xs, rfl, .inl h, q⟩
theorem x_listT {a : Addr} {xs : List V} (h : SqT K H a xs) (q : ∀ l, H l = none → Q (.ref l) (upd H l (.lst xs))) : rcList K [.ref a] H Q := ⟨a, xs, rfl, .inr h, q⟩
theorem x_tupL {a : Addr} {xs : List V} (h : SqL K H a xs) (q : ∀ l, H l = none → Q (.ref l) (upd H l (.tup xs))) : rcTup K [.ref a] H Q := ⟨a, xs, rfl, .inl ⟨h, q⟩⟩
theorem x_intb {b : Bool} (q : Q (.int (if b then 1 else 0)) H) : rcInt [.bl b] H Q := .inr ⟨b, rfl, q⟩
theorem x_inti {i : Int} (q : Q (.int i) H) : rcInt [.int i] H Q := .inl ⟨i, rfl, q⟩
theorem x_dictD {a : Addr} {kvs : List (Key × V)} (h : H a = some (.dK kvs)) (q : ∀ p, H p = none → Q (.ref p) (upd H p (.dK kvs))) : rcDict [.ref a] H Q := ⟨a, kvs, rfl, .inl h, q⟩
theorem x_addS {a b : Str} (hz : a.length + b.length ≤ sizeLine) (q : Q (.str (a ++ b)) H) : roAddS (.str a) (.str b) H Q := ⟨a, b, rfl, rfl, hz, q⟩
theorem x_isN (q : Q (.bl (decide (x = .non))) H) : roIsN x .non H Q := ⟨rfl, q⟩
theorem x_notN (q : Q (.bl (!decide (x = .non))) H) : roNotN x .non H Q := ⟨rfl, q⟩
end
end Ap
namespace Ap
open PySem PySem.Spec PyProof.Rows L2
/-! comprehensions whose element and test are known functions -/
section
variable {K : PySem.W.Frag} {σ : L2.St} {H : Hp} {Q : VK} {te : TE} {tt : TT} {j : Nat}
theorem take_filter {α : Type} {xs : List α} {i : Nat} {x : α} (f : α → Bool) (h : xs[i]? = some x) : (xs.take (i + 1)).filter f = (xs.take i).filter f ++ (if f x = true then [x] else []) := by
  rw [List.take_succ, h, Option.toList_some, List.filter_append]
  congr 1
  by_cases c : f x = true
  · rw [if_pos c, List.filter_cons_of_pos c, List.filter_nil]
  · rw [if_neg c, List.filter_cons_of_neg c, List.filter_nil]
theorem fin_lcF {a : Addr} {xs : List V} {vs : List Nat} (f : V → Bool) (e : V → V) (hx : SqL K H a xs) (hz : xs.length ≤ 100000) (hw : ∀ x, wipe ((wipe σ vs).set j (some x)) vs = wipe σ vs)
    (ht : ∀ x H', x ∈ xs → Gr H H' → ∀ R : Bool → Hp → Prop, (∀ H2, Gr H' H2 → R (f x) H2) → tt ((wipe σ vs).set j (some x)) H' R)
    (he : ∀ x H', x ∈ xs → f x = true → Gr H H' → ∀ R : VK, (∀ H2, Gr H' H2 → R (e x) H2) → te ((wipe σ vs).set j (some x)) H' R)
    (q : ∀ D H', H D = none → Gr H H' → H' D = some (.lst ((xs.filter f).map e)) → Q (.ref D) H') : ∃ a', V.ref a = .ref a' ∧ (∃ xs, SqL K H a' xs) ∧ LcQ (Itl K a') (gName j) tt te vs σ H Q := by
  refine fin_lcL hx (fun D i H' => H D = none ∧ Gr H H' ∧ H' D = some (.lst (((xs.take i).filter f).map e))) (fun D hD => ⟨hD, gr_new hD, upd_same⟩) (fun D i H' _ p => sql_gr p.2.1 hx) ?_ ?_
  · intro D i x H' hi ⟨p1, p2, p3⟩
    have hm : x ∈ xs := List.mem_of_getElem? hi
    refine ⟨hw x, ht x H' hm p2 _ fun H3 g3 => ?_⟩
    have tf := take_filter f hi
    cases c : f x with
    | true =>
      rw [if_pos rfl]
      refine he x H3 hm c (p2.tr g3) _ fun H4 g4 => ⟨_, g4 _ _ (g3 _ _ p3), ?_, p1, gr_mut ((p2.tr g3).tr g4) p1, ?_⟩
      · have h1 := List.length_filter_le f (xs.take i)
        rw [List.length_take] at h1
        rw [show PySem.sizeLine = 16777216 from by decide, List.length_map]
        omega
      · rw [upd_same, tf, if_pos c, List.map_append]
        rfl
    | false =>
      rw [if_neg Bool.false_ne_true]
      refine ⟨p1, p2.tr g3, ?_⟩
      rw [tf, c, if_neg Bool.false_ne_true, List.append_nil]
      exact g3 _ _ p3
  · intro D H' ⟨p1, p2, p3⟩
    rw [List.take_length] at p3
    exact q D H' p1 p2 p3
theorem fin_lcG {n : Nat} {vs : List Nat} (e : Nat → V) (hz : n ≤ 100000) (hw : ∀ x, wipe ((wipe σ vs).set j (some x)) vs = wipe σ vs)
    (he : ∀ (i : Nat) H', i < n → Gr H H' → ∀ R : VK, (∀ H2, Gr H' H2 → R (e i) H2) → te ((wipe σ vs).set j (some (.int (i : Int)))) H' R)
    (q : ∀ D H', H D = none → Gr H H' → H' D = some (.lst ((List.range n).map e)) → Q (.ref D) H') : ∃ k : Int, [V.int (n : Int)] = [.int k] ∧ -(2 ^ 62) ≤ k ∧ k < 2 ^ 62 ∧ LcQ (Itr 0 k.toNat) (gName j) tYes te vs σ H Q := by
  refine fin_lcR1 (by omega) (fun D i H' => H D = none ∧ Gr H H' ∧ H' D = some (.lst ((List.range i).map e))) (fun D hD => ⟨hD, gr_new hD, upd_same⟩) ?_ ?_
  · intro D i H' hi ⟨p1, p2, p3⟩
    refine ⟨hw _, ?_⟩
    refine x_yes ?_
    rw [if_pos rfl]
    refine he i H' hi p2 _ fun H4 g4 => ⟨_, g4 _ _ p3, ?_, p1, gr_mut (p2.tr g4) p1, ?_⟩
    · rw [show PySem.sizeLine = 16777216 from by decide, List.length_map, List.length_range]
      omega
    · rw [upd_same, List.range_succ, List.map_append]
      rfl
  · intro D H' ⟨p1, p2, p3⟩
    exact q D H' p1 p2 p3
end
end Ap

namespace Ap
open PySem PySem.Spec PyProof.Rows L2
/-! the same with the written part by its name -/
section
variable {X : Cx} (K : PySem.W.Frag)
theorem k_ixL (h : X.K = K := by rfl) : IxR X (rIxL K) := by subst h; exact ix_list
theorem k_ixT (h : X.K = K := by rfl) : IxR X (rIxT K) := by subst h; exact ix_tup
theorem k_inS (h : X.K = K := by rfl) : OpR X (compareOp .In) (rIn K false) := by subst h; exact op_in_seq
theorem k_ninS (h : X.K = K := by rfl) : OpR X (compareOp .NotIn) (rIn K true) := by subst h; exact op_notIn_seq
theorem k_len (h : X.K = K := by rfl) : CallR X (.builtin "len") (rcLen K) := by subst h; exact cc_len
theorem k_list (h : X.K = K := by rfl) : CallR X (.type "list") (rcList K) := by subst h; exact cc_list
theorem k_tup (h : X.K = K := by rfl) : CallR X (.type "tuple") (rcTup K) := by subst h; exact cc_tup
theorem k_slL (h : X.K = K := by rfl) : SlR X (rSlL K) := by subst h; exact sl_list
theorem k_slT (h : X.K = K := by rfl) : SlR X (rSlT K) := by subst h; exact sl_tup
theorem k_catT (h : X.K = K := by rfl) : OpR X (binaryOp .Add) (rCatT K) := by subst h; exact op_catT
theorem k_eqD (hu : X.A.units + 64 < cLine) (h : X.K = K := by rfl) : OpR X (compareOp .Eq) (rEqD K) := by subst h; exact op_eqD hu
theorem k_neD (hu : X.A.units + 64 < cLine) (h : X.K = K := by rfl) : OpR X (compareOp .NotEq) (rNeD K) := by subst h; exact op_neD hu
theorem k_sum (hc : X.calm = true) (h : X.K = K := by rfl) : CallR X (.builtin "sum") (rSum K) := by subst h; exact cr_sum hc
theorem k_all (hc : X.calm = true) (h : X.K = K := by rfl) : CallR X (.builtin "all") (rAll K) := by subst h; exact cr_all hc
theorem k_any (hc : X.calm = true) (h : X.K = K := by rfl) : CallR X (.builtin "any") (rAny K) := by subst h; exact cr_any hc
theorem k_max (hc : X.calm = true) (h : X.K = K := by rfl) : CallR X (.builtin "max") (rMax K) := by subst h; exact cr_max hc
theorem k_min (hc : X.calm = true) (h : X.K = K := by rfl) : CallR X (.builtin "min") (rMin K) := by subst h; exact cr_min hc
theorem k_sortS (h : X.K = K := by rfl) : CallR X (.builtin "sorted") (rSortedS K) := by subst h; exact cr_sortedS
theorem k_sorted (h : X.K = K := by rfl) : CallR X (.builtin "sorted") (rSorted K) := by subst h; exact cr_sorted
theorem k_pil {tg l : Expr} {tl : TE} (hl : PE X l tl) (h : X.K = K := by rfl) : PI X tg l (iList K tl) := by subst h; exact pi_list hl
theorem k_pit {tg l : Expr} {tl : TE} (hl : PE X l tl) (h : X.K = K := by rfl) : PI X tg l (iTup K tl) := by subst h; exact pi_tup hl
end
end Ap
namespace Ap
open PySem PySem.Spec PyProof.Rows L2
theorem pr_get {α β : Type} {F : α → β → Prop} : ∀ {xs : List α} {ys : List β} {i : Nat} {x : α}, Paired F xs ys → xs[i]? = some x → ∃ y, ys[i]? = some y ∧ F x y
  | _, _, _, _, .nil, h => by simp at h
  | _, _, 0, _, .cons h _, e => ⟨_, rfl, by simp at e; rw [← e]; exact h⟩
  | _, _, i + 1, _, .cons _ t, e => by
    obtain ⟨y, h1, h2⟩ := pr_get (i := i) t (by simpa using e)
    exact ⟨y, by simpa using h1, h2⟩
theorem pr_len {α β : Type} {F : α → β → Prop} : ∀ {xs : List α} {ys : List β}, Paired F xs ys → xs.length = ys.length
  | _, _, .nil => rfl
  | _, _, .cons _ t => by rw [List.length_cons, List.length_cons, pr_len t]
theorem upd_id {H : Hp} {a : Addr} {o : HO} (h : H a = some o) : upd H a o = H := by
  funext b
  unfold upd
  by_cases e : b = a
  · rw [if_pos e, e, h]
  · rw [if_neg e]
section
variable {K : PySem.W.Frag} {σ : L2.St} {H : Hp} {Q : VK} {te : TE} {j : Nat}
theorem fin_lcP {β : Type} {F : V → β → Prop} {a : Addr} {xs : List V} {ys : List β} {vs : List Nat} (pr : Paired F xs ys) (e : β → V) (hx : SqL K H a xs) (hz : xs.length ≤ 100000) (hw : ∀ x, wipe ((wipe σ vs).set j (some x)) vs = wipe σ vs)
    (he : ∀ x y H', F x y → y ∈ ys → Gr H H' → ∀ R : VK, (∀ H2, Gr H' H2 → R (e y) H2) → te ((wipe σ vs).set j (some x)) H' R)
    (q : ∀ D H', H D = none → Gr H H' → H' D = some (.lst (ys.map e)) → Q (.ref D) H') : ∃ a', V.ref a = .ref a' ∧ (∃ xs, SqL K H a' xs) ∧ LcQ (Itl K a') (gName j) tYes te vs σ H Q := by
  refine fin_lcL hx (fun D i H' => H D = none ∧ Gr H H' ∧ H' D = some (.lst ((ys.take i).map e))) (fun D hD => ⟨hD, gr_new hD, upd_same⟩) (fun D i H' _ p => sql_gr p.2.1 hx) ?_ ?_
  · intro D i x H' hi ⟨p1, p2, p3⟩
    obtain ⟨y, hy, hf⟩ := pr_get pr hi
    refine ⟨hw _, ?_⟩
    refine x_yes ?_
    rw [if_pos rfl]
    refine he x y H' hf (List.mem_of_getElem? hy) p2 _ fun H4 g4 => ⟨_, g4 _ _ p3, ?_, p1, gr_mut (p2.tr g4) p1, ?_⟩
    · have h1 := (List.getElem?_eq_some_iff.mp hi).1
      rw [show PySem.sizeLine = 16777216 from by decide, List.length_map, List.length_take]
      omega
    · rw [upd_same, List.take_succ, hy, Option.toList_some, List.map_append]
      rfl
  · intro D H' ⟨p1, p2, p3⟩
    rw [pr_len pr, List.take_length] at p3
    exact q D H' p1 p2 p3
end
end Ap
namespace Ap
open PySem PySem.Spec PyProof.Rows L2
/-! isinstance; xs[::-1] -/
theorem k_isi {X : Cx} (K : PySem.W.Frag) (h : X.K = K := by rfl) : CallR X (.builtin "isinstance") (rIsi K) := by subst h; exact call_isi
theorem x_isi {K : PySem.W.Frag} {H : Hp} {Q : VK} {x : V} {a b : String} {r : Bool} (ty : TyX K H x (.type a)) (e : kitB a b = some r) (q : Q (.bl r) H) : rIsi K [x, .ty b] H Q := ⟨x, .ty b, _, _, r, rfl, .ty b, ty, kit_ty e, q⟩
theorem tx_lst {K : PySem.W.Frag} {H : Hp} {a : Addr} {xs : List V} (h : H a = some (.lst xs)) : TyX K H (.ref a) (.type "list") := .base (.lst h)
theorem tx_tup {K : PySem.W.Frag} {H : Hp} {a : Addr} {xs : List V} (h : H a = some (.tup xs)) : TyX K H (.ref a) (.type "tuple") := .base (.tup h)
theorem tx_dK {K : PySem.W.Frag} {H : Hp} {a : Addr} {xs : List (Key × V)} (h : H a = some (.dK xs)) : TyX K H (.ref a) (.type "dict") := .base (.dK h)
theorem tx_int {K : PySem.W.Frag} {H : Hp} {i : Int} : TyX K H (.int i) (.type "int") := .base (.int i)
theorem tx_str {K : PySem.W.Frag} {H : Hp} {i : Str} : TyX K H (.str i) (.type "str") := .base (.str i)
theorem tx_bl {K : PySem.W.Frag} {H : Hp} {i : Bool} : TyX K H (.bl i) (.type "bool") := .base (.bl i)
theorem tx_non {K : PySem.W.Frag} {H : Hp} : TyX K H .non (.type "NoneType") := .base .non
theorem k_rev {X : Cx} (K : PySem.W.Frag) {e : Expr} {te : TE} {k : Nat} {p1 p2 p3 pos : Pos} (he : PE X e te) (h : X.K = K := by rfl) : PE X (.Subscript e (.Slice none none (some (.UnaryOp .USub (.Constant (.int 1) k p1) p2)) p3) pos) (tRevL K te) := by subst h; exact pe_revL he
def qRev (K : PySem.W.Frag) (x : V) (H : Hp) (Q : VK) : Prop := ∃ a xs, x = .ref a ∧ SqL K H a xs ∧ ∀ p, H p = none → Q (.ref p) (upd H p (.lst xs.reverse))
theorem x_revT {K : PySem.W.Frag} {te : TE} {σ : L2.St} {H : Hp} {Q : VK} (q : te σ H fun x H1 => qRev K x H1 Q) : tRevL K te σ H Q := q
theorem x_rev {K : PySem.W.Frag} {H : Hp} {Q : VK} {a : Addr} {xs : List V} (h : SqL K H a xs) (q : ∀ p, H p = none → Q (.ref p) (upd H p (.lst xs.reverse))) : qRev K (.ref a) H Q := ⟨a, xs, rfl, h, q⟩
end Ap
namespace Ap
open PySem PySem.Spec PyProof.Rows L2
/-- if c: x = e, told by what x may hold behind it -/
theorem x_ifSet {b : Bool} {te : TE} {i : Nat} {D : Ends} {σ : L2.St} {H : Hp} (F : V → L2.St) (ty : V → Prop) (v0 : V) (h0 : σ = F v0) (t0 : ty v0) (hF : ∀ v, σ.set i (some v) = F v) (he : ∀ Qv : VK, (∀ v, ty v → Qv v H) → te σ H Qv)
    (q : ∀ v, ty v → D.nx (F v) H) : if b = true then tAsg te (gName i) D σ H else tNext D σ H := by
  refine x_ite (fun _ => ?_) (fun _ => ?_)
  · refine x_asg (he _ fun v hv => ?_)
    refine x_gn ?_
    rw [hF]
    exact q v hv
  · refine x_next ?_
    rw [h0]
    exact q v0 t0
end Ap

set_option Elab.async false
set_option linter.all false
set_option maxRecDepth 100000
set_option maxHeartbeats 2000000
/-! a def as its callers see it; tellings, values and heaps as data -/
namespace Ap
open PySem PySem.Spec PyProof.Rows L2
/-- the def x, called by its name, keeps sp -/
structure Df (P : Program) (w : World) (K : PySem.W.Frag) (mg : Str → Option Value) (base : Heap) (x : Str) (k : Nat) (ps : List Str) (sp : Sp) : Prop where
  ex : ∃ f fd, FnOk P w K mg base CX0 k f fd ps sp ∧ mg x = some (.ref f) ∧ PySem.W.keepIn K (.ref f) = true ∧ Binds K fd ps []
def tUse (sp : Sp) (t : TA) : TE := fun σ H Q => t σ H fun vs H1 => sp vs H1 Q E0
theorem pe_df {X : Cx} {x : Str} {k : Nat} {ps : List Str} {sp : Sp} {e : Expr} {es : List Expr} {t : TA} {p pos : Pos} (D : Df X.prog X.w X.K X.mg X.base x k ps sp) (hr : Room k X.A) (ha : PA X (e :: es) t) (hg : Gl X x := by rfl)
    (hdb : (x == ("__debug__" : Str)) = false := by decide) (he : starEach (e :: es) X.env = (false, eval e X.env) :: starEach es X.env := by rfl) (hpl : (backTo pos (starEach es X.env)).any (·.1) = false := by rfl) :
    PE X (.Call (.Name x p) (e :: es) [] pos) (tUse sp t) := by
  obtain ⟨f, fd, F, hm, kp, b⟩ := D.ex
  have h := pe_call (p := p) (E := E0) F hr hg hm kp b .nil pass0 ha hdb he hpl
  have e2 : tCall sp [] E0 t = tUse sp t := by
    funext σ H Q
    show t σ H (fun vs H1 => sp (vs ++ []) H1 Q E0) = _
    simp only [List.append_nil]
    rfl
  rw [← e2]
  exact h
theorem x_use {sp : Sp} {t : TA} {σ : L2.St} {H : Hp} {Q : VK} (q : t σ H fun vs H1 => sp vs H1 Q E0) : tUse sp t σ H Q := q
/-! rows of texts, tellings -/
def RowAt (H : Hp) (v : V) (ws : List Str) : Prop := ∃ t, v = .ref t ∧ H t = some (.tup (ws.map V.str))
theorem RowAt.gr {H H' : Hp} {v : V} {ws : List Str} (e : Gr H H') (h : RowAt H v ws) : RowAt H' v ws := by
  obtain ⟨t, h1, h2⟩ := h
  exact ⟨t, h1, e t _ h2⟩
theorem paired_imp {α β : Type} {F G : α → β → Prop} : ∀ {xs : List α} {ys : List β}, Paired F xs ys → (∀ x y, F x y → G x y) → Paired G xs ys
  | _, _, .nil, _ => .nil
  | _, _, .cons h t, f => .cons (f _ _ h) (paired_imp t f)
theorem paired_mem {α β : Type} {F G : α → β → Prop} : ∀ {xs : List α} {ys : List β}, Paired F xs ys → (∀ x y, x ∈ xs → F x y → G x y) → Paired G xs ys
  | _, _, .nil, _ => .nil
  | _, _, .cons h t, f => .cons (f _ _ List.mem_cons_self h) (paired_mem t fun x y hx k => f x y (List.mem_cons_of_mem _ hx) k)
theorem paired_app {α β : Type} {F : α → β → Prop} : ∀ {xs xs' : List α} {ys ys' : List β}, Paired F xs ys → Paired F xs' ys' → Paired F (xs ++ xs') (ys ++ ys')
  | _, _, _, _, .nil, k => k
  | _, _, _, _, .cons h t, k => .cons h (paired_app t k)
theorem paired_get {α β : Type} {F : α → β → Prop} : ∀ {xs : List α} {ys : List β} {i : Nat} {x : α}, Paired F xs ys → xs[i]? = some x → ∃ y, ys[i]? = some y ∧ F x y
  | _, _, _, _, .nil, h => by simp at h
  | _, _, 0, _, .cons h _, e => ⟨_, rfl, by simp at e; rw [← e]; exact h⟩
  | _, _, i + 1, _, .cons _ t, e => by
    obtain ⟨y, h1, h2⟩ := paired_get (i := i) t (by simpa using e)
    exact ⟨y, by simpa using h1, h2⟩
theorem paired_len {α β : Type} {F : α → β → Prop} : ∀ {xs : List α} {ys : List β}, Paired F xs ys → xs.length = ys.length
  | _, _, .nil => rfl
  | _, _, .cons _ t => by rw [List.length_cons, List.length_cons, paired_len t]
abbrev RowsAt (H : Hp) : List V → List (List Str) → Prop := Paired (RowAt H)
/-- the telling at t: facts and parts, each as its words -/
structure TellAt (H : Hp) (t : Addr) (fs ps : List (List Str)) : Prop where
  ex : ∃ fl pl fv pv, H t = some (.tup [.ref fl, .ref pl]) ∧ H fl = some (.lst fv) ∧ H pl = some (.lst pv) ∧ RowsAt H fv fs ∧ RowsAt H pv ps
theorem TellAt.gr {H H' : Hp} {t : Addr} {fs ps : List (List Str)} (e : Gr H H') (h : TellAt H t fs ps) : TellAt H' t fs ps := by
  obtain ⟨fl, pl, fv, pv, h1, h2, h3, h4, h5⟩ := h.ex
  exact ⟨fl, pl, fv, pv, e _ _ h1, e _ _ h2, e _ _ h3, paired_imp h4 fun _ _ => RowAt.gr e, paired_imp h5 fun _ _ => RowAt.gr e⟩
/-- values of names -/
def ValsAt (H : Hp) (v : Addr) (vals : List (Str × Int)) : Prop := H v = some (.dK (vals.map fun p => (Sum.inr p.1, V.int p.2)))
def lk (vals : List (Str × Int)) (n : Str) : Option Int := (vals.find? fun p => decide (p.1 = n)).map (·.2)
theorem valV_vals (vals : List (Str × Int)) (n : Str) : valV (vals.map fun p => ((Sum.inr p.1 : Key), V.int p.2)) (.inr n) = (lk vals n).map V.int := by
  induction vals with
  | nil => rfl
  | cons p r ih =>
    unfold valV lk at *
    rw [List.map_cons, List.find?_cons, List.find?_cons]
    have e : decide ((Sum.inr p.1 : Key) = Sum.inr n) = decide (p.1 = n) := key_rr p.1 n
    rw [e]
    cases decide (p.1 = n) with
    | true => rfl
    | false => exact ih
/-- the value of a name, or of nil -/
def vo (vals : List (Str × Int)) (n : Str) : Int := if n = ("nil" : Str) then 0 else (lk vals n).getD 0
/-- it has one -/
def Has (vals : List (Str × Int)) (n : Str) : Prop := n = ("nil" : Str) ∨ (lk vals n).isSome = true
/-- cells -/
abbrev Cells := List (Int × Int × Int)
def HeapAt (H : Hp) (h : Addr) (hs : Cells) : Prop := ∃ kvs : List (Key × V), H h = some (.dK kvs) ∧ Paired (fun kv (c : Int × Int × Int) => kv.1 = .inl c.1 ∧ ∃ t, kv.2 = .ref t ∧ H t = some (.tup [.int c.2.1, .int c.2.2])) kvs hs
theorem HeapAt.gr {H H' : Hp} {h : Addr} {hs : Cells} (e : Gr H H') (x : HeapAt H h hs) : HeapAt H' h hs := by
  obtain ⟨kvs, h1, h2⟩ := x
  exact ⟨kvs, e _ _ h1, paired_imp h2 fun _ _ ⟨a, t, b, c⟩ => ⟨a, t, b, e _ _ c⟩⟩
/-- the cell at an address -/
def cl (hs : Cells) (a : Int) : Option (Int × Int) := (hs.find? fun c => decide (c.1 = a)).map (·.2)
theorem valV_cells {H : Hp} : ∀ {kvs : List (Key × V)} {hs : Cells}, Paired (fun kv (c : Int × Int × Int) => kv.1 = .inl c.1 ∧ ∃ t, kv.2 = .ref t ∧ H t = some (.tup [.int c.2.1, .int c.2.2])) kvs hs → ∀ a : Int,
    (cl hs a = none ∧ valV kvs (.inl a) = none) ∨ ∃ f s t, cl hs a = some (f, s) ∧ valV kvs (.inl a) = some (.ref t) ∧ H t = some (.tup [.int f, .int s])
  | _, _, .nil, a => .inl ⟨rfl, rfl⟩
  | kv :: kvs, c :: hs, .cons ⟨h1, t, h2, h3⟩ r, a => by
    unfold cl valV
    rw [List.find?_cons, List.find?_cons, h1]
    have e : decide ((Sum.inl c.1 : Key) = Sum.inl a) = decide (c.1 = a) := by
      rw [key_ll]
      by_cases z : c.1 = a
      · rw [decide_eq_true z]; exact beq_iff_eq.mpr z
      · rw [decide_eq_false z]; exact beq_eq_false_iff_ne.mpr z
    rw [e]
    cases decide (c.1 = a) with
    | true => exact .inr ⟨c.2.1, c.2.2, t, rfl, by rw [← h2]; rfl, h3⟩
    | false => exact valV_cells r a
theorem cl_len {H : Hp} {kvs : List (Key × V)} {hs : Cells} (p : Paired (fun kv (c : Int × Int × Int) => kv.1 = .inl c.1 ∧ ∃ t, kv.2 = .ref t ∧ H t = some (.tup [.int c.2.1, .int c.2.2])) kvs hs) : kvs.length = hs.length := paired_len p
/-! lists of numbers as data -/
theorem lay_ints : ∀ zs : List Int, PyData.canLayAll0 (zs.map PyData.int) = true
  | [] => rfl
  | _ :: r => by
    show (PyData.canLay0 _ && PyData.canLayAll0 (r.map PyData.int)) = true
    rw [lay_ints r]
    rfl
theorem depth_ints : ∀ zs : List Int, PyData.depthAll (zs.map PyData.int) ≤ 1
  | [] => by simp [PyData.depthAll]
  | _ :: r => by
    rw [List.map_cons]
    simp only [PyData.depthAll, PyData.depth]
    exact Nat.max_le.mpr ⟨by omega, depth_ints r⟩
theorem shaped_ints (zs : List Int) : SeqAt.shaped (.list (zs.map PyData.int)) = true := by
  unfold SeqAt.shaped
  have h := depth_ints zs
  have d : PyData.depth (.list (zs.map PyData.int)) ≤ 64 := by
    simp only [PyData.depth]
    omega
  rw [decide_eq_true d]
  show (PyData.canLayAll0 _ && true) = true
  rw [lay_ints]
  rfl
theorem eqv_ints : ∀ xs ys : List Int, PyData.eqvAll (xs.map PyData.int) (ys.map PyData.int) = decide (xs = ys)
  | [], [] => rfl
  | [], _ :: _ => rfl
  | _ :: _, [] => rfl
  | x :: xs, y :: ys => by
    show (PyData.eqv (.int x) (.int y) && PyData.eqvAll (xs.map PyData.int) (ys.map PyData.int)) = _
    rw [eqv_ints xs ys]
    have e : PyData.eqv (.int x) (.int y) = (x == y) := by simp only [PyData.eqv]
    rw [e]
    by_cases h : x = y
    · subst h
      rw [beq_self_eq_true, Bool.true_and]
      by_cases h2 : xs = ys
      · rw [decide_eq_true h2, decide_eq_true (by rw [h2])]
      · rw [decide_eq_false h2, decide_eq_false (fun z => h2 (List.cons.inj z).2)]
    · rw [beq_eq_false_iff_ne.mpr h, Bool.false_and, decide_eq_false (fun z => h (List.cons.inj z).1)]
theorem dpa_ints {K : PySem.W.Frag} {H : Hp} : ∀ zs : List Int, DpAll K H (zs.map V.int) (zs.map PyData.int)
  | [] => .nil
  | _ :: r => .cons (.int _) (dpa_ints r)
theorem dp_ints {K : PySem.W.Frag} {H : Hp} {a : Addr} {zs : List Int} (h : H a = some (.lst (zs.map V.int))) : Dp K H (.ref a) (.list (zs.map PyData.int)) := .lst (sql_of h) (dpa_ints zs)
/-- two lists of numbers compared -/
theorem x_eqI {K : PySem.W.Frag} {H : Hp} {Q : VK} {a b : Addr} {xs ys : List Int} (h1 : H a = some (.lst (xs.map V.int))) (h2 : H b = some (.lst (ys.map V.int))) (q : Q (.bl (decide (xs = ys))) H) : rEqD K (.ref a) (.ref b) H Q :=
  x_eqD (dp_ints h1) (dp_ints h2) (shaped_ints _) (shaped_ints _) (by
    have e : PyData.eqv (.list (xs.map PyData.int)) (.list (ys.map PyData.int)) = decide (xs = ys) := by rw [← eqv_ints]; simp only [PyData.eqv]
    rw [e]
    exact q)
theorem x_neI {K : PySem.W.Frag} {H : Hp} {Q : VK} {a b : Addr} {xs ys : List Int} (h1 : H a = some (.lst (xs.map V.int))) (h2 : H b = some (.lst (ys.map V.int))) (q : Q (.bl (!decide (xs = ys))) H) : rNeD K (.ref a) (.ref b) H Q :=
  x_neD (dp_ints h1) (dp_ints h2) (shaped_ints _) (shaped_ints _) (by
    have e : PyData.eqv (.list (xs.map PyData.int)) (.list (ys.map PyData.int)) = decide (xs = ys) := by rw [← eqv_ints]; simp only [PyData.eqv]
    rw [e]
    exact q)
end Ap

set_option Elab.async false
set_option linter.all false
set_option maxRecDepth 100000
set_option maxHeartbeats 2000000
/-! != of nested lists and dicts that are equal -/
namespace PySem.SeqAt
open AutoSeq1 (wpAny_loadPart')
open MeetsSeq MeetsSeq2 MeetsSeq3 SeqRoads2
section
variable {P0 : Program} {W0 : World}
theorem nq_loop (a b : Addr) (us ws : Array Value) (m1 m2 : Nat) (d1 d2 : Option Addr) (t1 t2 : Array (Option Value)) (es : us.size = ws.size) (k : Nat) :
    ∀ i : Nat, us.size - i = k → MeetsIn P0 W0 (Builtin.«list.__eq__.loop» ⟨[.ref a, .ref b, rawInt i, rawInt 3], []⟩)
      (fun A R s => s.heap.get? a = some { cls := .type "list", dict := d1, data := .seq us m1, slots := t1 } ∧ s.heap.get? b = some { cls := .type "list", dict := d2, data := .seq ws m2, slots := t2 } ∧
        (∀ j (l1 : j < us.size) (l2 : j < ws.size), EqP P0 W0 A.in1 s us[j] ws[j] true) ∧ R (.ok (.ret (.bool false))) s) := by
  induction k with
  | zero =>
    intro i hk A R ⟨hp, g, d, tk, os⟩ ⟨ga, gb, he, h⟩
    wp_walk using wpAny_loadPart' ga, wpAny_loadPart' gb
    have q1 : us[((i : Nat) : Int).toNat]? = none := by simp; omega
    have q2 : ws[((i : Nat) : Int).toNat]? = none := by simp; omega
    rw [q1, q2]
    wp_walk using wpAny_loadPart' ga, wpAny_loadPart' gb
    show R (.ok (.ret (.bool (us.size != ws.size)))) _
    rw [show (us.size != ws.size) = false by rw [es]; simp]
    exact h
  | succ k ih =>
    intro i hk A R ⟨hp, g, d, tk, os⟩ ⟨ga, gb, he, h⟩
    wp_walk using wpAny_loadPart' ga, wpAny_loadPart' gb
    have l1 : i < us.size := by omega
    have l2 : i < ws.size := by omega
    rw [show us[((i : Nat) : Int).toNat]? = some us[i] by simp [l1], show ws[((i : Nat) : Int).toNat]? = some ws[i] by simp [l2]]
    refine wpAny_bind (he i l1 l2 _ _ ?_)
    wp_walk
    rw [show ((i : Int) + 1) = ((i + 1 : Nat) : Int) by push_cast; rfl]
    exact ⟨plainId_quiet plain_eq_loop _, codeAny_builtin entry_eq_loop (by rw [Around.under_plainId plain_eq_loop _]; exact ih (i + 1) (by omega) A R _ ⟨ga, gb, he, h⟩)⟩
theorem nq_list (a b : Addr) (us ws : Array Value) (m1 m2 : Nat) (d1 d2 : Option Addr) (t1 t2 : Array (Option Value)) (es : us.size = ws.size) :
    MeetsIn P0 W0 (Builtin.«list.__ne__» ⟨[.ref a, .ref b], []⟩)
      (fun A R s => s.heap.get? a = some { cls := .type "list", dict := d1, data := .seq us m1, slots := t1 } ∧ s.heap.get? b = some { cls := .type "list", dict := d2, data := .seq ws m2, slots := t2 } ∧
        (∀ j (l1 : j < us.size) (l2 : j < ws.size), EqP P0 W0 A.in1 s us[j] ws[j] true) ∧ R (.ok (.ret (.bool false))) s) := by
  intro A R ⟨hp, g, d, tk, os⟩ ⟨ga, gb, he, h⟩
  have f3 := AutoSeq1.sub_list_list
  have nes : ¬ (us.size != ws.size) = true := by simp [es]
  wp_walk using wpAny_loadPart' ga, wpAny_loadPart' gb
  exact ⟨plainId_quiet plain_eq_loop _, codeAny_builtin entry_eq_loop (by rw [Around.under_plainId plain_eq_loop _]; exact nq_loop a b us ws m1 m2 d1 d2 t1 t2 es _ 0 rfl A R _ ⟨ga, gb, he, h⟩)⟩
theorem nq_rc {A : Around} {s : Shared} {a b : Addr} {us ws : Array Value} (la : s.heap.IsList a us) (lb : s.heap.IsList b ws) (es : us.size = ws.size) (hu : A.units < cLine)
    (he : ∀ j (l1 : j < us.size) (l2 : j < ws.size), EqP P0 W0 A.in1 s us[j] ws[j] true) (E Q : Value → Shared → Prop) (h : Q (.bool false) s) : wpAny (model P0 W0) A (richCompare .NotEq (.ref a) (.ref b)) Q E s := by
  obtain ⟨⟨c1, d1, e1, t1⟩, ga, hc1, m1, hd1⟩ := id la
  obtain ⟨⟨c2, d2, e2, t2⟩, gb, hc2, m2, hd2⟩ := id lb
  simp only at hc1 hd1 hc2 hd2
  subst hc1 hd1 hc2 hd2
  have ta : s.TypeIs (.ref a) "list" := ⟨_, ga, rfl⟩
  have tb : s.TypeIs (.ref b) "list" := ⟨_, gb, rfl⟩
  exact wpAny_richCompare_same_room (op := .NotEq) ta tb F.slot_list_ne (call_meetsIn F.slot_list_ne ta F.entry_list_ne (F.args_list_ne_2 _ _) (nq_list a b us ws m1 m2 d1 d2 t1 t2 es)
    ⟨ga, gb, he, show Value.bool false ≠ Value.notImplemented ∧ Q (.bool false) s from ⟨(fun x => nomatch x), h⟩⟩) hu
end
end PySem.SeqAt
namespace Ap
open PySem PySem.Spec PyProof.Rows L2
/-- a != b, two lists of equal things -/
def rNeV (K : PySem.W.Frag) : R2 := fun x y H Q => ∃ n a b xs ys, n ≤ 60 ∧ x = .ref a ∧ y = .ref b ∧ SqL K H a xs ∧ SqL K H b ys ∧ Paired (EqV K H n) xs ys ∧ Q (.bl false) H
theorem k_neV {X : Cx} (K : PySem.W.Frag) (hu : X.A.units + 64 < cLine) (h : X.K = K := by rfl) : OpR X (compareOp .NotEq) (rNeV K) := by
  subst h
  intro pins s σ H x y v u Q I rx ry ⟨n, a, b, xs, ys, hn, e1, e2, ha, hb, hp, q⟩
  subst e1 e2
  cases (show v = Value.ref a from rx)
  cases (show u = Value.ref b from ry)
  obtain ⟨us, r1, p1, _⟩ := I.list ha
  obtain ⟨ws, r2, p2, _⟩ := I.list hb
  have hsz : us.toArray.size = ws.toArray.size := by rw [List.size_toArray, List.size_toArray, ← r1.length, ← r2.length]; exact Paired.length hp
  refine SeqAt.nq_rc p1.isList p2.isList hsz (by omega) (fun j l1 l2 => ?_) _ _ ⟨.bl false, H, I, rfl, q⟩
  have k := items_run (eqV_run I n X.A.in1 (by show X.A.units + 1 + n < cLine; omega)) hp r1 r2 j (by simpa using l1) (by simpa using l2)
  simpa using k
theorem x_neV {K : PySem.W.Frag} {H : Hp} {Q : VK} {a b : Addr} {xs ys : List V} (n : Nat) (hn : n ≤ 60) (ha : SqL K H a xs) (hb : SqL K H b ys) (hp : Paired (EqV K H n) xs ys) (q : Q (.bl false) H) : rNeV K (.ref a) (.ref b) H Q :=
  ⟨n, a, b, xs, ys, hn, rfl, rfl, ha, hb, hp, q⟩
theorem val_own {ks : List (Key × V)} (nd : (ks.map (·.1)).Nodup) {p : Key × V} (hp : p ∈ ks) : valV ks p.1 = some p.2 := by
  induction ks with
  | nil => cases hp
  | cons q r ih =>
    unfold valV
    rw [List.map_cons, List.nodup_cons] at nd
    rw [List.find?_cons]
    rcases List.mem_cons.mp hp with e | e
    · rw [e, decide_eq_true rfl]; rfl
    · rw [decide_eq_false fun z => nd.1 (List.mem_map.mpr ⟨p, e, z.symm⟩)]
      exact ih nd.2 e
/-- a != b, two dicts of equal things -/
def rNeK (K : PySem.W.Frag) : R2 := fun x y H Q => ∃ n a b ks ls, n ≤ 60 ∧ x = .ref a ∧ y = .ref b ∧ H a = some (.dK ks) ∧ H b = some (.dK ls) ∧ ks.length = ls.length ∧ (∀ p ∈ ks, ∃ u, valV ls p.1 = some u ∧ EqV K H n p.2 u) ∧ Q (.bl false) H
theorem k_neK {X : Cx} (K : PySem.W.Frag) (hu : X.A.units + 64 < cLine) (h : X.K = K := by rfl) : OpR X (compareOp .NotEq) (rNeK K) := by
  subst h
  intro pins s σ H x y v u Q I rx ry ⟨n, a, b, ks, ls, hn, e1, e2, ha, hb, hl, hp, q⟩
  subst e1 e2
  cases (show v = Value.ref a from rx)
  cases (show u = Value.ref b from ry)
  obtain ⟨_, ya, va, ra, da⟩ := (show ObjOk X.prog X.w H s.heap a (.dK ks) from I.hok a _ ha)
  obtain ⟨_, yb, vb, rb, db⟩ := (show ObjOk X.prog X.w H s.heap b (.dK ls) from I.hok b _ hb)
  have el : (va.length == vb.length && true) = true := by rw [← ra.length, ← rb.length, hl]; simp
  have ta := da.typeIs
  have tb := db.typeIs
  refine PySem.wpAny_richCompare_same_room (op := .NotEq) ta tb PySem.F.slot_dict_ne (PySem.wpAny_call_entry PySem.F.slot_dict_ne ta PySem.F.entry_dict_ne ?_ (PySem.F.args_dict_ne_2 _ _)) (by omega)
  show wpAny _ _ (Builtin.Dict.dictSlotArgs "__ne__" ⟨[.ref a, .ref b], []⟩ >>= _) _ _ s
  refine wpAny_bind ?_; unfold Builtin.Dict.dictSlotArgs
  refine wpAny_bind (wpAny_notOrdered_dict ta ?_); show wpAny _ _ (pure (Value.ref a, Value.ref b)) _ _ s
  refine wpAny_pure (wpAny_bind (wpAny_isInstance (T := "dict") tb PySem.F.sub_dict_dict ?_))
  simp only [Bool.not_true, if_false, Bool.false_eq_true]
  refine wpAny_bind (wpAny_pure (wpAny_bind (wpAny_pure (wpAny_bind (PySem.W.samePairsP (r := true) ya yb da db (fun _ => hits_run (eqV_run I n X.A.in1 (by show X.A.units + 1 + n < cLine; omega)) rb ra hp) ?_)))))
  rw [el]
  refine wpAny_pure ⟨_, rfl, fun z => (nomatch z), ?_⟩
  exact ⟨.bl false, H, I, rfl, q⟩
/-- a dict and its copy, compared -/
theorem x_neK {K : PySem.W.Frag} {H : Hp} {Q : VK} {a b : Addr} {ks : List (Key × V)} (n : Nat) (hn : n ≤ 60) (ha : H a = some (.dK ks)) (hb : H b = some (.dK ks)) (nd : (ks.map (·.1)).Nodup) (fl : ∀ p ∈ ks, EqV K H n p.2 p.2) (q : Q (.bl false) H) : rNeK K (.ref a) (.ref b) H Q :=
  ⟨n, a, b, ks, ks, hn, rfl, rfl, ha, hb, rfl, fun p hp => ⟨p.2, val_own nd hp, fl p hp⟩, q⟩
/-- a dict and its copy -/
theorem eqV_copy {K : PySem.W.Frag} {H : Hp} {n : Nat} {a b : Addr} {ks : List (Key × V)} (ha : H a = some (.dK ks)) (hb : H b = some (.dK ks)) (nd : (ks.map (·.1)).Nodup) (fl : ∀ p ∈ ks, EqV K H n p.2 p.2) : EqV K H (n + 1) (.ref a) (.ref b) := by
  refine .inr (.inr (.inr ⟨a, b, ks, ks, rfl, rfl, ha, hb, rfl, fun p hp => ⟨p.2, ?_, fl p hp⟩⟩))
  clear ha hb fl
  induction ks with
  | nil => cases hp
  | cons q r ih =>
    unfold valV
    rw [List.map_cons, List.nodup_cons] at nd
    rw [List.find?_cons]
    rcases List.mem_cons.mp hp with e | e
    · rw [e, decide_eq_true rfl]; rfl
    · rw [decide_eq_false fun z => nd.1 (List.mem_map.mpr ⟨p, e, z.symm⟩)]
      exact ih nd.2 e
theorem eqV_ref {K : PySem.W.Frag} {H : Hp} {n : Nat} {a : Addr} : EqV K H (n + 1) (.ref a) (.ref a) := .inr (.inl ⟨a, rfl, rfl⟩)
theorem eqV_flat {K : PySem.W.Frag} {H : Hp} {n : Nat} {x : V} (h : flatB x = true) : EqV K H (n + 1) x x := .inl ⟨rfl, h⟩
/-! items of lists, put and taken -/
theorem ixN_at {n : Nat} {i : Int} (h0 : 0 ≤ i) (h1 : i < n) : ixN n i = some i.toNat := by
  unfold ixN
  rw [if_pos h0, if_pos h1]
theorem x_gsub {to ti : TE} {t : TSet} {v : V} {σ : L2.St} {H : Hp} {Q : L2.St → Hp → Prop} (q : to σ H fun o H1 => ti σ H1 fun i H2 => t o i v H2 fun H3 => Q σ H3) : gSub to ti t v σ H Q := q
theorem x_setL {p : Addr} {xs : List V} {k : Int} {v : V} {H : Hp} {Q : Hp → Prop} (h : H p = some (.lst xs)) (h0 : 0 ≤ k) (h1 : k < xs.length) (q : Q (upd H p (.lst (xs.set k.toNat v)))) : rSetL (.ref p) (.int k) v H Q := ⟨p, xs, k, k.toNat, rfl, rfl, h, ixN_at h0 h1, q⟩
theorem x_popAt {l : Addr} {xs : List V} {k : Int} {y : V} {H : Hp} {Q : VK} (h : H l = some (.lst xs)) (h0 : 0 ≤ k) (h1 : k < xs.length) (hz : xs.length < 2 ^ 62) (g : xs[k.toNat]? = some y) (q : Q y (upd H l (.lst (xs.eraseIdx k.toNat)))) : rPopAt (.ref l) [.int k] H Q :=
  ⟨l, xs, k, k.toNat, y, rfl, rfl, h, by omega, by omega, (ixN_seq (ixN_at h0 h1)).1, g, q⟩
/-! d.get -/
theorem x_dget1 {td ty : TE} {σ : L2.St} {H : Hp} {Q : VK} (q : td σ H fun x H1 => ∃ a, x = .ref a ∧ IsD H1 a ∧ ty σ H1 fun y H2 => ∃ o, DGet H2 a y o ∧ Q (o.getD .non) H2) : tDGet1 td ty σ H Q := q
theorem x_dget2 {td ty tx : TE} {σ : L2.St} {H : Hp} {Q : VK} (q : td σ H fun x H1 => ∃ a, x = .ref a ∧ IsD H1 a ∧ ty σ H1 fun y H2 => tx σ H2 fun z H3 => ∃ o, DGet H3 a y o ∧ Q (o.getD z) H3) : tDGet2 td ty tx σ H Q := q
/-! dict displays -/
section
variable {σ : L2.St} {H : Hp} {Q : VK} {R : List (V × V) → Hp → Prop} {tk tv : TE} {r : List (TE × TE)}
theorem x_disp (q : ∀ p, H p = none → tPairs r σ (upd H p (.dK [])) fun ps H2 => H2 p = some (.dK []) ∧ ∃ kvs : List (Key × V), ps = kvs.map (fun kv => (kV kv.1, kv.2)) ∧ kvs.length ≤ 15 ∧ Q (.ref p) (upd H2 p (.dK (mergeK [] kvs)))) : tDisp r σ H Q := q
theorem x_pcons (q : tk σ H fun x H1 => tv σ H1 fun y H2 => tPairs r σ H2 fun ps H3 => R ((x, y) :: ps) H3) : tPairs ((tk, tv) :: r) σ H R := q
theorem x_pnil (q : R [] H) : tPairs [] σ H R := q
end
/-- two ways that meet again -/
theorem x_ifJ {b : Bool} {t1 t2 : TS} {D : Ends} {σ : L2.St} {H : Hp} (I : L2.St → Hp → Prop) (h1 : b = true → ∀ N : L2.St → Hp → Prop, (∀ σ' H', I σ' H' → N σ' H') → t1 { D with nx := N } σ H)
    (h2 : b = false → ∀ N : L2.St → Hp → Prop, (∀ σ' H', I σ' H' → N σ' H') → t2 { D with nx := N } σ H) (q : ∀ σ' H', I σ' H' → D.nx σ' H') : if b = true then t1 D σ H else t2 D σ H := by
  cases b with
  | true => rw [if_pos rfl]; exact h1 rfl D.nx q
  | false => rw [if_neg (fun z => nomatch z)]; exact h2 rfl D.nx q
theorem x_join {t : TS} {D : Ends} {σ : L2.St} {H : Hp} (I : L2.St → Hp → Prop) (h : ∀ N : L2.St → Hp → Prop, (∀ σ' H', I σ' H' → N σ' H') → t { D with nx := N } σ H) (q : ∀ σ' H', I σ' H' → D.nx σ' H') : t D σ H := h D.nx q
theorem keys_cells {H : Hp} : ∀ {kvs : List (Key × V)} {hs : Cells}, Paired (fun kv (c : Int × Int × Int) => kv.1 = .inl c.1 ∧ ∃ t, kv.2 = .ref t ∧ H t = some (.tup [.int c.2.1, .int c.2.2])) kvs hs → kvs.map (·.1) = (hs.map (·.1)).map (Sum.inl : Int → Key)
  | _, _, .nil => rfl
  | _, _, .cons h t => by rw [List.map_cons, List.map_cons, List.map_cons, keys_cells t, h.1]
theorem nd_inl : ∀ {l : List Int}, l.Nodup → (l.map (Sum.inl : Int → Key)).Nodup
  | [], _ => List.nodup_nil
  | a :: r, h => by
    obtain ⟨h1, h2⟩ := List.nodup_cons.mp h
    exact List.nodup_cons.mpr ⟨fun m => by obtain ⟨x, hx, e⟩ := List.mem_map.mp m; exact h1 (Sum.inl.inj e ▸ hx), nd_inl h2⟩
theorem cell_refs {H H' : Hp} {K : PySem.W.Frag} {n : Nat} {kvs : List (Key × V)} {hs : Cells} (p : Paired (fun kv (c : Int × Int × Int) => kv.1 = .inl c.1 ∧ ∃ t, kv.2 = .ref t ∧ H t = some (.tup [.int c.2.1, .int c.2.2])) kvs hs) : ∀ q ∈ kvs, EqV K H' (n + 1) q.2 q.2 := fun q hq => by
  obtain ⟨i, hi⟩ := List.getElem?_of_mem hq
  obtain ⟨c, _, _, t, e, _⟩ := paired_get p hi
  rw [e]
  exact eqV_ref
theorem shaped_refl {d : PyData} (h : SeqAt.shaped d = true) : PyData.eqv d d = true := SeqAt.eqv_refl d (by unfold SeqAt.shaped at h; exact ((Bool.and_eq_true _ _).mp h).1)
theorem merge2 {a b : Key} {x y : V} (h : a ≠ b) : mergeK [] [(a, x), (b, y)] = [(a, x), (b, y)] := by
  show putK (putK [] a x) b y = _
  rw [show putK [] a x = [(a, x)] from rfl, putK_new _ (by unfold valV; rw [List.find?_cons, decide_eq_false h]; rfl)]
  rfl
theorem cut_take (xs : List V) (n : Nat) (h : n ≤ xs.length) : cutV xs none (some (n : Int)) = xs.take n := by
  unfold cutV
  rw [HT.sIx_none, show HT.sIx xs.length xs.length (some (n : Int)) = min n xs.length from HT.sIx_nat _ _ n, Nat.min_eq_left h, List.drop_zero, Nat.sub_zero]
/-- a telling of one part, as data -/
theorem shaped_one {ws : List Str} (h : ws.all PyData.strOk = true) : SeqAt.shaped (.tuple [.list [], .list [.tuple (ws.map PyData.str)]]) = true := by
  have l : ∀ ws : List Str, ws.all PyData.strOk = true → PyData.canLayAll0 (ws.map PyData.str) = true := by
    intro ws
    induction ws with
    | nil => intro _; rfl
    | cons w r ih =>
      intro h
      rw [List.all_cons, Bool.and_eq_true] at h
      show (PyData.canLay0 (.str w) && PyData.canLayAll0 (r.map PyData.str)) = true
      rw [ih h.2]
      show (PyData.strOk w && true) = true
      rw [h.1]; rfl
  have d : ∀ ws : List Str, PyData.depthAll (ws.map PyData.str) ≤ 1 := by
    intro ws
    induction ws with
    | nil => simp [PyData.depthAll]
    | cons w r ih =>
      rw [List.map_cons]
      simp only [PyData.depthAll, PyData.depth]
      exact Nat.max_le.mpr ⟨by omega, ih⟩
  unfold SeqAt.shaped
  have d2 := d ws
  have dd : PyData.depth (.tuple [.list [], .list [.tuple (ws.map PyData.str)]]) ≤ 64 := by
    simp only [PyData.depth, PyData.depthAll]
    omega
  rw [decide_eq_true dd]
  simp only [PyData.canLay0, PyData.canLayAll0, l ws h, Bool.and_self]
theorem dp_one {K : PySem.W.Frag} {H : Hp} {t a b p : Addr} {ws : List Str} (h1 : H t = some (.tup [.ref a, .ref b])) (h2 : H a = some (.lst [])) (h3 : H b = some (.lst [.ref p])) (h4 : H p = some (.tup (ws.map V.str))) :
    Dp K H (.ref t) (.tuple [.list [], .list [.tuple (ws.map PyData.str)]]) := by
  have s : ∀ ws : List Str, DpAll K H (ws.map V.str) (ws.map PyData.str) := by
    intro ws
    induction ws with
    | nil => exact .nil
    | cons w r ih => exact .cons (.str w) ih
  exact .tup (sqt_of h1) (.cons (.lst (sql_of h2) .nil) (.cons (.lst (sql_of h3) (.cons (.tup (sqt_of h4) (s ws)) .nil)) .nil))
theorem cut_map (ns : List Int) (lo hi : Option Int) : ∃ cs : List Int, cutV (ns.map V.int) lo hi = cs.map V.int ∧ cs.length ≤ ns.length := by
  unfold cutV
  rw [← List.map_drop, ← List.map_take]
  exact ⟨_, rfl, by rw [List.length_take, List.length_drop]; omega⟩
theorem atI_refs {as : List Addr} {i : Int} (h0 : 0 ≤ i) (h1 : i < as.length) : ∃ r ∈ as, atI (as.map V.ref) i = some (.ref r) := by
  obtain ⟨n, rfl⟩ : ∃ n : Nat, i = (n : Int) := ⟨i.toNat, by omega⟩
  have h2 : n < as.length := by omega
  exact ⟨as[n], List.getElem_mem h2, atI_nat (by rw [List.getElem?_map, List.getElem?_eq_getElem h2]; rfl)⟩
theorem atI_intm {zs : List Int} {i : Int} (h0 : 0 ≤ i) (h1 : i < zs.length) : ∃ z ∈ zs, atI (zs.map V.int) i = some (.int z) := by
  obtain ⟨n, rfl⟩ : ∃ n : Nat, i = (n : Int) := ⟨i.toNat, by omega⟩
  have h2 : n < zs.length := by omega
  exact ⟨zs[n], List.getElem_mem h2, atI_nat (by rw [List.getElem?_map, List.getElem?_eq_getElem h2]; rfl)⟩
def putC (hs : Cells) (a : Int) (c : Int × Int) : Cells := if (hs.any fun x => decide (x.1 = a)) = true then hs.map (fun x => if x.1 = a then (x.1, c) else x) else hs ++ [(a, c)]
theorem putC_len (hs : Cells) (a : Int) (c : Int × Int) : (putC hs a c).length ≤ hs.length + 1 := by
  unfold putC
  split
  · rw [List.length_map]; omega
  · rw [List.length_append, List.length_singleton]; omega
theorem putC_nd (hs : Cells) (a : Int) (c : Int × Int) (n : (hs.map (·.1)).Nodup) : ((putC hs a c).map (·.1)).Nodup := by
  unfold putC
  by_cases h : (hs.any fun x => decide (x.1 = a)) = true
  · rw [if_pos h, List.map_map, show ((fun x : Int × Int × Int => x.1) ∘ fun x => if x.1 = a then (x.1, c) else x) = fun x => x.1 from funext fun x => by
      show (if x.1 = a then (x.1, c) else x).1 = x.1
      split <;> rfl]
    exact n
  · rw [if_neg h, List.map_append, List.nodup_append]
    refine ⟨n, by simp, fun x hx y hy e => h ?_⟩
    obtain ⟨q, hq, rfl⟩ := List.mem_map.mp hx
    exact List.any_eq_true.mpr ⟨q, hq, decide_eq_true (e.trans (List.mem_singleton.mp hy))⟩
theorem put_cells {H : Hp} {kvs : List (Key × V)} {hs : Cells} (p : Paired (fun kv (c : Int × Int × Int) => kv.1 = .inl c.1 ∧ ∃ t, kv.2 = .ref t ∧ H t = some (.tup [.int c.2.1, .int c.2.2])) kvs hs) {a f s : Int} {t : Addr} (ht : H t = some (.tup [.int f, .int s])) :
    Paired (fun kv (c : Int × Int × Int) => kv.1 = .inl c.1 ∧ ∃ t, kv.2 = .ref t ∧ H t = some (.tup [.int c.2.1, .int c.2.2])) (putK kvs (.inl a) (.ref t)) (putC hs a (f, s)) := by
  have dk : ∀ x : Int, decide ((Sum.inl x : Key) = Sum.inl a) = decide (x = a) := fun x => by
    by_cases z : x = a
    · rw [z, decide_eq_true rfl, decide_eq_true rfl]
    · rw [decide_eq_false z, decide_eq_false (fun q => z (Sum.inl.inj q))]
  have any_eq : (kvs.any fun kv => decide (kv.1 = (Sum.inl a : Key))) = (hs.any fun x => decide (x.1 = a)) := by
    induction p with
    | nil => rfl
    | @cons kv c ks cs h _ ih => rw [List.any_cons, List.any_cons, ih, h.1, dk]
  unfold putK putC
  rw [any_eq]
  split
  · rename_i hc
    clear hc any_eq
    induction p with
    | nil => exact .nil
    | @cons kv c ks cs h _ ih =>
      rw [List.map_cons, List.map_cons]
      refine .cons ?_ ih
      obtain ⟨h1, t1, h2, h3⟩ := h
      by_cases z : c.1 = a
      · rw [if_pos (by rw [h1, z]), if_pos z]
        exact ⟨h1, t, rfl, ht⟩
      · rw [if_neg (fun q => z (by rw [h1] at q; exact Sum.inl.inj q)), if_neg z]
        exact ⟨h1, t1, h2, h3⟩
  · exact paired_app p (.cons ⟨rfl, t, rfl, ht⟩ .nil)
end Ap

set_option Elab.async false
set_option linter.all false
set_option maxRecDepth 100000
set_option maxHeartbeats 1000000
local macro_rules | `(tactic| walk_at "at") => `(tactic| first
  | assumption
  | exact upd_same
  | exact Ap.at_new (by assumption) (by walk_at "at")
  | exact Ap.gr_at (by assumption) (by walk_at "at")
  | exact Ap.at_ne (by first | assumption | exact Ne.symm (by assumption)) (by walk_at "at"))
local macro_rules | `(tactic| walk_at "lk") => `(tactic| first
  | assumption
  | exact Ap.sql_of (by walk_at "at")
  | exact Ap.sqt_of (by walk_at "at")
  | exact Ap.sql_gr (Ap.gr_new (by assumption)) (by walk_at "lk")
  | exact Ap.sqt_gr (Ap.gr_new (by assumption)) (by walk_at "lk")
  | exact Ap.sql_gr (by assumption) (by walk_at "lk")
  | exact Ap.sqt_gr (by assumption) (by walk_at "lk"))
local macro_rules | `(tactic| walk_at "sc") => `(tactic| first | decide | omega | exact ⟨by decide, by decide⟩ | exact ⟨by omega, by omega⟩ | exact ⟨by decide, by decide, by decide⟩ | exact Int.pow_pos (by decide) | exact Or.inl ⟨by decide, by decide⟩ | exact Or.inl ⟨by omega, by omega⟩ | exact Or.inr ⟨by omega, by omega⟩ | assumption)
local macro_rules | `(tactic| walk_at "ds") => `(tactic| (try dsimp only [List.set_cons_zero, List.set_cons_succ]))
local macro_rules | `(tactic| walk_at "kk") => `(tactic| ((try simp only [L2.Cx.nox, L2.Cx.wish]); (try simp only [L2.cxOf])))
local macro_rules | `(tactic| walk_at "rd") => `(tactic| first
  | ((with_reducible refine Ap.id_var ?_); refine Ap.x_var (by exact rfl) ?_)
  | with_reducible refine Ap.x_c ?_
  | with_reducible refine Ap.x_op ?_
  | with_reducible refine Ap.x_un ?_
  | with_reducible refine Ap.x_seq ?_
  | with_reducible refine Ap.x_asg ?_
  | ((with_reducible refine Ap.x_gn ?_); walk_at "ds")
  | with_reducible refine Ap.x_ifS ?_
  | with_reducible refine Ap.x_test ?_
  | with_reducible refine Ap.x_bl ?_
  | with_reducible refine Ap.x_B ?_
  | with_reducible refine Ap.x_not ?_
  | with_reducible refine Ap.x_and ?_
  | with_reducible refine Ap.x_or ?_
  | ((with_reducible refine Ap.x_ret ?_); walk_at "ds")
  | ((with_reducible refine Ap.x_retN ?_); walk_at "ds")
  | ((with_reducible refine Ap.x_next ?_); walk_at "ds")
  | ((with_reducible refine Ap.x_brk ?_); walk_at "ds")
  | ((with_reducible refine Ap.x_cont ?_); walk_at "ds")
  | with_reducible refine Ap.x_drop ?_
  | with_reducible refine Ap.x_use ?_
  | with_reducible refine Ap.x_cons ?_
  | with_reducible refine Ap.x_nil ?_
  | with_reducible refine Ap.x_cb ?_
  | with_reducible refine Ap.x_bm ?_
  | with_reducible refine Ap.x_bm0 ?_
  | with_reducible refine Ap.x_tup ?_
  | with_reducible refine Ap.x_lst ?_
  | with_reducible refine Ap.x_sl ?_
  | with_reducible refine Ap.x_nop ?_
  | with_reducible refine Ap.x_part ?_
  | with_reducible refine Ap.x_if ?_
  | with_reducible refine Ap.x_andV ?_
  | with_reducible refine Ap.x_orV ?_
  | with_reducible refine Ap.x_notV ?_
  | with_reducible refine Ap.x_dget ?_
  | with_reducible refine Ap.x_din ?_
  | with_reducible refine Ap.x_dnotin ?_
  | with_reducible refine Ap.x_dput ?_
  | with_reducible refine Ap.x_dnew ?_
  | with_reducible refine Ap.x_dnewT ?_
  | with_reducible refine Ap.x_disp ?_
  | with_reducible refine Ap.x_dget1 ?_
  | with_reducible refine Ap.x_dget2 ?_
  | with_reducible refine Ap.x_gsub ?_
  | with_reducible refine Ap.x_pcons ?_
  | with_reducible refine Ap.x_pnil ?_
  | with_reducible refine Ap.x_yes ?_
  | with_reducible refine Ap.x_for ?_
  | with_reducible refine Ap.x_iL ?_
  | with_reducible refine Ap.x_iT ?_
  | with_reducible refine Ap.x_iR1 ?_
  | with_reducible refine Ap.x_iR2 ?_
  | with_reducible refine Ap.x_lc ?_
  | with_reducible refine Ap.x_revT ?_
  | with_reducible refine Ap.x_par ?_
  | with_reducible refine Ap.x_I0 ?_
  | with_reducible refine Ap.x_U ?_
  | ((with_reducible refine Ap.id_I ?_); refine Ap.x_I (by walk_at "sc") ?_)
  | ((with_reducible refine Ap.id_eq ?_); refine Ap.x_eq (by exact rfl) ?_)
  | ((with_reducible refine Ap.id_ne ?_); refine Ap.x_ne (by exact rfl) ?_)
  | with_reducible refine Ap.x_gnil ?_
  | with_reducible refine Ap.x_gcons ?_
  | ((with_reducible first | refine Ap.id_ixT0 ?_ | refine Ap.id_ixT1 ?_ | refine Ap.id_ixT2 ?_ | refine Ap.id_ixT3 ?_ | refine Ap.id_ixT4 ?_ | refine Ap.id_ixT5 ?_ | refine Ap.id_ixT6 ?_ | refine Ap.id_ixT7 ?_ | refine Ap.id_ixT8 ?_ | refine Ap.id_ixT9 ?_ | refine Ap.id_ixTm ?_); refine Ap.x_ixT (by walk_at "lk") (by exact rfl) ?_)
  | ((with_reducible first | refine Ap.id_ixL0 ?_ | refine Ap.id_ixL1 ?_ | refine Ap.id_ixL2 ?_ | refine Ap.id_ixL3 ?_ | refine Ap.id_ixL4 ?_ | refine Ap.id_ixL5 ?_ | refine Ap.id_ixL6 ?_ | refine Ap.id_ixL7 ?_ | refine Ap.id_ixL8 ?_ | refine Ap.id_ixL9 ?_ | refine Ap.id_ixLm ?_); refine Ap.x_ixL (by walk_at "lk") (by exact rfl) ?_)
  | ((with_reducible refine Ap.id_cat ?_); refine Ap.x_cat (by walk_at "at") (by walk_at "at") (by walk_at "sz") ?_)
  | ((with_reducible refine Ap.id_ty ?_); refine Ap.x_ty (by walk_at "at") ?_)
  | with_reducible refine Ap.x_ki ?_
  | with_reducible refine Ap.x_isN ?_
  | with_reducible refine Ap.x_notN ?_
  | with_reducible refine Ap.x_intb ?_
  | with_reducible refine Ap.x_inti ?_
  | ((with_reducible refine Ap.id_gtup ?_); refine Ap.x_gtup (by walk_at "lk") (by exact rfl) ?_))
local macro_rules | `(tactic| walk_at "sz") => `(tactic| first
  | decide
  | (rw [show PySem.sizeLine = 16777216 from by decide]; (try simp only [List.length_append, List.length_map, List.length_cons, List.length_nil]); omega))
local macro_rules | `(tactic| walk_at "rr") => `(tactic| repeat walk_at "rd")
local macro_rules | `(tactic| walk_at "rs") => `(tactic| repeat ((fail_if_success (with_reducible refine Ap.x_ifS ?_)); walk_at "rd"))
namespace Ap
namespace Law
open PySem PySem.Spec PyProof.Rows L2
def topS (i : Nat) : Stmt := PySem.Challenge.pw_apart_k10_facts_and_a_cell.main.body.getD i (.Pass ⟨0, 0, 0, 0⟩)
abbrev s_words_of : Stmt := topS 4
abbrev N_words_of : List Str := ["telling", "found", "row"]
theorem sc_words_of : FnScope N_words_of ["telling"] (defScope s_words_of) := ⟨rfl, rfl, rfl, by decide +kernel, rfl, by decide +kernel, by decide +kernel⟩
abbrev s_names_of : Stmt := topS 5
abbrev N_names_of : List Str := ["telling", "word"]
theorem sc_names_of : FnScope N_names_of ["telling"] (defScope s_names_of) := ⟨rfl, rfl, rfl, by decide +kernel, rfl, by decide +kernel, by decide +kernel⟩
abbrev s_value_of : Stmt := topS 7
abbrev N_value_of : List Str := ["values", "name"]
theorem sc_value_of : FnScope N_value_of ["values", "name"] (defScope s_value_of) := ⟨rfl, rfl, rfl, by decide +kernel, rfl, by decide +kernel, by decide +kernel⟩
abbrev s_check_values : Stmt := topS 8
abbrev N_check_values : List Str := ["values", "telling", "name"]
theorem sc_check_values : FnScope N_check_values ["values", "telling"] (defScope s_check_values) := ⟨rfl, rfl, rfl, by decide +kernel, rfl, by decide +kernel, by decide +kernel⟩
abbrev s_holds : Stmt := topS 9
abbrev N_holds : List Str := ["values", "fact", "alike"]
theorem sc_holds : FnScope N_holds ["values", "fact"] (defScope s_holds) := ⟨rfl, rfl, rfl, by decide +kernel, rfl, by decide +kernel, by decide +kernel⟩
abbrev s_is_due : Stmt := topS 10
abbrev N_is_due : List Str := ["values", "name", "number"]
theorem sc_is_due : FnScope N_is_due ["values", "name", "number"] (defScope s_is_due) := ⟨rfl, rfl, rfl, by decide +kernel, rfl, by decide +kernel, by decide +kernel⟩
abbrev s_cell_taken : Stmt := topS 11
abbrev N_cell_taken : List Str := ["values", "heap", "part", "address", "first", "second"]
theorem sc_cell_taken : FnScope N_cell_taken ["values", "heap", "part"] (defScope s_cell_taken) := ⟨rfl, rfl, rfl, by decide +kernel, rfl, by decide +kernel, by decide +kernel⟩
abbrev s_stretch_taken : Stmt := topS 12
abbrev N_stretch_taken : List Str := ["values", "heap", "part", "here", "end", "row"]
theorem sc_stretch_taken : FnScope N_stretch_taken ["values", "heap", "part"] (defScope s_stretch_taken) := ⟨rfl, rfl, rfl, by decide +kernel, rfl, by decide +kernel, by decide +kernel⟩
abbrev s_tree_taken : Stmt := topS 13
abbrev N_tree_taken : List Str := ["values", "heap", "part", "coming", "row", "here", "first", "second"]
theorem sc_tree_taken : FnScope N_tree_taken ["values", "heap", "part"] (defScope s_tree_taken) := ⟨rfl, rfl, rfl, by decide +kernel, rfl, by decide +kernel, by decide +kernel⟩
abbrev s_part_taken : Stmt := topS 14
abbrev N_part_taken : List Str := ["values", "heap", "part"]
theorem sc_part_taken : FnScope N_part_taken ["values", "heap", "part"] (defScope s_part_taken) := ⟨rfl, rfl, rfl, by decide +kernel, rfl, by decide +kernel, by decide +kernel⟩
abbrev s_cover : Stmt := topS 15
abbrev N_cover : List Str := ["values", "heap", "telling", "facts", "parts", "rows", "taken", "part", "row", "address", "fact"]
theorem sc_cover : FnScope N_cover ["values", "heap", "telling"] (defScope s_cover) := ⟨rfl, rfl, rfl, by decide +kernel, rfl, by decide +kernel, by decide +kernel⟩
abbrev s_fits : Stmt := topS 16
abbrev N_fits : List Str := ["values", "heap", "telling", "rows", "row"]
theorem sc_fits : FnScope N_fits ["values", "heap", "telling"] (defScope s_fits) := ⟨rfl, rfl, rfl, by decide +kernel, rfl, by decide +kernel, by decide +kernel⟩
abbrev s__law_cell_at : Stmt := topS 18
abbrev N__law_cell_at : List Str := ["_law_script", "_law_k"]
theorem sc__law_cell_at : FnScope N__law_cell_at ["_law_script", "_law_k"] (defScope s__law_cell_at) := ⟨rfl, rfl, rfl, by decide +kernel, rfl, by decide +kernel, by decide +kernel⟩
abbrev s__law_names : Stmt := topS 19
abbrev N__law_names : List Str := ["_law_base", "_law_place", "_law_many", "_law_some", "_law_more", "_law_long", "_law_at", "_law_names_here", "_law_k", "_law_name", "_law_j", "_law_turn"]
theorem sc__law_names : FnScope N__law_names ["_law_base", "_law_place", "_law_many"] (defScope s__law_names) := ⟨rfl, rfl, rfl, by decide +kernel, rfl, by decide +kernel, by decide +kernel⟩
abbrev s__law_addresses : Stmt := topS 20
abbrev N__law_addresses : List Str := ["_law_cell", "_law_many", "_law_step", "_law_found", "_law_k"]
theorem sc__law_addresses : FnScope N__law_addresses ["_law_cell", "_law_many"] (defScope s__law_addresses) := ⟨rfl, rfl, rfl, by decide +kernel, rfl, by decide +kernel, by decide +kernel⟩
abbrev s__law_value : Stmt := topS 21
abbrev N__law_value : List Str := ["_law_cell", "_law_spots"]
theorem sc__law_value : FnScope N__law_value ["_law_cell", "_law_spots"] (defScope s__law_value) := ⟨rfl, rfl, rfl, by decide +kernel, rfl, by decide +kernel, by decide +kernel⟩
abbrev s__law_facts : Stmt := topS 22
abbrev N__law_facts : List Str := ["_law_cells", "_law_some", "_law_facts_here", "_law_cell", "_law_word"]
theorem sc__law_facts : FnScope N__law_facts ["_law_cells", "_law_some"] (defScope s__law_facts) := ⟨rfl, rfl, rfl, by decide +kernel, rfl, by decide +kernel, by decide +kernel⟩
abbrev s__law_many_facts : Stmt := topS 23
abbrev N__law_many_facts : List Str := ["_law_cell", "_law_full", "_law_some", "_law_facts_here", "_law_left", "_law_k", "_law_number", "_law_one", "_law_other", "_law_alike"]
theorem sc__law_many_facts : FnScope N__law_many_facts ["_law_cell", "_law_full", "_law_some"] (defScope s__law_many_facts) := ⟨rfl, rfl, rfl, by decide +kernel, rfl, by decide +kernel, by decide +kernel⟩
abbrev s__law_holds : Stmt := topS 24
abbrev N__law_holds : List Str := ["_law_values", "_law_fact"]
theorem sc__law_holds : FnScope N__law_holds ["_law_values", "_law_fact"] (defScope s__law_holds) := ⟨rfl, rfl, rfl, by decide +kernel, rfl, by decide +kernel, by decide +kernel⟩
abbrev s__law_told : Stmt := topS 25
abbrev N__law_told : List Str := ["_law_found", "_law_due_here", "_law_row", "_law_number"]
theorem sc__law_told : FnScope N__law_told ["_law_found", "_law_due_here"] (defScope s__law_told) := ⟨rfl, rfl, rfl, by decide +kernel, rfl, by decide +kernel, by decide +kernel⟩
abbrev s__law_heap : Stmt := topS 26
abbrev N__law_heap : List Str := ["_law_script", "_law_spots", "_law_full", "_law_part", "_law_pick", "_law_heap_here", "_law_k", "_law_cell", "_law_first"]
theorem sc__law_heap : FnScope N__law_heap ["_law_script", "_law_spots", "_law_full", "_law_part"] (defScope s__law_heap) := ⟨rfl, rfl, rfl, by decide +kernel, rfl, by decide +kernel, by decide +kernel⟩
abbrev s__law_due : Stmt := topS 27
abbrev N__law_due : List Str := ["_law_full", "_law_heap_here", "_law_part", "_law_hold", "_law_there"]
theorem sc__law_due : FnScope N__law_due ["_law_full", "_law_heap_here", "_law_part", "_law_hold"] (defScope s__law_due) := ⟨rfl, rfl, rfl, by decide +kernel, rfl, by decide +kernel, by decide +kernel⟩
abbrev s__law_is : Stmt := topS 28
abbrev N__law_is : List Str := ["_law_found", "_law_due_here"]
theorem sc__law_is : FnScope N__law_is ["_law_found", "_law_due_here"] (defScope s__law_is) := ⟨rfl, rfl, rfl, by decide +kernel, rfl, by decide +kernel, by decide +kernel⟩
abbrev s_law : Stmt := topS 29
abbrev N_law : List Str := ["_law_script", "_law_names_here", "_law_spots", "_law_values", "_law_k", "_law_full", "_law_facts_here", "_law_pick", "_law_some", "_law_part", "_law_heap_here", "_law_hold", "_law_due_here", "_law_kept", "_law_telling", "_law_turn", "_law_found", "_law_fit", "_law_bare", "_law_fact"]
theorem sc_law : FnScope N_law ["_law_script"] (defScope s_law) := ⟨rfl, rfl, rfl, by decide +kernel, rfl, by decide +kernel, by decide +kernel⟩
structure Txt (mg : Str → Option Value) : Prop where
  mn_all : mg "all" = none
  mn_bool : mg "bool" = none
  mn_dict : mg "dict" = none
  mn_int : mg "int" = none
  mn_isinstance : mg "isinstance" = none
  mn_len : mg "len" = none
  mn_list : mg "list" = none
  mn_range : mg "range" = none
  mn_set : mg "set" = none
  mn_sorted : mg "sorted" = none
  mn_sum : mg "sum" = none
/-! what the program's defs promise -/
/-- the words of rows but the first of each -/
def wordsL (rs : List (List Str)) : List Str := rs.flatMap (List.drop 1)
def sp_words_of (_K : PySem.W.Frag) : Sp := fun vs H Q _ => ∃ t fs ps, vs = [.ref t] ∧ TellAt H t fs ps ∧ (∀ r ∈ fs ++ ps, 2 ≤ r.length ∧ r.length ≤ 4) ∧ (fs ++ ps).length ≤ 200 ∧
  ∀ p H', H p = none → Gr H H' → H' p = some (.lst ((wordsL (fs ++ ps)).map V.str)) → Q (.ref p) H'
/-- a word that may be a name -/
def isN (x : Str) : Bool := !(x == ("nil" : Str) || x == ("any" : Str))
def tnames (fs ps : List (List Str)) : List Str := once [] ((wordsL (fs ++ ps)).filter isN)
def TellOk (fs ps : List (List Str)) : Prop := (∀ r ∈ fs ++ ps, 2 ≤ r.length ∧ r.length ≤ 4) ∧ (fs ++ ps).length ≤ 200 ∧ (tnames fs ps).length < 64
def sp_names_of (_K : PySem.W.Frag) : Sp := fun vs H Q _ => ∃ t fs ps, vs = [.ref t] ∧ TellAt H t fs ps ∧ TellOk fs ps ∧
  ∀ ys p H', ys.Perm (tnames fs ps) → sortedS ys = true → H p = none → Gr H H' → H' p = some (.lst (ys.map V.str)) → Q (.ref p) H'
def sp_value_of (_K : PySem.W.Frag) : Sp := fun vs H Q _ => ∃ v n vals, vs = [.ref v, .str n] ∧ ValsAt H v vals ∧ Has vals n ∧ Q (.int (vo vals n)) H
def AllNamed (vals : List (Str × Int)) (fs ps : List (List Str)) : Prop := ∀ x ∈ wordsL (fs ++ ps), isN x = true → (lk vals x).isSome = true
def sp_check_values (_K : PySem.W.Frag) : Sp := fun vs H Q _ => ∃ v t vals fs ps, vs = [.ref v, .ref t] ∧ ValsAt H v vals ∧ TellAt H t fs ps ∧ TellOk fs ps ∧ AllNamed vals fs ps ∧ ∀ H', Gr H H' → Q .non H'
/-- whether a fact holds -/
def holdsM (vals : List (Str × Int)) : List Str → Bool
  | [w, a, b] => (vo vals a == vo vals b) == (w == ("is" : Str))
  | _ => false
def FactOk (vals : List (Str × Int)) (ws : List Str) : Prop := ∃ w a b, ws = [w, a, b] ∧ Has vals a ∧ Has vals b
def sp_holds (_K : PySem.W.Frag) : Sp := fun vs H Q _ => ∃ v f vals ws, vs = [.ref v, .ref f] ∧ ValsAt H v vals ∧ H f = some (.tup (ws.map V.str)) ∧ FactOk vals ws ∧ Q (.bl (holdsM vals ws)) H
def dueM (vals : List (Str × Int)) (n : Str) (z : Int) : Bool := n == ("any" : Str) || vo vals n == z
def HasA (vals : List (Str × Int)) (n : Str) : Prop := n = ("any" : Str) ∨ Has vals n
def sp_is_due (_K : PySem.W.Frag) : Sp := fun vs H Q _ => ∃ v n z vals, vs = [.ref v, .str n, .int z] ∧ ValsAt H v vals ∧ HasA vals n ∧ Q (.bl (dueM vals n z)) H
/-- None, or a new list of numbers -/
def RetO (r : Option (List Int)) (H : Hp) (Q : VK) : Prop := (r = none → ∀ H', Gr H H' → Q .non H') ∧ ∀ row, r = some row → ∀ q H', H q = none → Gr H H' → H' q = some (.lst (row.map V.int)) → Q (.ref q) H'
/-- going along -/
def alongF (hs : Cells) (e : Int) : Nat → Int → List Int → Option (List Int)
  | 0, _, _ => none
  | n + 1, z, row => if z = e then some row else match cl hs z with
    | none => none
    | some c => if z ∈ row then none else alongF hs e n c.2 (row ++ [z])
def alongM (hs : Cells) (s e : Int) : Option (List Int) := alongF hs e (hs.length + 1) s []
def cellM (vals : List (Str × Int)) (hs : Cells) (a f s : Str) : Option (List Int) := match cl hs (vo vals a) with
  | none => none
  | some c => if dueM vals f c.1 && dueM vals s c.2 then some [vo vals a] else none
/-- the cells of trees to come, the next one first -/
def treeF (hs : Cells) : Nat → List Int → List Int → Option (List Int)
  | 0, _, _ => none
  | _ + 1, [], row => some row
  | n + 1, z :: r, row => if z = 0 then treeF hs n r row else match cl hs z with
    | none => none
    | some c => if z ∈ row then none else treeF hs n (c.1 :: c.2 :: r) (row ++ [z])
def treeM (hs : Cells) (top : Int) : Option (List Int) := treeF hs (2 * hs.length + 2) [top] []
def takenM (vals : List (Str × Int)) (hs : Cells) : List Str → Option (List Int)
  | [_, a] => treeM hs (vo vals a)
  | [_, a, b] => alongM hs (vo vals a) (vo vals b)
  | [_, a, f, s] => cellM vals hs a f s
  | _ => none
def PartOk (vals : List (Str × Int)) (ws : List Str) : Prop := (∃ a f s, ws = [("cell" : Str), a, f, s] ∧ Has vals a ∧ HasA vals f ∧ HasA vals s) ∨ (∃ a b, ws = [("stretch" : Str), a, b] ∧ Has vals a ∧ Has vals b) ∨ ∃ a, ws = [("tree" : Str), a] ∧ Has vals a
def sp_taken (P : List (Str × Int) → List Str → Prop) (_K : PySem.W.Frag) : Sp := fun vs H Q _ => ∃ v h p vals hs ws, vs = [.ref v, .ref h, .ref p] ∧ ValsAt H v vals ∧ HeapAt H h hs ∧ hs.length ≤ 1000 ∧ H p = some (.tup (ws.map V.str)) ∧ P vals ws ∧ RetO (takenM vals hs ws) H Q
abbrev sp_cell_taken (K : PySem.W.Frag) : Sp := sp_taken (fun vals ws => ∃ a f s, ws = [("cell" : Str), a, f, s] ∧ Has vals a ∧ HasA vals f ∧ HasA vals s) K
abbrev sp_stretch_taken (K : PySem.W.Frag) : Sp := sp_taken (fun vals ws => ∃ a b, ws = [("stretch" : Str), a, b] ∧ Has vals a ∧ Has vals b) K
abbrev sp_tree_taken (K : PySem.W.Frag) : Sp := sp_taken (fun vals ws => ∃ a, ws = [("tree" : Str), a] ∧ Has vals a) K
abbrev sp_part_taken (K : PySem.W.Frag) : Sp := sp_taken PartOk K
/-- the addresses of a row, put to those taken; none where one comes twice -/
def putAll : List Int → List Int → Option (List Int)
  | [], t => some t
  | a :: r, t => if a ∈ t then none else putAll r (t ++ [a])
def coverGo (vals : List (Str × Int)) (hs : Cells) : List (List Str) → List Int → Option (List (List Int))
  | [], _ => some []
  | p :: r, t => match takenM vals hs p with
    | none => none
    | some row => match putAll row t with
      | none => none
      | some t' => (coverGo vals hs r t').map (row :: ·)
def coverM (vals : List (Str × Int)) (hs : Cells) (fs ps : List (List Str)) : Option (List (List Int)) := if fs.all (holdsM vals) then coverGo vals hs ps [] else none
/-- None, or a new list of new lists of numbers -/
def RetLL (r : Option (List (List Int))) (H : Hp) (Q : VK) : Prop := (r = none → ∀ H', Gr H H' → Q .non H') ∧
  ∀ rows, r = some rows → ∀ q as H', H q = none → (∀ a ∈ as, H a = none) → (q :: as).Nodup → Gr H H' → H' q = some (.lst (as.map V.ref)) → Paired (fun a (row : List Int) => H' a = some (.lst (row.map V.int))) as rows → Q (.ref q) H'
structure CovIn (H : Hp) (v h t : Addr) (vals : List (Str × Int)) (hs : Cells) (fs ps : List (List Str)) : Prop where
  hv : ValsAt H v vals
  hh : HeapAt H h hs
  hl : hs.length ≤ 1000
  ht : TellAt H t fs ps
  ok : TellOk fs ps
  nm : AllNamed vals fs ps
  fo : ∀ f ∈ fs, FactOk vals f
  po : ∀ p ∈ ps, PartOk vals p
def sp_cover (_K : PySem.W.Frag) : Sp := fun vs H Q _ => ∃ v h t vals hs fs ps, vs = [.ref v, .ref h, .ref t] ∧ CovIn H v h t vals hs fs ps ∧ RetLL (coverM vals hs fs ps) H Q
def fitsM (vals : List (Str × Int)) (hs : Cells) (fs ps : List (List Str)) : Bool := match coverM vals hs fs ps with
  | none => false
  | some rows => (rows.map List.length).sum == hs.length
def sp_fits (_K : PySem.W.Frag) : Sp := fun vs H Q _ => ∃ v h t vals hs fs ps, vs = [.ref v, .ref h, .ref t] ∧ CovIn H v h t vals hs fs ps ∧ ∀ H', Gr H H' → Q (.bl (fitsM vals hs fs ps)) H'
/-! the mathematics -/
theorem wordsL_len (rs : List (List Str)) (h : ∀ r ∈ rs, 2 ≤ r.length ∧ r.length ≤ 4) : (wordsL rs).length ≤ 4 * rs.length := by
  induction rs with
  | nil => simp [wordsL]
  | cons r t ih =>
    have h1 := h r List.mem_cons_self
    have h2 := ih fun x hx => h x (List.mem_cons_of_mem _ hx)
    unfold wordsL at *
    rw [List.flatMap_cons, List.length_append, List.length_drop, List.length_cons]
    omega
theorem wordsL_take {rs : List (List Str)} {i : Nat} {r : List Str} (h : rs[i]? = some r) : wordsL (rs.take (i + 1)) = wordsL (rs.take i) ++ r.drop 1 := by
  unfold wordsL
  rw [List.take_succ, h, Option.toList_some, List.flatMap_append]
  simp
theorem cutV_drop1 (xs : List V) : cutV xs (some 1) none = xs.drop 1 := by
  unfold cutV
  rw [show HT.sIx xs.length 0 (some 1) = min 1 xs.length from HT.sIx_nat xs.length 0 1, HT.sIx_none]
  cases xs with
  | nil => rfl
  | cons x r =>
    rw [show min 1 (x :: r).length = 1 by rw [List.length_cons]; omega]
    show List.take ((x :: r).length - 1) r = r
    rw [List.length_cons, Nat.add_sub_cancel]
    exact List.take_length
theorem dec_str {a b : Str} : decide (V.str a = V.str b) = (a == b) := by
  by_cases e : a = b
  · subst e; rw [decide_eq_true rfl, beq_self_eq_true]
  · rw [decide_eq_false fun z => e (V.str.inj z), beq_eq_false_iff_ne.mpr e]
theorem dec_bl {a b : Bool} : decide (V.bl a = V.bl b) = (a == b) := by
  cases a <;> cases b <;> decide
theorem inV_ints (z : Int) (row : List Int) : inV (.int z) (row.map V.int) = decide (z ∈ row) := by
  unfold inV
  rw [List.any_map]
  by_cases h : z ∈ row
  · rw [decide_eq_true h]
    exact List.any_eq_true.mpr ⟨z, h, beq_self_eq_true z⟩
  · rw [decide_eq_false h]
    cases c : row.any ((fun y => eqV y (V.int z)) ∘ V.int) with
    | false => rfl
    | true =>
      obtain ⟨y, hy, e⟩ := List.any_eq_true.mp c
      have e2 : (y == z) = true := e
      rw [beq_iff_eq] at e2
      exact absurd (e2 ▸ hy) h
theorem flat_ints (row : List Int) : (row.map V.int).all flatV = true := by
  rw [List.all_map]
  exact List.all_eq_true.mpr fun _ _ => rfl
theorem cl_mem {hs : Cells} {a : Int} {c : Int × Int} (h : cl hs a = some c) : a ∈ hs.map (·.1) := by
  unfold cl at h
  obtain ⟨x, hx, e⟩ := Option.map_eq_some_iff.mp h
  have h1 := List.find?_some hx
  have h2 := List.mem_of_find?_eq_some hx
  exact List.mem_map.mpr ⟨x, h2, of_decide_eq_true h1⟩
theorem int_nodup_le : ∀ (l d : List Int), l.Nodup → (∀ x ∈ l, x ∈ d) → l.length ≤ d.length
  | [], _, _, _ => Nat.zero_le _
  | x :: l, d, n, s => by
    obtain ⟨n1, n2⟩ := List.nodup_cons.mp n
    have hx : x ∈ d := s x List.mem_cons_self
    have ih := int_nodup_le l (d.erase x) n2 fun y hy => by
      have ne : y ≠ x := fun e => n1 (e ▸ hy)
      exact (List.mem_erase_of_ne ne).2 (s y (List.mem_cons_of_mem _ hy))
    have e := List.length_erase_of_mem hx
    have p : 0 < d.length := List.length_pos_of_mem hx
    rw [List.length_cons]
    omega
/-- rows of met cells are no longer than the heap -/
structure Row (hs : Cells) (row : List Int) : Prop where
  nd : row.Nodup
  sub : ∀ x ∈ row, x ∈ hs.map (·.1)
theorem Row.len {hs : Cells} {row : List Int} (r : Row hs row) : row.length ≤ hs.length := by
  have h := int_nodup_le row (hs.map (·.1)) r.nd r.sub
  rw [List.length_map] at h
  exact h
theorem Row.nil {hs : Cells} : Row hs [] := ⟨List.nodup_nil, fun _ h => by cases h⟩
theorem Row.snoc {hs : Cells} {row : List Int} {z : Int} {c : Int × Int} (r : Row hs row) (h : cl hs z = some c) (n : z ∉ row) : Row hs (row ++ [z]) := by
  refine ⟨?_, fun x hx => ?_⟩
  · rw [List.nodup_append]
    exact ⟨r.nd, by simp, fun a ha b hb e => n (by rw [← List.mem_singleton.mp hb, ← e]; exact ha)⟩
  · rcases List.mem_append.mp hx with k | k
    · exact r.sub x k
    · rw [List.mem_singleton.mp k]; exact cl_mem h
theorem alongF_row {hs : Cells} {e : Int} : ∀ (n : Nat) (z : Int) (row r : List Int), Row hs row → alongF hs e n z row = some r → Row hs r
  | 0, _, _, _, _, h => by cases h
  | n + 1, z, row, r, hr, h => by
    rw [alongF] at h
    by_cases c : z = e
    · rw [if_pos c] at h
      cases h
      exact hr
    · rw [if_neg c] at h
      cases d : cl hs z with
      | none => rw [d] at h; cases h
      | some p =>
        rw [d] at h
        by_cases m : z ∈ row
        · have h' : (if z ∈ row then none else alongF hs e n p.2 (row ++ [z])) = some r := h
          rw [if_pos m] at h'; cases h'
        · have h' : (if z ∈ row then none else alongF hs e n p.2 (row ++ [z])) = some r := h
          rw [if_neg m] at h'
          exact alongF_row n p.2 _ r (hr.snoc d m) h'
theorem treeF_row {hs : Cells} : ∀ (n : Nat) (zs row r : List Int), Row hs row → treeF hs n zs row = some r → Row hs r
  | 0, _, _, _, _, h => by cases h
  | _ + 1, [], row, r, hr, h => by
    rw [treeF] at h
    cases h
    exact hr
  | n + 1, z :: t, row, r, hr, h => by
    rw [treeF] at h
    by_cases c : z = 0
    · rw [if_pos c] at h
      exact treeF_row n t row r hr h
    · rw [if_neg c] at h
      cases d : cl hs z with
      | none => rw [d] at h; cases h
      | some p =>
        rw [d] at h
        have h' : (if z ∈ row then none else treeF hs n (p.1 :: p.2 :: t) (row ++ [z])) = some r := h
        by_cases m : z ∈ row
        · rw [if_pos m] at h'; cases h'
        · rw [if_neg m] at h'
          exact treeF_row n _ _ r (hr.snoc d m) h'
theorem taken_row {vals : List (Str × Int)} {hs : Cells} {ws : List Str} {r : List Int} (po : PartOk vals ws) (h : takenM vals hs ws = some r) : Row hs r := by
  rcases po with ⟨a, f, s, rfl, _⟩ | ⟨a, b, rfl, _⟩ | ⟨a, rfl, _⟩
  · have h' : cellM vals hs a f s = some r := h
    unfold cellM at h'
    cases d : cl hs (vo vals a) with
    | none => rw [d] at h'; cases h'
    | some p =>
      rw [d] at h'
      have h2 : (if dueM vals f p.1 && dueM vals s p.2 then some [vo vals a] else none) = some r := h'
      by_cases c : (dueM vals f p.1 && dueM vals s p.2) = true
      · rw [if_pos c] at h2
        cases h2
        exact Row.snoc (row := []) .nil d (by simp)
      · rw [if_neg c] at h2; cases h2
  · exact alongF_row _ _ _ r .nil h
  · exact treeF_row _ _ _ r .nil h
def mkT (a : Int) : Key × V := (.inl a, .bl true)
theorem valV_mkT (tk : List Int) (a : Int) : (valV (tk.map mkT) (.inl a : Key)).isSome = decide (a ∈ tk) := by
  rw [← valV_any, List.any_map]
  by_cases h : a ∈ tk
  · rw [decide_eq_true h]
    exact List.any_eq_true.mpr ⟨a, h, decide_eq_true rfl⟩
  · rw [decide_eq_false h]
    cases c : tk.any ((fun kv : Key × V => decide (kv.1 = .inl a)) ∘ mkT) with
    | false => rfl
    | true =>
      obtain ⟨x, hx, e⟩ := List.any_eq_true.mp c
      have e2 : (Sum.inl x : Key) = .inl a := of_decide_eq_true e
      exact absurd (Sum.inl.inj e2 ▸ hx) h
theorem put_mkT {tk : List Int} {a : Int} (h : a ∉ tk) : putK (tk.map mkT) (.inl a : Key) (.bl true) = (tk ++ [a]).map mkT := by
  have e : valV (tk.map mkT) (.inl a : Key) = none := by
    have q := valV_mkT tk a
    rw [decide_eq_false h] at q
    cases c : valV (tk.map mkT) (.inl a : Key) with
    | none => rfl
    | some _ => rw [c] at q; cases q
  rw [putK_new _ e, List.map_append]
  rfl
theorem putAll_len : ∀ (r t u : List Int), putAll r t = some u → u.length = t.length + r.length
  | [], t, u, h => by cases h; rfl
  | a :: r, t, u, h => by
    rw [putAll] at h
    by_cases c : a ∈ t
    · rw [if_pos c] at h; cases h
    · rw [if_neg c] at h
      have q := putAll_len r _ u h
      rw [List.length_append, List.length_singleton] at q
      rw [List.length_cons]
      omega
theorem putAll_nd : ∀ (r t : List Int), r.Nodup → (∀ x ∈ r, x ∉ t) → putAll r t = some (t ++ r)
  | [], t, _, _ => by rw [putAll, List.append_nil]
  | a :: r, t, n, f => by
    obtain ⟨n1, n2⟩ := List.nodup_cons.mp n
    rw [putAll, if_neg (f a List.mem_cons_self), putAll_nd r (t ++ [a]) n2 (fun x hx m => ?_), List.append_assoc]
    · rfl
    · rcases List.mem_append.mp m with k | k
      · exact f x (List.mem_cons_of_mem _ hx) k
      · exact n1 (List.mem_singleton.mp k ▸ hx)
/-- the cover of one part -/
theorem cover_one {vals : List (Str × Int)} {hs : Cells} {ws : List Str} (po : PartOk vals ws) : coverM vals hs [] [ws] = (takenM vals hs ws).map fun r => [r] := by
  show coverGo vals hs [ws] [] = _
  rw [coverGo]
  cases e : takenM vals hs ws with
  | none => rfl
  | some row =>
    have hr := taken_row po e
    dsimp only
    rw [putAll_nd row [] hr.nd (fun _ _ m => by cases m)]
    rfl
theorem CovIn.gr {H H' : Hp} {v h t : Addr} {vals : List (Str × Int)} {hs : Cells} {fs ps : List (List Str)} (e : Gr H H') (c : CovIn H v h t vals hs fs ps) : CovIn H' v h t vals hs fs ps := ⟨e _ _ c.hv, c.hh.gr e, c.hl, c.ht.gr e, c.ok, c.nm, c.fo, c.po⟩
/-! the law's own defs -/
def sp__law_cell_at (K : PySem.W.Frag) : Sp := fun vs H Q _ => ∃ (a : Addr) (ns : List Int) (k : Int), vs = [.ref a, .int k] ∧ SqL K H a (ns.map V.int) ∧ 0 ≤ k ∧ ∀ z, Q (.int z) H
/-! names -/
def mkS (l : List Nat) : Str := ⟨l.toArray⟩
def lets : List Nat := ("abcdefghjkmopqrsuvwxyz" : Str).cps.toList
def lets2 : List Nat := ("abcdefghjkmopqrsuvwxyz0123456789" : Str).cps.toList
def onI (b : Bool) : Int := if b then 1 else 0
/-- the j-th sign of the k-th name -/
def cdN (base at_ : Int) (k j : Nat) : Nat := if j = 0 then lets.getD ((base / 8 + (k : Int) * onI (at_ == 0)) % 22).toNat 0
  else lets2.getD ((base.fdiv (9 + (j : Int)) + 3 * (j : Int) * (j : Int) + (k : Int) * onI ((j : Int) == at_)) % 32).toNat 0
def longN (base : Int) : Nat := (1 + base % 8).toNat
def nameN (base place : Int) (k : Nat) : Str := mkS ((List.range (longN base)).map (cdN base (place % (1 + base % 8)) k))
def namesN (base place : Int) (many : Nat) : List Str := (List.range many).map (nameN base place)
def sp__law_names (_K : PySem.W.Frag) : Sp := fun vs H Q _ => ∃ (base place : Int) (many : Nat), vs = [.int base, .int place, .int (many : Int)] ∧ many ≤ 20 ∧
  ∀ p H', H p = none → Gr H H' → H' p = some (.lst ((namesN base place many).map V.str)) → Q (.ref p) H'
theorem atI_ints {zs : List Int} {i : Int} (h0 : 0 ≤ i) (h1 : i < zs.length) : ∃ z, atI (zs.map V.int) i = some (.int z) := by
  obtain ⟨n, rfl⟩ : ∃ n : Nat, i = (n : Int) := ⟨i.toNat, by omega⟩
  have h2 : n < zs.length := by omega
  exact ⟨zs[n], atI_nat (by rw [List.getElem?_map, List.getElem?_eq_getElem h2]; rfl)⟩
theorem mkS_app (l m : List Nat) : mkS l ++ mkS m = mkS (l ++ m) := by
  show (⟨l.toArray ++ m.toArray⟩ : Str) = ⟨(l ++ m).toArray⟩
  simp
theorem mkS_len (l : List Nat) : (mkS l).length = l.length := by
  show l.toArray.size = _
  exact List.size_toArray
theorem mkS_inj {l m : List Nat} (h : mkS l = mkS m) : l = m := by
  have h2 : l.toArray = m.toArray := congrArg Str.cps h
  exact congrArg Array.toList h2
/-! facts about names -/
theorem getD_all {l : List Nat} {p : Nat → Bool} (h : l.all p = true) (h0 : p 0 = true) (n : Nat) : p (l.getD n 0) = true := by
  rw [List.getD_eq_getElem?_getD]
  cases c : l[n]? with
  | none => exact h0
  | some x => exact List.all_eq_true.mp h x (List.mem_of_getElem? c)
theorem cdN_all (p : Nat → Bool) (h0 : p 0 = true) (h1 : lets.all p = true) (h2 : lets2.all p = true) (base at_ : Int) (k j : Nat) : p (cdN base at_ k j) = true := by
  unfold cdN
  split
  · exact getD_all h1 h0 _
  · exact getD_all h2 h0 _
theorem longN_pos (base : Int) : 0 < longN base ∧ longN base ≤ 8 := by
  unfold longN
  have := Int.emod_nonneg base (show (8 : Int) ≠ 0 by decide)
  have := Int.emod_lt_of_pos base (show (0 : Int) < 8 by decide)
  omega
theorem nameN_all (p : Nat → Bool) (h0 : p 0 = true) (h1 : lets.all p = true) (h2 : lets2.all p = true) (base place : Int) (k : Nat) : (nameN base place k).cps.all p = true := by
  unfold nameN mkS
  rw [List.all_toArray, List.all_map]
  exact List.all_eq_true.mpr fun j _ => cdN_all p h0 h1 h2 _ _ _ _
theorem nameN_ok (base place : Int) (k : Nat) : PyData.strOk (nameN base place k) = true := nameN_all (fun c => decide (c < 0x110000)) (by decide) (by decide +kernel) (by decide +kernel) base place k
theorem nameN_nil (base place : Int) (k : Nat) : nameN base place k ≠ ("nil" : Str) := fun e => by
  have h := nameN_all (fun c => c != 110) (by decide) (by decide +kernel) (by decide +kernel) base place k
  rw [e] at h
  exact absurd h (by decide +kernel)
theorem nameN_len (base place : Int) (k : Nat) : (nameN base place k).length ≤ 8 := by
  unfold nameN
  rw [mkS_len, List.length_map, List.length_range]
  exact (longN_pos base).2
theorem lets_inj : ∀ a < 22, ∀ b < 22, lets.getD a 0 = lets.getD b 0 → a = b := by decide +kernel
theorem lets2_inj : ∀ a < 32, ∀ b < 32, lets2.getD a 0 = lets2.getD b 0 → a = b := by decide +kernel
/-! the law's own defs, more -/
def sp__law_addresses (_K : PySem.W.Frag) : Sp := fun vs H Q _ => ∃ (c : Int) (many : Nat), vs = [.int c, .int (many : Int)] ∧ 0 < many ∧ many ≤ 1000 ∧
  ∀ (ns : List Int) p H', ns.length = many → H p = none → Gr H H' → H' p = some (.lst (ns.map V.int)) → Q (.ref p) H'
def sp__law_value (K : PySem.W.Frag) : Sp := fun vs H Q _ => ∃ (c : Int) (b : Addr) (sp : List Int), vs = [.int c, .ref b] ∧ SqL K H b (sp.map V.int) ∧ sp ≠ [] ∧ ∀ z, Q (.int z) H
def FactIn (some_ : List Str) (f : List Str) : Prop := ∃ w a b, f = [w, a, b] ∧ (w = ("is" : Str) ∨ w = ("not" : Str)) ∧ a ∈ some_ ∧ b ∈ some_
def RetF (P : List (List Str) → Prop) (H : Hp) (Q : VK) : Prop := ∀ fs pv p H', P fs → H p = none → Gr H H' → H' p = some (.lst pv) → RowsAt H' pv fs → Q (.ref p) H'
def sp__law_facts (K : PySem.W.Frag) : Sp := fun vs H Q _ => ∃ (a b : Addr) (cs : List Int) (some_ : List Str), vs = [.ref a, .ref b] ∧ SqL K H a (cs.map V.int) ∧ SqL K H b (some_.map V.str) ∧ some_.length = 5 ∧ cs.length ≤ 100 ∧
  RetF (fun fs => fs.length = cs.length ∧ ∀ f ∈ fs, FactIn some_ f) H Q
def sp__law_many_facts (K : PySem.W.Frag) : Sp := fun vs H Q _ => ∃ (c : Int) (v b : Addr) (full : List (Str × Int)) (some_ : List Str), vs = [.int c, .ref v, .ref b] ∧ ValsAt H v full ∧ SqL K H b (some_.map V.str) ∧ some_.length = 5 ∧
  (∀ x ∈ some_, (lk full x).isSome = true) ∧ RetF (fun fs => fs.length ≤ 50 ∧ ∀ f ∈ fs, FactIn some_ f) H Q
def sp__law_holds (_K : PySem.W.Frag) : Sp := fun vs H Q _ => ∃ (v f : Addr) (full : List (Str × Int)) (w a b : Str) (x y : Int), vs = [.ref v, .ref f] ∧ ValsAt H v full ∧ H f = some (.tup ([w, a, b].map V.str)) ∧ lk full a = some x ∧ lk full b = some y ∧
  Q (.bl ((x == y) == (w == ("is" : Str)))) H
def sp__law_told (_K : PySem.W.Frag) : Sp := fun vs H Q _ => (vs = [.non, .non] ∧ Q (.bl true) H) ∨
  ∃ (q d : Addr) (as bs : List Addr) (rows : List (List Int)), vs = [.ref q, .ref d] ∧ H q = some (.lst (as.map V.ref)) ∧ H d = some (.lst (bs.map V.ref)) ∧ Paired (fun a (row : List Int) => H a = some (.lst (row.map V.int))) as rows ∧
    Paired (fun a (row : List Int) => H a = some (.lst (row.map V.int))) bs rows ∧ Q (.bl true) H
def sp__law_heap (K : PySem.W.Frag) : Sp := fun vs H Q _ => ∃ (a b v t : Addr) (ns sp : List Int) (full : List (Str × Int)) (x f s : Str), vs = [.ref a, .ref b, .ref v, .ref t] ∧ SqL K H a (ns.map V.int) ∧ H b = some (.lst (sp.map V.int)) ∧ sp.length = 5 ∧
  ValsAt H v full ∧ H t = some (.tup ([("cell" : Str), x, f, s].map V.str)) ∧ (lk full x).isSome = true ∧ ∀ (hs : Cells) h H', hs.length ≤ 1000 → (hs.map (·.1)).Nodup → H h = none → Gr H H' → HeapAt H' h hs → Q (.ref h) H'
/-- what the law takes as due -/
def cellD (full : List (Str × Int)) (hs : Cells) (z : Int) (f s : Str) : Option (List (List Int)) := match cl hs z with
  | none => none
  | some c => if (lk full f).getD c.1 = c.1 ∧ (lk full s).getD c.2 = c.2 then some [[z]] else none
def sp__law_due (_K : PySem.W.Frag) : Sp := fun vs H Q _ => ∃ (v h t : Addr) (full : List (Str × Int)) (hs : Cells) (x f s : Str) (z : Int) (hold : Bool), vs = [.ref v, .ref h, .ref t, .bl hold] ∧ ValsAt H v full ∧ HeapAt H h hs ∧
  H t = some (.tup ([("cell" : Str), x, f, s].map V.str)) ∧ lk full x = some z ∧ RetLL (if hold then cellD full hs z f s else none) H Q
def sp__law_is (_K : PySem.W.Frag) : Sp := fun vs H Q _ => ∃ x y : Bool, vs = [.bl x, .bl y] ∧ Q (.bl (x == y)) H
def sp_law (K : PySem.W.Frag) : Sp := fun vs H Q _ => ∃ (a : Addr) (ns : List Int), vs = [.ref a] ∧ SqL K H a (ns.map V.int) ∧ ns.length ≤ 63 ∧ ∀ H', Q (.bl true) H'
theorem atI_strs {zs : List Str} {i : Int} (h0 : 0 ≤ i) (h1 : i < zs.length) : ∃ z ∈ zs, atI (zs.map V.str) i = some (.str z) := by
  obtain ⟨n, rfl⟩ : ∃ n : Nat, i = (n : Int) := ⟨i.toNat, by omega⟩
  have h2 : n < zs.length := by omega
  exact ⟨zs[n], List.getElem_mem h2, atI_nat (by rw [List.getElem?_map, List.getElem?_eq_getElem h2]; rfl)⟩
theorem val_lk {vals : List (Str × Int)} {n : Str} {z : Int} (h : lk vals n = some z) : valV (vals.map fun p => ((Sum.inr p.1 : Key), V.int p.2)) (.inr n) = some (.int z) := by rw [valV_vals, h]; rfl
theorem ok_words_of {P : Program} {w : World} {K : PySem.W.Frag} {mg : Str → Option Value} {base : Heap} {f : Addr} {fd : FuncData} (F : Fun K "words_of" "words_of" s_words_of f fd) (T : Txt mg) :
    FnOk P w K mg base CX0 1 f fd ["telling"] (sp_words_of K) := by
  have nd := sc_words_of.nd
  have mn_list := T.mn_list
  refine F.ok sc_words_of (fun vs H Q E h => ?_) (fun cdv A outer s H vs Q E hr h => ?_)
  · obtain ⟨t, fs, ps, rfl, _⟩ := h
    rfl
  · have hu := hu_of hr
    obtain ⟨t, fs, ps, rfl, hT, hR, hz, k⟩ := h
    refine ⟨_, (pss_cons (ps_set (i := 1) nd rfl (by first | exact Or.inl rfl | exact Or.inr rfl) (pe_lst pa_nil))
          (pss_cons (ps_for PassesOwn.never rfl (k_pil K (pe_op op_cat (pe_ix (k_ixT K) (pv 0) pe_int (fun _ _ => rfl)) (pe_ix (k_ixT K) (pv 0) pe_int (fun _ _ => rfl)))) (pg_name (i := 2) nd rfl (by first | exact Or.inl rfl | exact Or.inr rfl))
            (pss_one (ps_expr (pe_bm PySem.F.plainAttrs_list PySem.F.slot_list_extend PySem.F.type_list_extend mt_extend (pv 1) (pa_cons (pe_callTy (k_list K) (by rfl) mn_list (by decide +kernel) (pa_cons (pe_slice (k_slT K) (pv 2) (po_some pe_int) po_none) pa_nil)) pa_nil)))))
          (pss_one (ps_ret (pv 1))))), ?_⟩
    refine x_start (τ := [some (.ref t), none, none]) rfl ?_
    obtain ⟨fl, pl, fv, pv', h1, h2, h3, h4, h5⟩ := hT.ex
    walk_at "kk"
    walk_at "rr"
    refine ⟨by decide, fun p np => ?_⟩
    have hz2 : fv.length + pv'.length ≤ 200 := by
      rw [paired_len h4, paired_len h5, ← List.length_append]
      exact hz
    walk_at "rr"
    intro q nq
    have g1 : Gr H (upd H p (.lst [])) := gr_new np
    have g2 : Gr H (upd (upd H p (.lst [])) q (.lst (fv ++ pv'))) := g1.tr (gr_new nq)
    have rows : RowsAt H (fv ++ pv') (fs ++ ps) := paired_app h4 h5
    have pq : p ≠ q := ne_of_none upd_same nq
    refine fin_L (xs := fv ++ pv') (sql_of upd_same) (fun i σ' H' => ∃ r2, σ' = [some (.ref t), some (.ref p), r2] ∧ Gr H H' ∧ H' q = some (.lst (fv ++ pv')) ∧ H' p = some (.lst ((wordsL ((fs ++ ps).take i)).map V.str)))
      ⟨none, rfl, g2, upd_same, by rw [upd_ne pq]; exact upd_same⟩ (fun i σ' H' _ ⟨_, _, _, h, _⟩ => sql_of h) ?_ ?_
    · rintro i x σ' H' hx ⟨r2, rfl, g, hq, hp⟩
      obtain ⟨ws, e1, b, rfl, e2⟩ := paired_get rows hx
      have hb := g _ _ e2
      have hr2 := hR ws (List.mem_of_getElem? e1)
      walk_at "rr"
      have e3 : (cutV (ws.map V.str) (some 1) none) = (ws.drop 1).map V.str := by rw [cutV_drop1, List.map_drop]
      refine x_slT (sqt_of hb) ?_ fun u nu => ?_
      · rw [List.length_map]
        rw [show HT.sIx ws.length 0 (some 1) = min 1 ws.length from HT.sIx_nat _ _ 1]
        omega
      rw [e3]
      have hpu : upd H' u (.tup ((ws.drop 1).map V.str)) p = some (.lst ((wordsL ((fs ++ ps).take i)).map V.str)) := at_new nu hp
      walk_at "rr"
      refine x_listT (sqt_of upd_same) fun l nl => ?_
      walk_at "rr"
      have hpl := at_new (o := .lst ((ws.drop 1).map V.str)) nl hpu
      refine x_ext hpl upd_same ?_ ?_
      · have := wordsL_len ((fs ++ ps).take i) fun r hr => hR r (List.mem_of_mem_take hr)
        have h6 : ((fs ++ ps).take i).length ≤ 200 := by rw [List.length_take]; omega
        rw [show PySem.sizeLine = 16777216 from by decide, List.length_map, List.length_map, List.length_drop]
        omega
      walk_at "ds"
      refine ⟨_, rfl, gr_mut ((g.tr (gr_new nu)).tr (gr_new nl)) np, ?_, ?_⟩
      · rw [upd_ne pq.symm]
        exact at_new nl (at_new nu hq)
      · rw [upd_same, ← List.map_append, wordsL_take e1]
    · rintro σ' H' ⟨r2, rfl, g, hq, hp⟩
      walk_at "rr"
      refine k p H' np g ?_
      rw [hp, List.take_of_length_le (Nat.le_of_eq (paired_len rows).symm)]
theorem ok_value_of {P : Program} {w : World} {K : PySem.W.Frag} {mg : Str → Option Value} {base : Heap} {f : Addr} {fd : FuncData} (F : Fun K "value_of" "value_of" s_value_of f fd) (T : Txt mg) :
    FnOk P w K mg base CX0 1 f fd ["values", "name"] (sp_value_of K) := by
  have nd := sc_value_of.nd
  refine F.ok sc_value_of (fun vs H Q E h => ?_) (fun cdv A outer s H vs Q E hr h => ?_)
  · obtain ⟨v, n, vals, rfl, _⟩ := h
    rfl
  · have hu := hu_of hr
    obtain ⟨v, n, vals, rfl, hv, hn, k⟩ := h
    refine ⟨_, (pss_cons (ps_if (pt_cmpR op_eq (pv 1) pe_str (nomark _))
            (pss_one (ps_ret pe_int))
            pss_nil)
          (pss_one (ps_ret (pe_dget hu (pv 0) (pv 1) (fun _ _ => rfl))))), ?_⟩
    refine x_start (τ := [some (.ref v), some (.str n)]) rfl ?_
    walk_at "kk"
    walk_at "rr"
    refine x_ite (fun c => ?_) (fun c => ?_)
    · have e : n = ("nil" : Str) := V.str.inj (of_decide_eq_true c)
      walk_at "rr"
      have e2 : vo vals n = 0 := by unfold vo; rw [if_pos e]
      rw [e2] at k
      exact k
    · have e : n ≠ ("nil" : Str) := fun z => (of_decide_eq_false c) (by rw [z])
      walk_at "rr"
      have hs := hn.resolve_left e
      obtain ⟨z, hz⟩ := Option.isSome_iff_exists.mp hs
      have e2 : vo vals n = z := by unfold vo; rw [if_neg e, hz]; rfl
      rw [e2] at k
      refine x_dgetK (v := V.int z) (k := Sum.inr n) hv ?_ ?_
      · rw [valV_vals, hz]; rfl
      · walk_at "rr"
        exact k
theorem ok__law_cell_at {P : Program} {w : World} {K : PySem.W.Frag} {mg : Str → Option Value} {base : Heap} {f : Addr} {fd : FuncData} (F : Fun K "_law_cell_at" "_law_cell_at" s__law_cell_at f fd) (T : Txt mg) :
    FnOk P w K mg base CX0 1 f fd ["_law_script", "_law_k"] (sp__law_cell_at K) := by
  have nd := sc__law_cell_at.nd
  have mn_len := T.mn_len
  refine F.ok sc__law_cell_at (fun vs H Q E h => ?_) (fun cdv A outer s H vs Q E hr h => ?_)
  · obtain ⟨a, ns, k0, rfl, _⟩ := h
    rfl
  · have hu := hu_of hr
    obtain ⟨a, ns, k0, rfl, hS, h0, k⟩ := h
    refine ⟨_, (pss_cons (ps_if (pt_cmpR op_lt (pv 1) (pe_callB (k_len K) (by rfl) mn_len (by decide +kernel) (pa_cons (pv 0) pa_nil)) (nomark _))
            (pss_one (ps_ret (pe_ix (k_ixL K) (pv 0) (pv 1) (fun _ _ => rfl))))
            pss_nil)
          (pss_one (ps_ret pe_int))), ?_⟩
    refine x_start (τ := [some (.ref a), some (.int k0)]) rfl ?_
    walk_at "kk"
    walk_at "rr"
    refine x_lenL hS ?_
    rw [List.length_map]
    walk_at "rr"
    refine x_ite (fun c => ?_) (fun c => ?_)
    · obtain ⟨z, hz⟩ := atI_ints h0 (of_decide_eq_true c)
      walk_at "rr"
      refine x_ixL hS hz ?_
      exact k z
    · walk_at "rr"
      exact k 0
theorem lets_len : lets.length = 22 := by decide +kernel
theorem lets2_len : lets2.length = 32 := by decide +kernel
theorem at_cps {l : List Nat} {i : Int} (h0 : 0 ≤ i) (h1 : i < l.length) : atI l i = some (l.getD i.toNat 0) := by
  obtain ⟨n, rfl⟩ : ∃ n : Nat, i = (n : Int) := ⟨i.toNat, by omega⟩
  have h2 : n < l.length := by omega
  refine atI_nat ?_
  rw [List.getElem?_eq_getElem h2, Int.toNat_natCast, List.getD_eq_getElem?_getD, List.getElem?_eq_getElem h2]
  rfl
theorem intb (b : Bool) : (if b then (1 : Int) else 0) = onI b := by cases b <;> rfl
theorem onI_le (b : Bool) : 0 ≤ onI b ∧ onI b ≤ 1 := by cases b <;> decide
theorem ok__law_names {P : Program} {w : World} {K : PySem.W.Frag} {mg : Str → Option Value} {base : Heap} {f : Addr} {fd : FuncData} (F : Fun K "_law_names" "_law_names" s__law_names f fd) (T : Txt mg) :
    FnOk P w K mg base CX0 1 f fd ["_law_base", "_law_place", "_law_many"] (sp__law_names K) := by
  have nd := sc__law_names.nd
  have mn_range := T.mn_range
  have mn_int := T.mn_int
  refine F.ok sc__law_names (fun vs H Q E h => ?_) (fun cdv A outer s H vs Q E hr h => ?_)
  · obtain ⟨base, place, many, rfl, _⟩ := h
    rfl
  · have hu := hu_of hr
    obtain ⟨b0, place, many, rfl, hm, k⟩ := h
    refine ⟨_, (pss_cons (ps_set (i := 3) nd rfl (by first | exact Or.inl rfl | exact Or.inr rfl) pe_str)
          (pss_cons (ps_set (i := 4) nd rfl (by first | exact Or.inl rfl | exact Or.inr rfl) (pe_op oo_addS (pv 3) pe_str))
          (pss_cons (ps_set (i := 5) nd rfl (by first | exact Or.inl rfl | exact Or.inr rfl) (pe_op op_add pe_int (pe_op op_mod (pv 0) pe_int)))
          (pss_cons (ps_set (i := 6) nd rfl (by first | exact Or.inl rfl | exact Or.inr rfl) (pe_op op_mod (pv 1) (pv 5)))
          (pss_cons (ps_set (i := 7) nd rfl (by first | exact Or.inl rfl | exact Or.inr rfl) (pe_lst pa_nil))
          (pss_cons (ps_for PassesOwn.never rfl (pi_range1 (by rfl) mn_range (pa_cons (pv 2) pa_nil)) (pg_name (i := 8) nd rfl (by first | exact Or.inl rfl | exact Or.inr rfl))
            (pss_cons (ps_set (i := 9) nd rfl (by first | exact Or.inl rfl | exact Or.inr rfl) (pe_ix ix_str (pv 3) (pe_op op_mod (pe_op op_add (pe_op op_fdiv (pv 0) pe_int) (pe_op op_mul (pv 8) (pe_callTy cc_int (by rfl) mn_int (by decide +kernel) (pa_cons (pe_cmpR op_eq (pv 6) pe_int (nomark _)) pa_nil)))) pe_int) (fun _ _ => rfl)))
          (pss_cons (ps_for PassesOwn.never rfl (pi_range2 (by rfl) mn_range (pa_cons pe_int (pa_cons (pv 5) pa_nil))) (pg_name (i := 10) nd rfl (by first | exact Or.inl rfl | exact Or.inr rfl))
            (pss_cons (ps_set (i := 11) nd rfl (by first | exact Or.inl rfl | exact Or.inr rfl) (pe_op op_mul (pv 8) (pe_callTy cc_int (by rfl) mn_int (by decide +kernel) (pa_cons (pe_cmpR op_eq (pv 10) (pv 6) (nomark _)) pa_nil))))
          (pss_one (ps_set (i := 9) nd rfl (by first | exact Or.inl rfl | exact Or.inr rfl) (pe_op oo_addS (pv 9) (pe_ix ix_str (pv 4) (pe_op op_mod (pe_op op_add (pe_op op_add (pe_op op_fdivN (pv 0) (pe_op op_add pe_int (pv 10))) (pe_op op_mul (pe_op op_mul pe_int (pv 10)) (pv 10))) (pv 11)) pe_int) (fun _ _ => rfl)))))))
          (pss_one (ps_expr (pe_bm PySem.F.plainAttrs_list PySem.F.slot_list_append PySem.F.type_list_append mt_append (pv 7) (pa_cons (pv 9) pa_nil)))))))
          (pss_one (ps_ret (pv 7))))))))), ?_⟩
    refine x_start (τ := [some (.int b0), some (.int place), some (.int (many : Int)), none, none, none, none, none, none, none, none, none]) rfl ?_
    walk_at "kk"
    walk_at "rr"
    refine x_addS (by decide) ?_
    walk_at "rr"
    have m8 := Int.emod_nonneg b0 (show (8 : Int) ≠ 0 by decide)
    have m9 := Int.emod_lt_of_pos b0 (show (0 : Int) < 8 by decide)
    have hlong : (0 : Int) < 1 + b0 % 8 := by omega
    walk_at "rr"
    refine ⟨by decide, fun p np => ?_⟩
    walk_at "rr"
    obtain ⟨n, hn⟩ : ∃ n : Nat, 1 + b0 % 8 = ((1 + n : Nat) : Int) := ⟨(b0 % 8).toNat, by omega⟩
    have hn8 : n ≤ 7 := by omega
    have eln : longN b0 = 1 + n := by unfold longN; rw [hn]; exact Int.toNat_natCast _
    obtain ⟨at_, hat⟩ : ∃ a : Int, a = place % (1 + b0 % 8) := ⟨_, rfl⟩
    rw [← hat]
    rw [hn]
    refine fin_R1 (by omega) (fun i σ' H' => ∃ x8 x9 x10 x11, σ' = [some (.int b0), some (.int place), some (.int (many : Int)), some (.str "abcdefghjkmopqrsuvwxyz"), some (.str ("abcdefghjkmopqrsuvwxyz" ++ "0123456789")), some (.int ((1 + n : Nat) : Int)), some (.int at_), some (.ref p), x8, x9, x10, x11] ∧ Gr H H' ∧ H' p = some (.lst ((namesN b0 place i).map V.str)))
      ⟨none, none, none, none, rfl, gr_new np, upd_same⟩ ?_ ?_
    · rintro i σ' H' hi ⟨x8, x9, x10, x11, rfl, g, hp⟩
      walk_at "rr"
      rw [dec_int, intb]
      have ho := onI_le (at_ == 0)
      walk_at "rr"
      have q1 := Int.emod_nonneg (b0 / 8 + (i : Int) * onI (at_ == 0)) (show (22 : Int) ≠ 0 by decide)
      have q2 := Int.emod_lt_of_pos (b0 / 8 + (i : Int) * onI (at_ == 0)) (show (0 : Int) < 22 by decide)
      refine x_ixS (by decide) (at_cps (l := lets) q1 (by rw [lets_len]; exact q2)) ?_
      walk_at "rr"
      refine fin_R2 (lo := 1) (n := n) (by omega) rfl (fun j σ' H2 => ∃ y10 y11, σ' = [some (.int b0), some (.int place), some (.int (many : Int)), some (.str "abcdefghjkmopqrsuvwxyz"), some (.str ("abcdefghjkmopqrsuvwxyz" ++ "0123456789")), some (.int ((1 + n : Nat) : Int)), some (.int at_), some (.ref p), some (.int (i : Int)), some (.str (mkS ((List.range (1 + j)).map (cdN b0 at_ i)))), y10, y11] ∧ H2 = H')
        ⟨_, _, rfl, rfl⟩ ?_ ?_
      · rintro j σ' H2 hj ⟨y10, y11, rfl, rfl⟩
        walk_at "rr"
        rw [dec_int, intb]
        have ho2 := onI_le (((1 + j : Nat) : Int) == at_)
        walk_at "rr"
        have r1 := Int.emod_nonneg (b0.fdiv (9 + ((1 + j : Nat) : Int)) + 3 * ((1 + j : Nat) : Int) * ((1 + j : Nat) : Int) + (i : Int) * onI (((1 + j : Nat) : Int) == at_)) (show (32 : Int) ≠ 0 by decide)
        have r2 := Int.emod_lt_of_pos (b0.fdiv (9 + ((1 + j : Nat) : Int)) + 3 * ((1 + j : Nat) : Int) * ((1 + j : Nat) : Int) + (i : Int) * onI (((1 + j : Nat) : Int) == at_)) (show (0 : Int) < 32 by decide)
        refine x_ixS (by decide) (at_cps (l := lets2) r1 (by rw [lets2_len]; exact r2)) ?_
        refine x_addS ?_ ?_
        · rw [mkS_len, List.length_map, List.length_range, show PySem.sizeLine = 16777216 from by decide]
          show 1 + j + 1 ≤ _
          omega
        have e3 : mkS ((List.range (1 + j)).map (cdN b0 at_ i)) ++ (⟨#[lets2.getD ((b0.fdiv (9 + ((1 + j : Nat) : Int)) + 3 * ((1 + j : Nat) : Int) * ((1 + j : Nat) : Int) + (i : Int) * onI (((1 + j : Nat) : Int) == at_)) % 32).toNat 0]⟩ : Str) = mkS ((List.range (1 + (j + 1))).map (cdN b0 at_ i)) := by
          have e4 : 1 + (j + 1) = (1 + j) + 1 := by omega
          rw [e4, List.range_succ, List.map_append, ← mkS_app]
          congr 1
          show _ = mkS [cdN b0 at_ i (1 + j)]
          unfold cdN
          rw [if_neg (by omega)]
          rfl
        rw [e3]
        walk_at "rr"
        exact ⟨_, _, rfl, rfl⟩
      · rintro σ' H2 ⟨y10, y11, rfl, rfl⟩
        walk_at "ds"
        walk_at "rr"
        refine x_app hp ?_ ?_
        · rw [show PySem.sizeLine = 16777216 from by decide, List.length_map]
          unfold namesN
          rw [List.length_map, List.length_range]
          omega
        walk_at "ds"
        refine ⟨_, _, _, _, rfl, gr_mut g np, ?_⟩
        rw [upd_same]
        have e5 : nameN b0 place i = mkS ((List.range (1 + n)).map (cdN b0 at_ i)) := by unfold nameN; rw [eln, ← hat]
        unfold namesN
        rw [List.range_succ, List.map_append, List.map_append, ← e5]
        rfl
    · rintro σ' H' ⟨x8, x9, x10, x11, rfl, g, hp⟩
      walk_at "rr"
      exact k p H' np g hp
theorem last_int (ns : List Int) (h : 0 < ns.length) : ∃ z, atI (ns.map V.int) (-1) = some (.int z) := by
  refine ⟨ns[ns.length - 1], ?_⟩
  have e : ixN (ns.map V.int).length (-1) = some (ns.length - 1) := by
    unfold ixN
    rw [List.length_map, if_neg (by omega), if_pos (by omega)]
    congr 1
    omega
  unfold atI
  rw [e]
  show (ns.map V.int)[ns.length - 1]? = _
  rw [List.getElem?_map, List.getElem?_eq_getElem (by omega)]
  rfl
theorem ok__law_addresses {P : Program} {w : World} {K : PySem.W.Frag} {mg : Str → Option Value} {base : Heap} {f : Addr} {fd : FuncData} (F : Fun K "_law_addresses" "_law_addresses" s__law_addresses f fd) (T : Txt mg) :
    FnOk P w K mg base CX0 1 f fd ["_law_cell", "_law_many"] (sp__law_addresses K) := by
  have nd := sc__law_addresses.nd
  have mn_range := T.mn_range
  refine F.ok sc__law_addresses (fun vs H Q E h => ?_) (fun cdv A outer s H vs Q E hr h => ?_)
  · obtain ⟨c0, many, rfl, _⟩ := h
    rfl
  · have hu := hu_of hr
    obtain ⟨c0, many, rfl, hp, hm, k⟩ := h
    refine ⟨_, (pss_cons (ps_set (i := 2) nd rfl (by first | exact Or.inl rfl | exact Or.inr rfl) (pe_op op_add pe_int (pe_op op_mod (pv 0) pe_int)))
          (pss_cons (ps_if (pt_cmpR op_eq (pe_op op_mod (pe_op op_fdiv (pv 0) pe_int) pe_int) pe_int (nomark _))
            (pss_one (ps_set (i := 2) nd rfl (by first | exact Or.inl rfl | exact Or.inr rfl) (pe_op op_add pe_int (pe_op op_mod (pe_op op_fdiv (pv 0) pe_int) (pe_op op_pow pe_int pe_int)))))
            pss_nil)
          (pss_cons (ps_set (i := 3) nd rfl (by first | exact Or.inl rfl | exact Or.inr rfl) (pe_lst (pa_cons (pe_op op_add pe_int (pe_op op_mod (pe_op op_fdiv (pv 0) pe_int) (pe_op op_pow pe_int pe_int))) pa_nil)))
          (pss_cons (ps_for PassesOwn.never rfl (pi_range1 (by rfl) mn_range (pa_cons (pe_op op_sub (pv 1) pe_int) pa_nil)) (pg_name (i := 4) nd rfl (by first | exact Or.inl rfl | exact Or.inr rfl))
            (pss_one (ps_expr (pe_bm PySem.F.plainAttrs_list PySem.F.slot_list_append PySem.F.type_list_append mt_append (pv 3) (pa_cons (pe_op op_add (pe_ix (k_ixL K) (pv 3) (pe_un un_neg pe_int) (fun _ _ => rfl)) (pv 2)) pa_nil)))))
          (pss_one (ps_ret (pv 3))))))), ?_⟩
    refine x_start (τ := [some (.int c0), some (.int (many : Int)), none, none, none]) rfl ?_
    walk_at "kk"
    walk_at "rr"
    refine x_ifSet (fun v => [some (.int c0), some (.int (many : Int)), some v, none, none]) (fun v => ∃ z : Int, v = .int z) (.int (1 + c0 % 7)) rfl ⟨_, rfl⟩ (fun _ => rfl) ?_ ?_
    · intro R r
      walk_at "rr"
      exact r _ ⟨_, rfl⟩
    rintro v ⟨st, rfl⟩
    walk_at "ds"
    walk_at "rr"
    refine ⟨by walk_at "sz", fun p np => ?_⟩
    walk_at "rr"
    obtain ⟨m, rfl⟩ : ∃ m, many = m + 1 := ⟨many - 1, by omega⟩
    rw [show (((m + 1 : Nat) : Int) - 1) = (m : Int) by omega]
    refine fin_R1 (by omega) (fun i σ' H' => ∃ ns x4, σ' = [some (.int c0), some (.int ((m + 1 : Nat) : Int)), some (.int st), some (.ref p), x4] ∧ Gr H H' ∧ H' p = some (.lst (ns.map V.int)) ∧ ns.length = i + 1)
      ⟨[_], none, rfl, gr_new np, upd_same, rfl⟩ ?_ ?_
    · rintro i σ' H' hi ⟨ns, x4, rfl, g, hn, hl⟩
      walk_at "rr"
      obtain ⟨z, hz⟩ := last_int ns (by omega)
      refine x_ixL (sql_of hn) hz ?_
      walk_at "rr"
      refine x_app hn (by rw [show PySem.sizeLine = 16777216 from by decide, List.length_map]; omega) ?_
      walk_at "ds"
      refine ⟨ns ++ [z + st], _, rfl, gr_mut g np, ?_, by rw [List.length_append, List.length_singleton, hl]⟩
      rw [upd_same, List.map_append]
      rfl
    · rintro σ' H' ⟨ns, x4, rfl, g, hn, hl⟩
      walk_at "rr"
      exact k ns p H' hl np g hn
theorem ok__law_value {P : Program} {w : World} {K : PySem.W.Frag} {mg : Str → Option Value} {base : Heap} {f : Addr} {fd : FuncData} (F : Fun K "_law_value" "_law_value" s__law_value f fd) (T : Txt mg) :
    FnOk P w K mg base CX0 1 f fd ["_law_cell", "_law_spots"] (sp__law_value K) := by
  have nd := sc__law_value.nd
  have mn_len := T.mn_len
  refine F.ok sc__law_value (fun vs H Q E h => ?_) (fun cdv A outer s H vs Q E hr h => ?_)
  · obtain ⟨c0, b, sp, rfl, _⟩ := h
    rfl
  · have hu := hu_of hr
    obtain ⟨c0, b, sp, rfl, hb, hne, k⟩ := h
    refine ⟨_, (pss_cons (ps_if (pt_cmpR op_eq (pe_op op_mod (pv 0) pe_int) pe_int (nomark _))
            (pss_one (ps_ret pe_int))
            pss_nil)
          (pss_cons (ps_if (pt_cmpR op_eq (pe_op op_mod (pv 0) pe_int) pe_int (nomark _))
            (pss_one (ps_ret (pe_op op_add (pe_ix (k_ixL K) (pv 1) (pe_op op_mod (pe_op op_fdiv (pv 0) pe_int) (pe_callB (k_len K) (by rfl) mn_len (by decide +kernel) (pa_cons (pv 1) pa_nil))) (fun _ _ => rfl)) pe_int)))
            pss_nil)
          (pss_one (ps_ret (pe_ix (k_ixL K) (pv 1) (pe_op op_mod (pe_op op_fdiv (pv 0) pe_int) (pe_callB (k_len K) (by rfl) mn_len (by decide +kernel) (pa_cons (pv 1) pa_nil))) (fun _ _ => rfl)))))), ?_⟩
    refine x_start (τ := [some (.int c0), some (.ref b)]) rfl ?_
    walk_at "kk"
    have hp : 0 < sp.length := List.length_pos_iff.mpr hne
    have hp2 : (0 : Int) < (sp.length : Int) := by omega
    obtain ⟨z, hz⟩ := atI_ints (zs := sp) (i := c0 / 4 % (sp.length : Int)) (Int.emod_nonneg _ (by omega)) (Int.emod_lt_of_pos _ hp2)
    walk_at "rr"
    refine x_ite (fun c => ?_) (fun c => ?_)
    · walk_at "rr"
      exact k _
    walk_at "rr"
    refine x_ite (fun c => ?_) (fun c => ?_)
    · walk_at "rr"
      refine x_lenL hb ?_
      rw [List.length_map]
      walk_at "rr"
      refine x_ixL hb hz ?_
      walk_at "rr"
      exact k _
    walk_at "rr"
    refine x_lenL hb ?_
    rw [List.length_map]
    walk_at "rr"
    refine x_ixL hb hz ?_
    exact k _
theorem word_at (n : Int) (h0 : 0 ≤ n) (h1 : n < 2) : ∃ w : Str, (w = ("is" : Str) ∨ w = ("not" : Str)) ∧ atI [V.str "is", V.str "not"] n = some (.str w) := by
  obtain ⟨w, hw, e⟩ := atI_strs (zs := ["is", "not"]) h0 h1
  refine ⟨w, ?_, e⟩
  simpa using hw
theorem rows_gr {H H' : Hp} (g : Gr H H') {pv : List V} {fs : List (List Str)} (h : RowsAt H pv fs) : RowsAt H' pv fs := paired_imp h fun _ _ => RowAt.gr g
theorem ok__law_facts {P : Program} {w : World} {K : PySem.W.Frag} {mg : Str → Option Value} {base : Heap} {f : Addr} {fd : FuncData} (F : Fun K "_law_facts" "_law_facts" s__law_facts f fd) (T : Txt mg) :
    FnOk P w K mg base CX0 1 f fd ["_law_cells", "_law_some"] (sp__law_facts K) := by
  have nd := sc__law_facts.nd
  refine F.ok sc__law_facts (fun vs H Q E h => ?_) (fun cdv A outer s H vs Q E hr h => ?_)
  · obtain ⟨a, b, cs, so, rfl, _⟩ := h
    rfl
  · have hu := hu_of hr
    obtain ⟨a, b, cs, so, rfl, ha, hb, hl5, hlc, k⟩ := h
    refine ⟨_, (pss_cons (ps_set (i := 2) nd rfl (by first | exact Or.inl rfl | exact Or.inr rfl) (pe_lst pa_nil))
          (pss_cons (ps_for PassesOwn.never rfl (k_pil K (pv 0)) (pg_name (i := 3) nd rfl (by first | exact Or.inl rfl | exact Or.inr rfl))
            (pss_cons (ps_set (i := 4) nd rfl (by first | exact Or.inl rfl | exact Or.inr rfl) (pe_ix (k_ixL K) (pe_lst (pa_cons pe_str (pa_cons pe_str pa_nil))) (pe_op op_mod (pv 3) pe_int) (fun _ _ => rfl)))
          (pss_one (ps_expr (pe_bm PySem.F.plainAttrs_list PySem.F.slot_list_append PySem.F.type_list_append mt_append (pv 2) (pa_cons (pe_tup (pa_cons (pv 4) (pa_cons (pe_ix (k_ixL K) (pv 1) (pe_op op_mod (pe_op op_fdiv (pv 3) pe_int) pe_int) (fun _ _ => rfl)) (pa_cons (pe_ix (k_ixL K) (pv 1) (pe_op op_mod (pe_op op_fdiv (pv 3) pe_int) pe_int) (fun _ _ => rfl)) pa_nil)))) pa_nil))))))
          (pss_one (ps_ret (pv 2))))), ?_⟩
    refine x_start (τ := [some (.ref a), some (.ref b), none, none, none]) rfl ?_
    walk_at "kk"
    walk_at "rr"
    refine ⟨by walk_at "sz", fun p np => ?_⟩
    walk_at "rr"
    refine fin_L (sql_gr (gr_new np) ha) (fun i σ' H' => ∃ fs pv x3 x4, σ' = [some (.ref a), some (.ref b), some (.ref p), x3, x4] ∧ Gr H H' ∧ H' p = some (.lst pv) ∧ RowsAt H' pv fs ∧ fs.length = i ∧ ∀ f ∈ fs, FactIn so f)
      ⟨[], [], none, none, rfl, gr_new np, upd_same, .nil, rfl, fun _ h => by cases h⟩ (fun i σ' H' _ ⟨_, _, _, _, _, g, _⟩ => sql_gr g ha) ?_ ?_
    · rintro i x σ' H' hx ⟨fs, pv, x3, x4, rfl, g, hp, pr, hlf, hin⟩
      rw [List.getElem?_map] at hx
      obtain ⟨c, hc1, rfl⟩ := Option.map_eq_some_iff.mp hx
      have hi : i < cs.length := (List.getElem?_eq_some_iff.mp hc1).1
      have hpl := paired_len pr
      walk_at "rr"
      refine ⟨by walk_at "sz", fun q nq => ?_⟩
      walk_at "rr"
      obtain ⟨w1, hw1, ew⟩ := word_at (c % 2) (Int.emod_nonneg _ (by decide)) (Int.emod_lt_of_pos _ (by decide))
      refine x_ixL (sql_of upd_same) ew ?_
      have g1 := g.tr (gr_new (o := .lst [V.str "is", V.str "not"]) nq)
      have hp1 := at_new (o := .lst [V.str "is", V.str "not"]) nq hp
      have pr1 := rows_gr (gr_new (o := .lst [V.str "is", V.str "not"]) nq) pr
      generalize upd H' q (.lst [V.str "is", V.str "not"]) = H1 at g1 hp1 pr1 ⊢
      walk_at "rr"
      obtain ⟨n1, hn1, e1⟩ := atI_strs (zs := so) (i := c / 2 % 5) (Int.emod_nonneg _ (by decide)) (by rw [hl5]; exact Int.emod_lt_of_pos _ (by decide))
      refine x_ixL (sql_gr g1 hb) e1 ?_
      walk_at "rr"
      obtain ⟨n2, hn2, e2⟩ := atI_strs (zs := so) (i := c / 10 % 5) (Int.emod_nonneg _ (by decide)) (by rw [hl5]; exact Int.emod_lt_of_pos _ (by decide))
      refine x_ixL (sql_gr g1 hb) e2 ?_
      walk_at "rr"
      refine ⟨by walk_at "sz", fun t nt => ?_⟩
      walk_at "rr"
      have g2 := gr_new (o := .tup [V.str w1, V.str n1, V.str n2]) nt
      refine x_app (g2 _ _ hp1) (by rw [show PySem.sizeLine = 16777216 from by decide]; omega) ?_
      have tp : t ≠ p := (ne_of_none hp1 nt).symm
      walk_at "ds"
      refine ⟨fs ++ [[w1, n1, n2]], pv ++ [.ref t], _, _, rfl, gr_mut (g1.tr g2) np, upd_same, ?_, by rw [List.length_append, List.length_singleton, hlf], fun f hf => ?_⟩
      · refine paired_app (paired_imp pr1 fun x y h => ?_) (.cons ⟨t, rfl, at_ne tp upd_same⟩ .nil)
        obtain ⟨u, e, hu3⟩ := h
        exact ⟨u, e, at_ne (fun z => by rw [z, hp1] at hu3; cases hu3) (g2 _ _ hu3)⟩
      · rcases List.mem_append.mp hf with h | h
        · exact hin f h
        · rw [List.mem_singleton.mp h]; exact ⟨w1, n1, n2, rfl, hw1, hn1, hn2⟩
    · rintro σ' H' ⟨fs, pv, x3, x4, rfl, g, hp, pr, hlf, hin⟩
      rw [List.length_map] at hlf
      walk_at "rr"
      exact k fs pv p H' ⟨hlf, hin⟩ np g hp pr
theorem word_at2 (n : Int) (h0 : 0 ≤ n) (h1 : n < 2) : ∃ w : Str, (w = ("is" : Str) ∨ w = ("not" : Str)) ∧ atI [V.str "not", V.str "is"] n = some (.str w) := by
  obtain ⟨w, hw, e⟩ := atI_strs (zs := ["not", "is"]) h0 h1
  refine ⟨w, ?_, e⟩
  simp only [List.mem_cons, List.not_mem_nil, or_false] at hw
  exact hw.symm
theorem ok__law_many_facts {P : Program} {w : World} {K : PySem.W.Frag} {mg : Str → Option Value} {base : Heap} {f : Addr} {fd : FuncData} (F : Fun K "_law_many_facts" "_law_many_facts" s__law_many_facts f fd) (T : Txt mg) :
    FnOk P w K mg base CX0 1 f fd ["_law_cell", "_law_full", "_law_some"] (sp__law_many_facts K) := by
  have nd := sc__law_many_facts.nd
  have mn_range := T.mn_range
  have mn_int := T.mn_int
  refine F.ok sc__law_many_facts (fun vs H Q E h => ?_) (fun cdv A outer s H vs Q E hr h => ?_)
  · obtain ⟨c0, v, b, full, so, rfl, _⟩ := h
    rfl
  · have hu := hu_of hr
    obtain ⟨c0, v, b, full, so, rfl, hv, hb, hl5, hful, k⟩ := h
    refine ⟨_, (pss_cons (ps_set (i := 3) nd rfl (by first | exact Or.inl rfl | exact Or.inr rfl) (pe_lst pa_nil))
          (pss_cons (ps_set (i := 4) nd rfl (by first | exact Or.inl rfl | exact Or.inr rfl) (pe_op op_fdiv (pv 0) pe_int))
          (pss_cons (ps_for PassesOwn.never rfl (pi_range1 (by rfl) mn_range (pa_cons (pe_op op_add pe_int (pe_op op_mod (pe_op op_fdiv (pv 0) pe_int) pe_int)) pa_nil)) (pg_name (i := 5) nd rfl (by first | exact Or.inl rfl | exact Or.inr rfl))
            (pss_cons (ps_set (i := 6) nd rfl (by first | exact Or.inl rfl | exact Or.inr rfl) (pe_op op_mod (pv 4) pe_int))
          (pss_cons (ps_set (i := 4) nd rfl (by first | exact Or.inl rfl | exact Or.inr rfl) (pe_op op_fdiv (pv 4) pe_int))
          (pss_cons (ps_if (pt_cmpR op_eq (pe_op op_mod (pe_op op_fdiv (pv 0) pe_int) pe_int) pe_int (nomark _))
            (pss_cons (ps_set (i := 6) nd rfl (by first | exact Or.inl rfl | exact Or.inr rfl) (pe_op op_mod (pe_op op_mul (pe_op op_add (pe_op op_mod (pv 0) pe_int) (pe_op op_mul pe_int (pv 5))) pe_int) pe_int))
          (pss_one (ps_set (i := 6) nd rfl (by first | exact Or.inl rfl | exact Or.inr rfl) (pe_op op_mod (pe_op op_mod (pe_op op_mul (pv 6) (pe_op op_add (pe_op op_fdiv (pv 6) pe_int) pe_int)) pe_int) pe_int))))
            pss_nil)
          (pss_cons (ps_set (i := 7) nd rfl (by first | exact Or.inl rfl | exact Or.inr rfl) (pe_ix (k_ixL K) (pv 2) (pe_op op_mod (pv 6) pe_int) (fun _ _ => rfl)))
          (pss_cons (ps_set (i := 8) nd rfl (by first | exact Or.inl rfl | exact Or.inr rfl) (pe_ix (k_ixL K) (pv 2) (pe_op op_mod (pe_op op_fdiv (pv 6) pe_int) pe_int) (fun _ _ => rfl)))
          (pss_cons (ps_set (i := 9) nd rfl (by first | exact Or.inl rfl | exact Or.inr rfl) (pe_cmpR op_ne (pe_cmpR op_eq (pe_dget hu (pv 1) (pv 7) (fun _ _ => rfl)) (pe_dget hu (pv 1) (pv 8) (fun _ _ => rfl)) (nomark _)) (pe_cmpR op_eq (pv 6) pe_int (nomark _)) (nomark _)))
          (pss_one (ps_expr (pe_bm PySem.F.plainAttrs_list PySem.F.slot_list_append PySem.F.type_list_append mt_append (pv 3) (pa_cons (pe_tup (pa_cons (pe_ix (k_ixL K) (pe_lst (pa_cons pe_str (pa_cons pe_str pa_nil))) (pe_callTy cc_int (by rfl) mn_int (by decide +kernel) (pa_cons (pv 9) pa_nil)) (fun _ _ => rfl)) (pa_cons (pv 7) (pa_cons (pv 8) pa_nil)))) pa_nil)))))))))))
          (pss_one (ps_ret (pv 3)))))), ?_⟩
    refine x_start (τ := [some (.int c0), some (.ref v), some (.ref b), none, none, none, none, none, none, none]) rfl ?_
    walk_at "kk"
    walk_at "rr"
    refine ⟨by walk_at "sz", fun p np => ?_⟩
    walk_at "rr"
    have m0 := Int.emod_nonneg (c0 / 4) (show (32 : Int) ≠ 0 by decide)
    have m1 := Int.emod_lt_of_pos (c0 / 4) (show (0 : Int) < 32 by decide)
    obtain ⟨n, hn⟩ : ∃ n : Nat, 9 + c0 / 4 % 32 = (n : Int) := ⟨(9 + c0 / 4 % 32).toNat, by omega⟩
    rw [hn]
    refine fin_R1 (by omega) (fun i σ' H' => ∃ fs pv left x5 x6 x7 x8 x9, σ' = [some (.int c0), some (.ref v), some (.ref b), some (.ref p), some (.int left), x5, x6, x7, x8, x9] ∧ Gr H H' ∧ H' p = some (.lst pv) ∧ RowsAt H' pv fs ∧ fs.length = i ∧ ∀ f ∈ fs, FactIn so f)
      ⟨[], [], _, none, none, none, none, none, rfl, gr_new np, upd_same, .nil, rfl, fun _ h => by cases h⟩ ?_ ?_
    · rintro i σ' H' hi ⟨fs, pv, left, x5, x6, x7, x8, x9, rfl, g, hp, pr, hlf, hin⟩
      have hpl := paired_len pr
      walk_at "rs"
      refine x_join (fun σ2 H2 => ∃ num : Int, σ2 = [some (.int c0), some (.ref v), some (.ref b), some (.ref p), some (.int (left / 100)), some (.int (i : Int)), some (.int num), x7, x8, x9] ∧ H2 = H') ?_ ?_
      · intro N hN
        walk_at "rr"
        refine x_ite (fun _ => ?_) (fun _ => ?_)
        · walk_at "rr"
          exact hN _ _ ⟨_, rfl, rfl⟩
        · walk_at "rr"
          exact hN _ _ ⟨_, rfl, rfl⟩
      rintro σ2 H2 ⟨num, rfl, rfl⟩
      walk_at "ds"
      walk_at "rr"
      obtain ⟨n1, hn1, e1⟩ := atI_strs (zs := so) (i := num % 5) (Int.emod_nonneg _ (by decide)) (by rw [hl5]; exact Int.emod_lt_of_pos _ (by decide))
      refine x_ixL (sql_gr g hb) e1 ?_
      walk_at "rr"
      obtain ⟨n2, hn2, e2⟩ := atI_strs (zs := so) (i := num / 5 % 5) (Int.emod_nonneg _ (by decide)) (by rw [hl5]; exact Int.emod_lt_of_pos _ (by decide))
      refine x_ixL (sql_gr g hb) e2 ?_
      walk_at "rr"
      obtain ⟨y1, hy1⟩ := Option.isSome_iff_exists.mp (hful n1 hn1)
      obtain ⟨y2, hy2⟩ := Option.isSome_iff_exists.mp (hful n2 hn2)
      refine x_dgetK (k := Sum.inr n1) (g _ _ hv) (val_lk hy1) ?_
      walk_at "rr"
      refine x_dgetK (k := Sum.inr n2) (g _ _ hv) (val_lk hy2) ?_
      walk_at "rr"
      refine ⟨by walk_at "sz", fun q nq => ?_⟩
      walk_at "rr"
      obtain ⟨w1, hw1, ew⟩ := word_at2 (if (!decide (V.bl (decide (V.int y1 = V.int y2)) = V.bl (decide (V.int num = V.int 99)))) = true then 1 else 0) (by split <;> omega) (by split <;> omega)
      refine x_ixL (sql_of upd_same) ew ?_
      have g1 := g.tr (gr_new (o := .lst [V.str "not", V.str "is"]) nq)
      have hp1 := at_new (o := .lst [V.str "not", V.str "is"]) nq hp
      have pr1 := paired_imp pr fun _ _ => RowAt.gr (gr_new (o := .lst [V.str "not", V.str "is"]) nq)
      generalize upd H2 q (.lst [V.str "not", V.str "is"]) = H1 at g1 hp1 pr1 ⊢
      walk_at "rr"
      refine ⟨by walk_at "sz", fun t nt => ?_⟩
      walk_at "rr"
      have g2 := gr_new (o := .tup [V.str w1, V.str n1, V.str n2]) nt
      refine x_app (g2 _ _ hp1) (by rw [show PySem.sizeLine = 16777216 from by decide]; omega) ?_
      have tp : t ≠ p := (ne_of_none hp1 nt).symm
      walk_at "ds"
      refine ⟨fs ++ [[w1, n1, n2]], pv ++ [.ref t], _, _, _, _, _, _, rfl, gr_mut (g1.tr g2) np, upd_same, ?_, by rw [List.length_append, List.length_singleton, hlf], fun f hf => ?_⟩
      · refine paired_app (paired_imp pr1 fun x y h => ?_) (.cons ⟨t, rfl, at_ne tp upd_same⟩ .nil)
        obtain ⟨u, e, hu3⟩ := h
        exact ⟨u, e, at_ne (fun z => by rw [z, hp1] at hu3; cases hu3) (g2 _ _ hu3)⟩
      · rcases List.mem_append.mp hf with h | h
        · exact hin f h
        · rw [List.mem_singleton.mp h]; exact ⟨w1, n1, n2, rfl, hw1, hn1, hn2⟩
    · rintro σ' H' ⟨fs, pv, left, x5, x6, x7, x8, x9, rfl, g, hp, pr, hlf, hin⟩
      walk_at "rr"
      exact k fs pv p H' ⟨by omega, hin⟩ np g hp pr
theorem ok__law_holds {P : Program} {w : World} {K : PySem.W.Frag} {mg : Str → Option Value} {base : Heap} {f : Addr} {fd : FuncData} (F : Fun K "_law_holds" "_law_holds" s__law_holds f fd) (T : Txt mg) :
    FnOk P w K mg base CX0 1 f fd ["_law_values", "_law_fact"] (sp__law_holds K) := by
  have nd := sc__law_holds.nd
  refine F.ok sc__law_holds (fun vs H Q E h => ?_) (fun cdv A outer s H vs Q E hr h => ?_)
  · obtain ⟨v, f1, full, w1, a, b, x, y, rfl, _⟩ := h
    rfl
  · have hu := hu_of hr
    obtain ⟨v, f1, full, w1, a, b, x, y, rfl, hv, hf, ha, hb, k⟩ := h
    refine ⟨_, (pss_one (ps_ret (pe_cmpR op_eq (pe_cmpR op_eq (pe_dget hu (pv 0) (pe_ix (k_ixT K) (pv 1) pe_int (fun _ _ => rfl)) (fun _ _ => rfl)) (pe_dget hu (pv 0) (pe_ix (k_ixT K) (pv 1) pe_int (fun _ _ => rfl)) (fun _ _ => rfl)) (nomark _)) (pe_cmpR op_eq (pe_ix (k_ixT K) (pv 1) pe_int (fun _ _ => rfl)) pe_str (nomark _)) (nomark _)))), ?_⟩
    refine x_start (τ := [some (.ref v), some (.ref f1)]) rfl ?_
    walk_at "kk"
    have hf' : H f1 = some (.tup [.str w1, .str a, .str b]) := hf
    walk_at "rr"
    refine x_dgetK (k := Sum.inr a) hv (val_lk ha) ?_
    walk_at "rr"
    refine x_dgetK (k := Sum.inr b) hv (val_lk hb) ?_
    walk_at "rr"
    rw [dec_int, dec_str, dec_bl]
    exact k
theorem dp_rows {K : PySem.W.Frag} {H : Hp} : ∀ {as : List Addr} {rows : List (List Int)}, Paired (fun a (row : List Int) => H a = some (.lst (row.map V.int))) as rows → DpAll K H (as.map V.ref) (rows.map fun r => PyData.list (r.map PyData.int))
  | _, _, .nil => .nil
  | _, _, .cons h t => .cons (dp_ints h) (dp_rows t)
theorem shaped_rows (rows : List (List Int)) : SeqAt.shaped (.list (rows.map fun r => PyData.list (r.map PyData.int))) = true := by
  have c : ∀ rows : List (List Int), PyData.canLayAll0 (rows.map fun r => PyData.list (r.map PyData.int)) = true ∧ PyData.depthAll (rows.map fun r => PyData.list (r.map PyData.int)) ≤ 2 := by
    intro rows
    induction rows with
    | nil => exact ⟨rfl, by simp [PyData.depthAll]⟩
    | cons r t ih =>
      have h1 := lay_ints r
      have h2 := depth_ints r
      refine ⟨?_, ?_⟩
      · show (PyData.canLayAll0 (r.map PyData.int) && PyData.canLayAll0 (t.map fun r => PyData.list (r.map PyData.int))) = true
        rw [h1, ih.1]; rfl
      · rw [List.map_cons]
        simp only [PyData.depthAll, PyData.depth]
        omega
  obtain ⟨c1, c2⟩ := c rows
  unfold SeqAt.shaped
  have dd : PyData.depth (.list (rows.map fun r => PyData.list (r.map PyData.int))) ≤ 64 := by
    simp only [PyData.depth]; omega
  rw [decide_eq_true dd]
  simp only [PyData.canLay0, c1, Bool.and_self]
theorem ok__law_told {P : Program} {w : World} {K : PySem.W.Frag} {mg : Str → Option Value} {base : Heap} {f : Addr} {fd : FuncData} (F : Fun K "_law_told" "_law_told" s__law_told f fd) (T : Txt mg) :
    FnOk P w K mg base CX0 1 f fd ["_law_found", "_law_due_here"] (sp__law_told K) := by
  have nd := sc__law_told.nd
  have mn_isinstance := T.mn_isinstance
  have mn_list := T.mn_list
  have mn_len := T.mn_len
  have mn_bool := T.mn_bool
  have mn_int := T.mn_int
  refine F.ok sc__law_told (fun vs H Q E h => ?_) (fun cdv A outer s H vs Q E hr h => ?_)
  · rcases h with ⟨rfl, _⟩ | ⟨q, d, as, bs, rows, rfl, _⟩ <;> rfl
  · have hu := hu_of hr
    rcases h with ⟨rfl, k⟩ | ⟨q, d, as, bs, rows, rfl, hq, hd, pa, pb, k⟩
    · refine ⟨_, (pss_cons (ps_if (pt_cmpR oo_isN (pv 1) pe_non (nomark _))
            (pss_one (ps_ret (pe_cmpR oo_isN (pv 0) pe_non (nomark _))))
            pss_nil)
          (pss_cons (ps_if (PW.pt (pw_or (pt_not (pt_val (pe_callB (k_isi K) (by rfl) mn_isinstance (by decide +kernel) (pa_cons (pv 0) (pa_cons (pe_bltn (v := .ty "list") (by rfl) mn_list (by decide +kernel) rfl) pa_nil))))) (pw_or1 (pt_cmpR op_ne (pe_callB (k_len K) (by rfl) mn_len (by decide +kernel) (pa_cons (pv 0) pa_nil)) (pe_callB (k_len K) (by rfl) mn_len (by decide +kernel) (pa_cons (pv 1) pa_nil)) (nomark _)))))
            (pss_one (ps_ret pe_bl))
            pss_nil)
          (pss_cons (ps_for PassesOwn.never rfl (k_pil K (pv 0)) (pg_name (i := 2) nd rfl (by first | exact Or.inl rfl | exact Or.inr rfl))
            (pss_cons (ps_if (pt_not (pt_val (pe_callB (k_isi K) (by rfl) mn_isinstance (by decide +kernel) (pa_cons (pv 2) (pa_cons (pe_bltn (v := .ty "list") (by rfl) mn_list (by decide +kernel) rfl) pa_nil)))))
            (pss_one (ps_ret pe_bl))
            pss_nil)
          (pss_one (ps_for PassesOwn.never rfl (k_pil K (pv 2)) (pg_name (i := 3) nd rfl (by first | exact Or.inl rfl | exact Or.inr rfl))
            (pss_one (ps_if (PW.pt (pw_or (pt_not (pt_val (pe_callB (k_isi K) (by rfl) mn_isinstance (by decide +kernel) (pa_cons (pv 3) (pa_cons (pe_bltn (v := .ty "int") (by rfl) mn_int (by decide +kernel) rfl) pa_nil))))) (pw_or1 (pt_val (pe_callB (k_isi K) (by rfl) mn_isinstance (by decide +kernel) (pa_cons (pv 3) (pa_cons (pe_bltn (v := .ty "bool") (by rfl) mn_bool (by decide +kernel) rfl) pa_nil)))))))
            (pss_one (ps_ret pe_bl))
            pss_nil))))))
          (pss_one (ps_ret (pe_cmpR (k_eqD K hr.units) (pv 0) (pv 1) (nomark _))))))), ?_⟩
      refine x_start (τ := [some .non, some .non, none, none]) rfl ?_
      walk_at "kk"
      walk_at "rr"
      refine x_ite (fun _ => ?_) (fun c => by cases c)
      walk_at "rr"
      exact k
    · refine ⟨_, (pss_cons (ps_if (pt_cmpR oo_isN (pv 1) pe_non (nomark _))
            (pss_one (ps_ret (pe_cmpR oo_isN (pv 0) pe_non (nomark _))))
            pss_nil)
          (pss_cons (ps_if (PW.pt (pw_or (pt_not (pt_val (pe_callB (k_isi K) (by rfl) mn_isinstance (by decide +kernel) (pa_cons (pv 0) (pa_cons (pe_bltn (v := .ty "list") (by rfl) mn_list (by decide +kernel) rfl) pa_nil))))) (pw_or1 (pt_cmpR op_ne (pe_callB (k_len K) (by rfl) mn_len (by decide +kernel) (pa_cons (pv 0) pa_nil)) (pe_callB (k_len K) (by rfl) mn_len (by decide +kernel) (pa_cons (pv 1) pa_nil)) (nomark _)))))
            (pss_one (ps_ret pe_bl))
            pss_nil)
          (pss_cons (ps_for PassesOwn.never rfl (k_pil K (pv 0)) (pg_name (i := 2) nd rfl (by first | exact Or.inl rfl | exact Or.inr rfl))
            (pss_cons (ps_if (pt_not (pt_val (pe_callB (k_isi K) (by rfl) mn_isinstance (by decide +kernel) (pa_cons (pv 2) (pa_cons (pe_bltn (v := .ty "list") (by rfl) mn_list (by decide +kernel) rfl) pa_nil)))))
            (pss_one (ps_ret pe_bl))
            pss_nil)
          (pss_one (ps_for PassesOwn.never rfl (k_pil K (pv 2)) (pg_name (i := 3) nd rfl (by first | exact Or.inl rfl | exact Or.inr rfl))
            (pss_one (ps_if (PW.pt (pw_or (pt_not (pt_val (pe_callB (k_isi K) (by rfl) mn_isinstance (by decide +kernel) (pa_cons (pv 3) (pa_cons (pe_bltn (v := .ty "int") (by rfl) mn_int (by decide +kernel) rfl) pa_nil))))) (pw_or1 (pt_val (pe_callB (k_isi K) (by rfl) mn_isinstance (by decide +kernel) (pa_cons (pv 3) (pa_cons (pe_bltn (v := .ty "bool") (by rfl) mn_bool (by decide +kernel) rfl) pa_nil)))))))
            (pss_one (ps_ret pe_bl))
            pss_nil))))))
          (pss_one (ps_ret (pe_cmpR (k_eqD K hr.units) (pv 0) (pv 1) (nomark _))))))), ?_⟩
      refine x_start (τ := [some (.ref q), some (.ref d), none, none]) rfl ?_
      walk_at "kk"
      walk_at "rr"
      refine x_ite (fun c => by cases c) (fun _ => ?_)
      walk_at "rr"
      refine x_isi (tx_lst hq) (r := true) (by decide +kernel) ?_
      walk_at "rr"
      refine x_ite (fun c => by cases c) (fun _ => ?_)
      walk_at "rr"
      refine x_lenL (sql_of hq) ?_
      walk_at "rr"
      refine x_lenL (sql_of hd) ?_
      rw [List.length_map, List.length_map, pr_len pa, pr_len pb]
      walk_at "rr"
      refine x_ite (fun c => by rw [decide_eq_true rfl] at c; cases c) (fun _ => ?_)
      walk_at "rr"
      refine fin_L (sql_of hq) (fun i σ' H' => ∃ x2 x3, σ' = [some (.ref q), some (.ref d), x2, x3] ∧ H = H') ⟨none, none, rfl, rfl⟩ (fun i σ' H' _ ⟨_, _, _, e⟩ => by rw [← e]; exact sql_of hq) ?_ ?_
      · rintro i x σ' H' hx ⟨x2, x3, rfl, rfl⟩
        rw [List.getElem?_map] at hx
        obtain ⟨a, ha, rfl⟩ := Option.map_eq_some_iff.mp hx
        obtain ⟨row, _, hra⟩ := pr_get pa ha
        walk_at "rr"
        refine x_isi (tx_lst hra) (r := true) (by decide +kernel) ?_
        walk_at "rr"
        refine x_ite (fun c => by cases c) (fun _ => ?_)
        walk_at "rr"
        refine fin_L (sql_of hra) (fun i σ' H' => ∃ x3, σ' = [some (.ref q), some (.ref d), some (.ref a), x3] ∧ H = H') ⟨_, rfl, rfl⟩ (fun i σ' H' _ ⟨_, _, e⟩ => by rw [← e]; exact sql_of hra) ?_ ?_
        · rintro j x σ' H' hx ⟨x3, rfl, rfl⟩
          rw [List.getElem?_map] at hx
          obtain ⟨z, hz, rfl⟩ := Option.map_eq_some_iff.mp hx
          walk_at "rr"
          refine x_isi tx_int (r := true) (by decide +kernel) ?_
          walk_at "rr"
          refine x_ite (fun c => by cases c) (fun _ => ?_)
          walk_at "rr"
          refine x_isi tx_int (r := false) (by decide +kernel) ?_
          walk_at "rr"
          refine x_ite (fun c => by cases c) (fun _ => ?_)
          walk_at "rr"
          exact ⟨_, rfl, rfl⟩
        · rintro σ' H' ⟨x3, rfl, rfl⟩
          walk_at "rr"
          exact ⟨_, _, rfl, rfl⟩
      · rintro σ' H' ⟨x2, x3, rfl, rfl⟩
        walk_at "rr"
        refine x_eqD (.lst (sql_of hq) (dp_rows pa)) (.lst (sql_of hd) (dp_rows pb)) (shaped_rows rows) (shaped_rows rows) ?_
        rw [shaped_refl (shaped_rows rows)]
        exact k
theorem ok__law_due {P : Program} {w : World} {K : PySem.W.Frag} {mg : Str → Option Value} {base : Heap} {f : Addr} {fd : FuncData} (F : Fun K "_law_due" "_law_due" s__law_due f fd) (T : Txt mg) :
    FnOk P w K mg base CX0 1 f fd ["_law_full", "_law_heap_here", "_law_part", "_law_hold"] (sp__law_due K) := by
  have nd := sc__law_due.nd
  refine F.ok sc__law_due (fun vs H Q E h => ?_) (fun cdv A outer s H vs Q E hr h => ?_)
  · obtain ⟨v, h0, t, full, hs, x, f1, s1, z, hold, rfl, _⟩ := h
    rfl
  · have hu := hu_of hr
    obtain ⟨v, h0, t, full, hs, x, f1, s1, z, hold, rfl, hv, hh, ht, hx, k⟩ := h
    refine ⟨_, (pss_cons (ps_set (i := 4) nd rfl (by first | exact Or.inl rfl | exact Or.inr rfl) (pe_dget1 hu (pv 1) (pe_dget hu (pv 0) (pe_ix (k_ixT K) (pv 2) pe_int (fun _ _ => rfl)) (fun _ _ => rfl)) ⟨by rfl, by rfl, by rfl, by rfl⟩))
          (pss_cons (ps_if (PW.pt (pw_or (pt_not (pt_val (pv 3))) (pw_or1 (pt_cmpR oo_isN (pv 4) pe_non (nomark _)))))
            (pss_one (ps_ret pe_non))
            pss_nil)
          (pss_cons (ps_if (PW.pt (pw_or (pt_cmpR op_ne (pe_dget2 hu (pv 0) (pe_ix (k_ixT K) (pv 2) pe_int (fun _ _ => rfl)) (pe_ix (k_ixT K) (pv 4) pe_int (fun _ _ => rfl)) ⟨by rfl, by rfl, by rfl, by rfl⟩) (pe_ix (k_ixT K) (pv 4) pe_int (fun _ _ => rfl)) (nomark _)) (pw_or1 (pt_cmpR op_ne (pe_dget2 hu (pv 0) (pe_ix (k_ixT K) (pv 2) pe_int (fun _ _ => rfl)) (pe_ix (k_ixT K) (pv 4) pe_int (fun _ _ => rfl)) ⟨by rfl, by rfl, by rfl, by rfl⟩) (pe_ix (k_ixT K) (pv 4) pe_int (fun _ _ => rfl)) (nomark _)))))
            (pss_one (ps_ret pe_non))
            pss_nil)
          (pss_one (ps_ret (pe_lst (pa_cons (pe_lst (pa_cons (pe_dget hu (pv 0) (pe_ix (k_ixT K) (pv 2) pe_int (fun _ _ => rfl)) (fun _ _ => rfl)) pa_nil)) pa_nil))))))), ?_⟩
    refine x_start (τ := [some (.ref v), some (.ref h0), some (.ref t), some (.bl hold), none]) rfl ?_
    walk_at "kk"
    have ht' : H t = some (.tup [.str "cell", .str x, .str f1, .str s1]) := ht
    obtain ⟨kvs, h1, h2⟩ := id hh
    walk_at "rr"
    refine ⟨h0, rfl, .inl ⟨_, .inl h1⟩, ?_⟩
    walk_at "rr"
    refine x_dgetK (k := Sum.inr x) hv (val_lk hx) ?_
    refine ⟨_, DGet.k (k := Sum.inl z) h1, ?_⟩
    rcases valV_cells h2 z with ⟨e1, e2⟩ | ⟨a1, a2, t1, e1, e2, e3⟩
    · rw [e2]
      walk_at "rr"
      have ek : (if hold = true then cellD full hs z f1 s1 else none) = none := by
        cases hold
        · rfl
        · rw [if_pos rfl]; unfold cellD; rw [e1]
      rw [ek] at k
      refine x_ite (fun _ => ?_) (fun _ => ?_)
      · refine x_ite (fun _ => ?_) (fun c => by cases c)
        walk_at "rr"
        exact k.1 rfl _ Gr.rfl
      · walk_at "rr"
        refine x_ite (fun _ => ?_) (fun c => by cases c)
        walk_at "rr"
        exact k.1 rfl _ Gr.rfl
    · rw [e2]
      walk_at "rr"
      cases hold with
      | false =>
        refine x_ite (fun _ => ?_) (fun c => by cases c)
        refine x_ite (fun _ => ?_) (fun c => by cases c)
        walk_at "rr"
        exact k.1 rfl _ Gr.rfl
      | true =>
        rw [if_pos rfl] at k
        unfold cellD at k
        rw [e1] at k
        dsimp only at k
        refine x_ite (fun c => by cases c) (fun _ => ?_)
        walk_at "rr"
        refine x_ite (fun c => by cases c) (fun _ => ?_)
        walk_at "rr"
        refine ⟨v, rfl, .inl ⟨_, .inl hv⟩, ?_⟩
        walk_at "rr"
        refine ⟨_, DGet.k (k := Sum.inr f1) hv, ?_⟩
        rw [valV_vals, show ((lk full f1).map V.int).getD (V.int a1) = V.int ((lk full f1).getD a1) by cases lk full f1 <;> rfl]
        walk_at "rr"
        rw [dec_int]
        refine x_ite (fun c => ?_) (fun c => ?_)
        · have c2 : ¬ (lk full f1).getD a1 = a1 := fun e => by rw [e, beq_self_eq_true] at c; cases c
          rw [if_neg (fun e => c2 e.1)] at k
          refine x_ite (fun _ => ?_) (fun c => by cases c)
          walk_at "rr"
          exact k.1 rfl _ Gr.rfl
        · have c2 : (lk full f1).getD a1 = a1 := by
            cases d : ((lk full f1).getD a1 == a1) with
            | true => exact beq_iff_eq.mp d
            | false => rw [d] at c; cases c
          walk_at "rr"
          refine ⟨v, rfl, .inl ⟨_, .inl hv⟩, ?_⟩
          walk_at "rr"
          refine ⟨_, DGet.k (k := Sum.inr s1) hv, ?_⟩
          rw [valV_vals, show ((lk full s1).map V.int).getD (V.int a2) = V.int ((lk full s1).getD a2) by cases lk full s1 <;> rfl]
          walk_at "rr"
          rw [dec_int]
          refine x_ite (fun d => ?_) (fun d => ?_)
          · have d2 : ¬ (lk full s1).getD a2 = a2 := fun e => by rw [e, beq_self_eq_true] at d; cases d
            rw [if_neg (fun e => d2 e.2)] at k
            walk_at "rr"
            exact k.1 rfl _ Gr.rfl
          · have d2 : (lk full s1).getD a2 = a2 := by
              cases e : ((lk full s1).getD a2 == a2) with
              | true => exact beq_iff_eq.mp e
              | false => rw [e] at d; cases d
            rw [if_pos ⟨c2, d2⟩] at k
            walk_at "rr"
            refine x_dgetK (k := Sum.inr x) hv (val_lk hx) ?_
            walk_at "rr"
            refine ⟨by walk_at "sz", fun p1 np1 => ?_⟩
            walk_at "rr"
            refine ⟨by walk_at "sz", fun p2 np2 => ?_⟩
            refine k.2 [[z]] rfl p2 [p1] _ (free_new np2) (fun a ha => by rw [List.mem_singleton.mp ha]; exact np1) ?_ ((gr_new np1).tr (gr_new np2)) upd_same (.cons (at_new np2 upd_same) .nil)
            have ne : p2 ≠ p1 := (ne_of_none upd_same np2).symm
            exact List.nodup_cons.mpr ⟨fun h => ne (List.mem_singleton.mp h), List.nodup_cons.mpr ⟨(fun h => by cases h), List.nodup_nil⟩⟩
theorem ok__law_is {P : Program} {w : World} {K : PySem.W.Frag} {mg : Str → Option Value} {base : Heap} {f : Addr} {fd : FuncData} (F : Fun K "_law_is" "_law_is" s__law_is f fd) (T : Txt mg) :
    FnOk P w K mg base CX0 1 f fd ["_law_found", "_law_due_here"] (sp__law_is K) := by
  have nd := sc__law_is.nd
  have mn_isinstance := T.mn_isinstance
  have mn_bool := T.mn_bool
  refine F.ok sc__law_is (fun vs H Q E h => ?_) (fun cdv A outer s H vs Q E hr h => ?_)
  · obtain ⟨x, y, rfl, _⟩ := h
    rfl
  · have hu := hu_of hr
    obtain ⟨x, y, rfl, k⟩ := h
    refine ⟨_, (pss_one (ps_ret (pe_and (pe_callB (k_isi K) (by rfl) mn_isinstance (by decide +kernel) (pa_cons (pv 0) (pa_cons (pe_bltn (v := .ty "bool") (by rfl) mn_bool (by decide +kernel) rfl) pa_nil))) (pe_one (pe_cmpR op_eq (pv 0) (pv 1) (nomark _)))))), ?_⟩
    refine x_start (τ := [some (.bl x), some (.bl y)]) rfl ?_
    walk_at "kk"
    walk_at "rr"
    refine x_isi (r := true) tx_bl (by decide +kernel) ?_
    walk_at "rr"
    refine x_ite (fun _ => ?_) (fun c => by cases c)
    walk_at "rr"
    rw [dec_bl]
    exact k
theorem inV_nilany (x : Str) : inV (.str x) [.str "nil", .str "any"] = !isN x := by
  unfold inV isN
  show ((("nil" : Str) == x) || ((("any" : Str) == x) || false)) = _
  have c : ∀ a b : Str, (a == b) = (b == a) := fun a b => by
    by_cases e : a = b
    · rw [e]
    · rw [beq_eq_false_iff_ne.mpr e, beq_eq_false_iff_ne.mpr (fun z => e z.symm)]
  rw [c "nil" x, c "any" x, Bool.or_false, Bool.not_not]
def isNV : V → Bool
  | .str x => isN x
  | _ => false
theorem filt_strs (xs : List Str) : ((xs.map V.str).filter isNV).map (fun x => x) = (xs.filter isN).map V.str := by
  rw [List.map_id']
  induction xs with
  | nil => rfl
  | cons x r ih =>
    rw [List.map_cons, List.filter_cons, List.filter_cons]
    show (if isN x = true then _ else _) = _
    cases isN x with
    | true => rw [if_pos rfl, if_pos rfl, List.map_cons, ih]
    | false => rw [if_neg Bool.false_ne_true, if_neg Bool.false_ne_true, ih]
theorem ok_names_of {P : Program} {w : World} {K : PySem.W.Frag} {mg : Str → Option Value} {base : Heap} {f : Addr} {fd : FuncData} (F : Fun K "names_of" "names_of" s_names_of f fd) (T : Txt mg)
    (D_words_of : Df P w K mg base "words_of" 1 ["telling"] (sp_words_of K)) :
    FnOk P w K mg base CX0 2 f fd ["telling"] (sp_names_of K) := by
  have nd := sc_names_of.nd
  have mn_sorted := T.mn_sorted
  have mn_set := T.mn_set
  refine F.ok sc_names_of (fun vs H Q E h => ?_) (fun cdv A outer s H vs Q E hr h => ?_)
  · obtain ⟨t, fs, ps, rfl, _⟩ := h
    rfl
  · have hu := hu_of hr
    obtain ⟨t, fs, ps, rfl, hT, ⟨hR, hz, h64⟩, k⟩ := h
    refine ⟨_, (pss_one (ps_ret (pe_callB (cr_sortTx rfl) (by rfl) mn_sorted (by decide +kernel) (pa_cons (pe_callTy (cr_setTx rfl) (by rfl) mn_set (by decide +kernel) (pa_cons (pe_lc (own := [("word", 1)]) (g := (gName 1)) rfl nd (k_pil K (pe_df D_words_of hr (pa_cons (pv 0) pa_nil))) (blkOk_by (N := N_names_of) (sc := defScope s_names_of) (own := [("word", 1)]) (by decide +kernel)) (fun _ _ _ _ _ => (pg_name (i := 1) nd rfl (by first | exact Or.inl rfl | exact Or.inr rfl))) (fun _ _ _ _ _ => (pts_one (pt_cmpR (k_ninS K) (pv 1) (pe_tup (pa_cons pe_str (pa_cons pe_str pa_nil))) (by rfl)))) (fun _ _ _ _ _ => (pv 1))) pa_nil)) pa_nil)))), ?_⟩
    refine x_start (τ := [some (.ref t), none]) rfl ?_
    walk_at "kk"
    walk_at "rr"
    refine ⟨t, fs, ps, rfl, hT, hR, hz, fun p H1 np g1 hp => ?_⟩
    have hl := wordsL_len (fs ++ ps) hR
    refine fin_lcF isNV (fun x => x) (sql_of hp) ?_ (fun _ => rfl) ?_ ?_ ?_
    · rw [List.length_map]; omega
    · intro x H' hx g R r
      obtain ⟨y, _, rfl⟩ := List.mem_map.mp hx
      walk_at "rr"
      refine ⟨by decide, fun u nu => ?_⟩
      refine x_inT (sqt_of upd_same) rfl rfl ?_
      walk_at "rr"
      have e : (if true = true then !inV (.str y) [.str "nil", .str "any"] else inV (.str y) [.str "nil", .str "any"]) = isNV (.str y) := by
        rw [if_pos rfl, inV_nilany, Bool.not_not]
        rfl
      rw [e]
      exact r _ (gr_new nu)
    · intro x H' hx _ g R r
      walk_at "rr"
      exact r _ Gr.rfl
    · intro D H' nD g hD
      rw [filt_strs] at hD
      walk_at "rr"
      have hlf : ((wordsL (fs ++ ps)).filter isN).length < 4000 := Nat.lt_of_le_of_lt (List.length_filter_le _ _) (by omega)
      refine ⟨D, _, rfl, sql_of hD, hlf, fun s ns => ?_⟩
      walk_at "rr"
      refine ⟨s, _, rfl, upd_same, h64, fun ys q pm hs nq => ?_⟩
      walk_at "rr"
      have gg : Gr H H' := g1.tr g
      exact k ys q _ pm hs (gr_free gg (gr_free (gr_new ns) nq)) ((gg.tr (gr_new ns)).tr (gr_new nq)) upd_same
theorem ok_holds {P : Program} {w : World} {K : PySem.W.Frag} {mg : Str → Option Value} {base : Heap} {f : Addr} {fd : FuncData} (F : Fun K "holds" "holds" s_holds f fd) (T : Txt mg)
    (D_value_of : Df P w K mg base "value_of" 1 ["values", "name"] (sp_value_of K)) :
    FnOk P w K mg base CX0 2 f fd ["values", "fact"] (sp_holds K) := by
  have nd := sc_holds.nd
  refine F.ok sc_holds (fun vs H Q E h => ?_) (fun cdv A outer s H vs Q E hr h => ?_)
  · obtain ⟨v, f0, vals, ws, rfl, _⟩ := h
    rfl
  · have hu := hu_of hr
    obtain ⟨v, f0, vals, ws, rfl, hv, hf, ⟨w0, a, b, rfl, ha, hb⟩, k⟩ := h
    refine ⟨_, (pss_cons (ps_set (i := 2) nd rfl (by first | exact Or.inl rfl | exact Or.inr rfl) (pe_cmpR op_eq (pe_df D_value_of hr (pa_cons (pv 0) (pa_cons (pe_ix (k_ixT K) (pv 1) pe_int (fun _ _ => rfl)) pa_nil))) (pe_df D_value_of hr (pa_cons (pv 0) (pa_cons (pe_ix (k_ixT K) (pv 1) pe_int (fun _ _ => rfl)) pa_nil))) (nomark _)))
          (pss_one (ps_ret (pe_cmpR op_eq (pv 2) (pe_cmpR op_eq (pe_ix (k_ixT K) (pv 1) pe_int (fun _ _ => rfl)) pe_str (nomark _)) (nomark _))))), ?_⟩
    refine x_start (τ := [some (.ref v), some (.ref f0), none]) rfl ?_
    walk_at "kk"
    walk_at "rr"
    refine ⟨v, a, vals, rfl, hv, ha, ?_⟩
    walk_at "rr"
    refine ⟨v, b, vals, rfl, hv, hb, ?_⟩
    walk_at "rr"
    have e : decide (V.bl (decide (V.int (vo vals a) = V.int (vo vals b))) = V.bl (decide (V.str w0 = V.str (Str.ofString "is")))) = holdsM vals [w0, a, b] := by
      rw [dec_bl, dec_int, dec_str]
      rfl
    rw [e]
    exact k
theorem ok_is_due {P : Program} {w : World} {K : PySem.W.Frag} {mg : Str → Option Value} {base : Heap} {f : Addr} {fd : FuncData} (F : Fun K "is_due" "is_due" s_is_due f fd) (T : Txt mg)
    (D_value_of : Df P w K mg base "value_of" 1 ["values", "name"] (sp_value_of K)) :
    FnOk P w K mg base CX0 2 f fd ["values", "name", "number"] (sp_is_due K) := by
  have nd := sc_is_due.nd
  refine F.ok sc_is_due (fun vs H Q E h => ?_) (fun cdv A outer s H vs Q E hr h => ?_)
  · obtain ⟨v, n, z, vals, rfl, _⟩ := h
    rfl
  · have hu := hu_of hr
    obtain ⟨v, n, z, vals, rfl, hv, hn, k⟩ := h
    refine ⟨_, (pss_one (ps_ret (pe_or (pe_cmpR op_eq (pv 1) pe_str (nomark _)) (pe_one (pe_cmpR op_eq (pe_df D_value_of hr (pa_cons (pv 0) (pa_cons (pv 1) pa_nil))) (pv 2) (nomark _)))))), ?_⟩
    refine x_start (τ := [some (.ref v), some (.str n), some (.int z)]) rfl ?_
    walk_at "kk"
    walk_at "rr"
    rw [dec_str]
    refine x_ite (fun c => ?_) (fun c => ?_)
    · walk_at "rr"
      have e : dueM vals n z = true := by
        unfold dueM
        rw [show (n == ("any" : Str)) = true from c, Bool.true_or]
      rw [e] at k
      exact k
    · walk_at "rr"
      have hn2 : Has vals n := hn.resolve_left fun e => by
        have c2 : (n == ("any" : Str)) = false := c
        rw [e, beq_self_eq_true] at c2
        cases c2
      refine ⟨v, n, vals, rfl, hv, hn2, ?_⟩
      walk_at "rr"
      have e : dueM vals n z = decide (V.int (vo vals n) = V.int z) := by
        unfold dueM
        rw [show (n == ("any" : Str)) = false from c, Bool.false_or, dec_int]
      rw [e] at k
      exact k
theorem ok_stretch_taken {P : Program} {w : World} {K : PySem.W.Frag} {mg : Str → Option Value} {base : Heap} {f : Addr} {fd : FuncData} (F : Fun K "stretch_taken" "stretch_taken" s_stretch_taken f fd) (T : Txt mg)
    (D_value_of : Df P w K mg base "value_of" 1 ["values", "name"] (sp_value_of K)) :
    FnOk P w K mg base CX0 2 f fd ["values", "heap", "part"] (sp_stretch_taken K) := by
  have nd := sc_stretch_taken.nd
  refine F.ok sc_stretch_taken (fun vs H Q E h => ?_) (fun cdv A outer s H vs Q E hr h => ?_)
  · obtain ⟨v, h0, p, vals, hs, ws, rfl, _⟩ := h
    rfl
  · have hu := hu_of hr
    obtain ⟨v, h0, p, vals, hs, ws, rfl, hv, hh, hl, hp, ⟨a, b, rfl, ha, hb⟩, k⟩ := h
    refine ⟨_, (pss_cons (ps_set (i := 3) nd rfl (by first | exact Or.inl rfl | exact Or.inr rfl) (pe_df D_value_of hr (pa_cons (pv 0) (pa_cons (pe_ix (k_ixT K) (pv 2) pe_int (fun _ _ => rfl)) pa_nil))))
          (pss_cons (ps_set (i := 4) nd rfl (by first | exact Or.inl rfl | exact Or.inr rfl) (pe_df D_value_of hr (pa_cons (pv 0) (pa_cons (pe_ix (k_ixT K) (pv 2) pe_int (fun _ _ => rfl)) pa_nil))))
          (pss_cons (ps_set (i := 5) nd rfl (by first | exact Or.inl rfl | exact Or.inr rfl) (pe_lst pa_nil))
          (pss_cons (ps_while PassesOwn.never (pt_cmpR op_ne (pv 3) (pv 4) (nomark _))
            (pss_cons (ps_if (PW.pt (pw_or (pt_cmp (pc_dnotin hu (pv 3) (pv 1))) (pw_or1 (pt_cmpR (k_inS K) (pv 3) (pv 5) (by rfl)))))
            (pss_one (ps_ret pe_non))
            pss_nil)
          (pss_cons (ps_expr (pe_bm PySem.F.plainAttrs_list PySem.F.slot_list_append PySem.F.type_list_append mt_append (pv 5) (pa_cons (pv 3) pa_nil)))
          (pss_one (ps_set (i := 3) nd rfl (by first | exact Or.inl rfl | exact Or.inr rfl) (pe_ix (k_ixT K) (pe_dget hu (pv 1) (pv 3) (fun _ _ => rfl)) pe_int (fun _ _ => rfl)))))))
          (pss_one (ps_ret (pv 5))))))), ?_⟩
    refine x_start (τ := [some (.ref v), some (.ref h0), some (.ref p), none, none, none]) rfl ?_
    walk_at "kk"
    walk_at "rr"
    refine ⟨v, a, vals, rfl, hv, ha, ?_⟩
    walk_at "rr"
    refine ⟨v, b, vals, rfl, hv, hb, ?_⟩
    walk_at "rr"
    refine ⟨by decide, fun q nq => ?_⟩
    walk_at "rr"
    obtain ⟨kvs, h1, h2⟩ := id hh
    have k2 : takenM vals hs [("stretch" : Str), a, b] = alongM hs (vo vals a) (vo vals b) := rfl
    rw [k2] at k
    refine x_while (fun m σ' H' => ∃ z row, σ' = [some (.ref v), some (.ref h0), some (.ref p), some (.int z), some (.int (vo vals b)), some (.ref q)] ∧ Gr H H' ∧ H' q = some (.lst (row.map V.int)) ∧ Row hs row ∧ m + row.length = hs.length + 1 ∧ alongM hs (vo vals a) (vo vals b) = alongF hs (vo vals b) m z row)
      (hs.length + 1) ⟨vo vals a, [], rfl, gr_new nq, upd_same, .nil, rfl, rfl⟩ ?_
    rintro m σ' H' ⟨z, row, rfl, g, hq, hr2, hm, he⟩
    have hrl := hr2.len
    obtain ⟨n, rfl⟩ : ∃ n, m = n + 1 := ⟨m - 1, by omega⟩
    walk_at "rr"
    rw [dec_int]
    refine x_ite (fun c => ?_) (fun c => ?_)
    · have hz : z ≠ vo vals b := by
        intro e
        rw [e, beq_self_eq_true] at c
        cases c
      refine ⟨_, fun _ _ h => h, ?_⟩
      walk_at "rr"
      refine x_dninK (k := Sum.inl z) (g _ _ h1) ?_
      walk_at "rr"
      rw [alongF, if_neg hz] at he
      rcases valV_cells h2 z with ⟨e1, e2⟩ | ⟨f1, s1, t1, e1, e2, e3⟩
      · rw [e2]
        refine x_ite (fun _ => ?_) (fun c => by cases c)
        refine x_ite (fun _ => ?_) (fun c => by cases c)
        walk_at "rr"
        rw [e1] at he
        exact k.1 he _ g
      · rw [e2]
        refine x_ite (fun c => by cases c) (fun _ => ?_)
        walk_at "rr"
        refine x_inL (sql_of hq) rfl (flat_ints row) ?_
        rw [if_neg Bool.false_ne_true, inV_ints]
        walk_at "rr"
        rw [e1] at he
        refine x_ite (fun c => ?_) (fun c => ?_)
        · walk_at "rr"
          refine k.1 ?_ _ g
          rw [he]
          exact if_pos (of_decide_eq_true c)
        · walk_at "rr"
          have nr : z ∉ row := of_decide_eq_false c
          have he2 : alongM hs (vo vals a) (vo vals b) = alongF hs (vo vals b) n s1 (row ++ [z]) := by rw [he]; exact if_neg nr
          refine x_app hq ?_ ?_
          · rw [show PySem.sizeLine = 16777216 from by decide, List.length_map]
            omega
          walk_at "ds"
          walk_at "rr"
          have h0q : h0 ≠ q := ne_of_none h1 nq
          have hh2 : upd H' q (.lst (row.map V.int ++ [V.int z])) h0 = some (.dK kvs) := at_ne h0q (g _ _ h1)
          refine x_dgetK (v := .ref t1) (k := Sum.inl z) hh2 e2 ?_
          have t1q : t1 ≠ q := ne_of_none e3 nq
          have ht1 : upd H' q (.lst (row.map V.int ++ [V.int z])) t1 = some (.tup [.int f1, .int s1]) := at_ne t1q (g _ _ e3)
          walk_at "rr"
          refine ⟨n, by omega, s1, row ++ [z], rfl, gr_mut g nq, ?_, hr2.snoc e1 nr, ?_, he2⟩
          · rw [upd_same, List.map_append]; rfl
          · rw [List.length_append, List.length_singleton]; omega
    · walk_at "rr"
      have hz : z = vo vals b := by
        have c2 : (z == vo vals b) = true := by
          cases d : (z == vo vals b) with
          | true => rfl
          | false => rw [d] at c; cases c
        exact beq_iff_eq.mp c2
      rw [alongF, if_pos hz] at he
      exact k.2 row he q _ nq g hq
theorem last_rev (z : Int) (r : List Int) : (((z :: r).reverse.map V.int))[((z :: r).reverse.map V.int).length - 1]? = some (.int z) := by
  rw [List.length_map, List.length_reverse, List.length_cons, Nat.add_sub_cancel, List.getElem?_map, List.reverse_cons, List.getElem?_append_right (by rw [List.length_reverse]; exact Nat.le_refl _), List.length_reverse, Nat.sub_self]
  rfl
theorem drop_rev (z : Int) (r : List Int) : ((z :: r).reverse.map V.int).dropLast = r.reverse.map V.int := by
  rw [List.reverse_cons, List.map_append, List.map_cons, List.map_nil, List.dropLast_concat]
theorem ok_tree_taken {P : Program} {w : World} {K : PySem.W.Frag} {mg : Str → Option Value} {base : Heap} {f : Addr} {fd : FuncData} (F : Fun K "tree_taken" "tree_taken" s_tree_taken f fd) (T : Txt mg)
    (D_value_of : Df P w K mg base "value_of" 1 ["values", "name"] (sp_value_of K)) :
    FnOk P w K mg base CX0 2 f fd ["values", "heap", "part"] (sp_tree_taken K) := by
  have nd := sc_tree_taken.nd
  refine F.ok sc_tree_taken (fun vs H Q E h => ?_) (fun cdv A outer s H vs Q E hr h => ?_)
  · obtain ⟨v, h0, p, vals, hs, ws, rfl, _⟩ := h
    rfl
  · have hu := hu_of hr
    obtain ⟨v, h0, p, vals, hs, ws, rfl, hv, hh, hl, hp, ⟨a, rfl, ha⟩, k⟩ := h
    refine ⟨_, (pss_cons (ps_set (i := 3) nd rfl (by first | exact Or.inl rfl | exact Or.inr rfl) (pe_lst (pa_cons (pe_df D_value_of hr (pa_cons (pv 0) (pa_cons (pe_ix (k_ixT K) (pv 2) pe_int (fun _ _ => rfl)) pa_nil))) pa_nil)))
          (pss_cons (ps_set (i := 4) nd rfl (by first | exact Or.inl rfl | exact Or.inr rfl) (pe_lst pa_nil))
          (pss_cons (ps_while PassesOwn.never (pt_cmpR (k_neD K hr.units) (pv 3) (pe_lst pa_nil) (nomark _))
            (pss_cons (ps_set (i := 5) nd rfl (by first | exact Or.inl rfl | exact Or.inr rfl) (pe_bm0 PySem.F.plainAttrs_list PySem.F.slot_list_pop PySem.F.type_list_pop mt_pop (pv 3)))
          (pss_cons (ps_if (pt_cmpR op_eq (pv 5) pe_int (nomark _))
            (pss_one ps_continue)
            pss_nil)
          (pss_cons (ps_if (PW.pt (pw_or (pt_cmp (pc_dnotin hu (pv 5) (pv 1))) (pw_or1 (pt_cmpR (k_inS K) (pv 5) (pv 4) (by rfl)))))
            (pss_one (ps_ret pe_non))
            pss_nil)
          (pss_cons (ps_expr (pe_bm PySem.F.plainAttrs_list PySem.F.slot_list_append PySem.F.type_list_append mt_append (pv 4) (pa_cons (pv 5) pa_nil)))
          (pss_cons (ps_asg (pe_dget hu (pv 1) (pv 5) (fun _ _ => rfl)) (pg_tup rfl (pgs_cons (pg_name (i := 6) nd rfl (by first | exact Or.inl rfl | exact Or.inr rfl)) (pgs_cons (pg_name (i := 7) nd rfl (by first | exact Or.inl rfl | exact Or.inr rfl)) pgs_nil))))
          (pss_one (ps_expr (pe_bm PySem.F.plainAttrs_list PySem.F.slot_list_extend PySem.F.type_list_extend mt_extend (pv 3) (pa_cons (pe_lst (pa_cons (pv 7) (pa_cons (pv 6) pa_nil))) pa_nil))))))))))
          (pss_one (ps_ret (pv 4)))))), ?_⟩
    refine x_start (τ := [some (.ref v), some (.ref h0), some (.ref p), none, none, none, none, none]) rfl ?_
    walk_at "kk"
    walk_at "rr"
    refine ⟨v, a, vals, rfl, hv, ha, ?_⟩
    walk_at "rr"
    refine ⟨by walk_at "sz", fun q nq => ?_⟩
    walk_at "rr"
    refine ⟨by decide, fun r0 nr0 => ?_⟩
    walk_at "rr"
    obtain ⟨kvs, h1, h2⟩ := id hh
    have k2 : takenM vals hs [("tree" : Str), a] = treeM hs (vo vals a) := rfl
    rw [k2] at k
    have g0 : Gr H (upd (upd H q (.lst [.int (vo vals a)])) r0 (.lst [])) := (gr_new nq).tr (gr_new nr0)
    have nr : H r0 = none := free_new nr0
    have qr : q ≠ r0 := ne_of_none upd_same nr0
    refine x_while (fun m σ' H' => ∃ zs row x5 x6 x7, σ' = [some (.ref v), some (.ref h0), some (.ref p), some (.ref q), some (.ref r0), x5, x6, x7] ∧ Gr H H' ∧ H' q = some (.lst (zs.reverse.map V.int)) ∧ H' r0 = some (.lst (row.map V.int)) ∧ Row hs row ∧ zs.length + 2 * (hs.length - row.length) + 1 ≤ m ∧ m ≤ 2 * hs.length + 2 ∧ treeM hs (vo vals a) = treeF hs m zs row)
      (2 * hs.length + 2) ⟨[vo vals a], [], none, none, none, rfl, g0, by rw [upd_ne qr]; exact upd_same, upd_same, .nil, by rw [List.length_singleton, List.length_nil]; omega, Nat.le_refl _, rfl⟩ ?_
    rintro m σ' H' ⟨zs, row, x5, x6, x7, rfl, g, hq, hr0, hr2, hm, hm2, he⟩
    have hrl := hr2.len
    obtain ⟨n, rfl⟩ : ∃ n, m = n + 1 := ⟨m - 1, by omega⟩
    walk_at "rr"
    refine ⟨by walk_at "sz", fun e0 ne0 => ?_⟩
    have hq' := at_new (o := .lst []) ne0 hq
    refine x_neI (ys := []) hq' upd_same ?_
    walk_at "rr"
    cases zs with
    | nil =>
      refine x_ite (fun c => by cases c) (fun _ => ?_)
      walk_at "rr"
      rw [treeF] at he
      exact k.2 row he r0 _ nr (g.tr (gr_new ne0)) (at_new ne0 hr0)
    | cons z r =>
      rw [List.length_cons] at hm
      refine x_ite (fun _ => ?_) (fun c => absurd c (by
        have : (z :: r).reverse ≠ [] := by simp
        rw [decide_eq_false this]
        decide))
      refine ⟨_, fun _ _ h => h, ?_⟩
      walk_at "rr"
      refine x_pop hq' (last_rev z r) ?_
      rw [drop_rev]
      have g1 : Gr H (upd (upd H' e0 (.lst [])) q (.lst (r.reverse.map V.int))) := gr_mut (g.tr (gr_new ne0)) nq
      have hr1 : upd (upd H' e0 (.lst [])) q (.lst (r.reverse.map V.int)) r0 = some (.lst (row.map V.int)) := at_ne qr.symm (at_new ne0 hr0)
      have hq1 : upd (upd H' e0 (.lst [])) q (.lst (r.reverse.map V.int)) q = some (.lst (r.reverse.map V.int)) := upd_same
      generalize upd (upd H' e0 (.lst [])) q (.lst (r.reverse.map V.int)) = H2 at g1 hr1 hq1 ⊢
      walk_at "rr"
      rw [dec_int]
      refine x_ite (fun c => ?_) (fun c => ?_)
      · have ez : z = 0 := beq_iff_eq.mp c
        walk_at "rr"
        rw [treeF, if_pos ez] at he
        exact ⟨n, by omega, r, row, _, _, _, rfl, g1, hq1, hr1, hr2, by omega, by omega, he⟩
      · have ez : z ≠ 0 := fun e => by rw [e] at c; cases c
        rw [treeF, if_neg ez] at he
        walk_at "rr"
        refine x_dninK (k := Sum.inl z) (g1 _ _ h1) ?_
        walk_at "rr"
        rcases valV_cells h2 z with ⟨e1, e2⟩ | ⟨f1, s1, t1, e1, e2, e3⟩
        · rw [e2]
          refine x_ite (fun _ => ?_) (fun c => by cases c)
          refine x_ite (fun _ => ?_) (fun c => by cases c)
          walk_at "rr"
          rw [e1] at he
          exact k.1 he _ g1
        · rw [e2]
          rw [e1] at he
          refine x_ite (fun c => by cases c) (fun _ => ?_)
          walk_at "rr"
          refine x_inL (sql_of hr1) rfl (flat_ints row) ?_
          rw [if_neg Bool.false_ne_true, inV_ints]
          walk_at "rr"
          refine x_ite (fun c => ?_) (fun c => ?_)
          · walk_at "rr"
            refine k.1 ?_ _ g1
            rw [he]
            exact if_pos (of_decide_eq_true c)
          · have nr2 : z ∉ row := of_decide_eq_false c
            have he2 : treeM hs (vo vals a) = treeF hs n (f1 :: s1 :: r) (row ++ [z]) := by rw [he]; exact if_neg nr2
            have hr3 := hr2.snoc e1 nr2
            have hrl3 := hr3.len
            rw [List.length_append, List.length_singleton] at hrl3
            walk_at "rr"
            refine x_app hr1 ?_ ?_
            · rw [show PySem.sizeLine = 16777216 from by decide, List.length_map]
              omega
            walk_at "ds"
            have g2 : Gr H (upd H2 r0 (.lst (row.map V.int ++ [V.int z]))) := gr_mut g1 nr
            have hq2 : upd H2 r0 (.lst (row.map V.int ++ [V.int z])) q = some (.lst (r.reverse.map V.int)) := at_ne qr hq1
            have hr4 : upd H2 r0 (.lst (row.map V.int ++ [V.int z])) r0 = some (.lst ((row ++ [z]).map V.int)) := by rw [upd_same, List.map_append]; rfl
            generalize upd H2 r0 (.lst (row.map V.int ++ [V.int z])) = H3 at g2 hq2 hr4 ⊢
            walk_at "rr"
            refine x_dgetK (v := .ref t1) (k := Sum.inl z) (g2 _ _ h1) e2 ?_
            have e4 := g2 _ _ e3
            walk_at "rr"
            refine ⟨by walk_at "sz", fun w1 nw1 => ?_⟩
            walk_at "rr"
            have hq3 := at_new (o := .lst [V.int s1, V.int f1]) nw1 hq2
            refine x_ext hq3 upd_same ?_ ?_
            · rw [show PySem.sizeLine = 16777216 from by decide, List.length_map, List.length_reverse]
              show r.length + 2 ≤ _
              omega
            walk_at "ds"
            refine ⟨n, by omega, f1 :: s1 :: r, row ++ [z], _, _, _, rfl, gr_mut (g2.tr (gr_new nw1)) nq, ?_, ?_, hr3, ?_, by omega, he2⟩
            · rw [upd_same, List.reverse_cons, List.reverse_cons, List.append_assoc, List.map_append]
              rfl
            · exact at_ne qr.symm (at_new nw1 hr4)
            · rw [List.length_append, List.length_singleton, List.length_cons, List.length_cons]
              omega
theorem ok__law_heap {P : Program} {w : World} {K : PySem.W.Frag} {mg : Str → Option Value} {base : Heap} {f : Addr} {fd : FuncData} (F : Fun K "_law_heap" "_law_heap" s__law_heap f fd) (T : Txt mg)
    (D__law_cell_at : Df P w K mg base "_law_cell_at" 1 ["_law_script", "_law_k"] (sp__law_cell_at K))
    (D__law_value : Df P w K mg base "_law_value" 1 ["_law_cell", "_law_spots"] (sp__law_value K)) :
    FnOk P w K mg base CX0 2 f fd ["_law_script", "_law_spots", "_law_full", "_law_part"] (sp__law_heap K) := by
  have nd := sc__law_heap.nd
  have mn_range := T.mn_range
  refine F.ok sc__law_heap (fun vs H Q E h => ?_) (fun cdv A outer s H vs Q E hr h => ?_)
  · obtain ⟨a, b, v, t, ns, sp, full, x, f1, s1, rfl, _⟩ := h
    rfl
  · have hu := hu_of hr
    obtain ⟨a, b, v, t, ns, sp, full, x, f1, s1, rfl, hS, hb, hsp, hv, ht, hx, k⟩ := h
    refine ⟨_, (pss_cons (ps_set (i := 4) nd rfl (by first | exact Or.inl rfl | exact Or.inr rfl) (pe_df D__law_cell_at hr (pa_cons (pv 0) (pa_cons pe_int pa_nil))))
          (pss_cons (ps_set (i := 5) nd rfl (by first | exact Or.inl rfl | exact Or.inr rfl) pe_dnewK)
          (pss_cons (ps_for PassesOwn.never rfl (pi_range1 (by rfl) mn_range (pa_cons pe_int pa_nil)) (pg_name (i := 6) nd rfl (by first | exact Or.inl rfl | exact Or.inr rfl))
            (pss_cons (ps_set (i := 7) nd rfl (by first | exact Or.inl rfl | exact Or.inr rfl) (pe_df D__law_cell_at hr (pa_cons (pv 0) (pa_cons (pe_op op_add pe_int (pv 6)) pa_nil))))
          (pss_one (ps_if (pt_cmpR op_eq (pe_op op_mod (pv 7) pe_int) pe_int (nomark _))
            (pss_one (ps_dput hu (pv 5) (pe_ix (k_ixL K) (pv 1) (pv 6) (fun _ _ => rfl)) (pe_tup (pa_cons (pe_df D__law_value hr (pa_cons (pe_op op_fdiv (pv 7) pe_int) (pa_cons (pv 1) pa_nil))) (pa_cons (pe_df D__law_value hr (pa_cons (pe_op op_fdiv (pv 7) pe_int) (pa_cons (pv 1) pa_nil))) pa_nil))) rfl))
            pss_nil))))
          (pss_cons (ps_if (PW.pt (pw_and (pt_cmpR op_eq (pe_op op_mod (pe_op op_fdiv (pv 4) pe_int) pe_int) pe_int (nomark _)) (pw_and1 (pt_cmpR op_gt (pe_dget hu (pv 2) (pe_ix (k_ixT K) (pv 3) pe_int (fun _ _ => rfl)) (fun _ _ => rfl)) pe_int (nomark _)))))
            (pss_cons (ps_set (i := 8) nd rfl (by first | exact Or.inl rfl | exact Or.inr rfl) (pe_dget2 hu (pv 2) (pe_ix (k_ixT K) (pv 3) pe_int (fun _ _ => rfl)) (pe_op op_mod (pv 4) (pe_op op_pow pe_int pe_int)) ⟨by rfl, by rfl, by rfl, by rfl⟩))
          (pss_one (ps_dput hu (pv 5) (pe_dget hu (pv 2) (pe_ix (k_ixT K) (pv 3) pe_int (fun _ _ => rfl)) (fun _ _ => rfl)) (pe_tup (pa_cons (pv 8) (pa_cons (pe_dget2 hu (pv 2) (pe_ix (k_ixT K) (pv 3) pe_int (fun _ _ => rfl)) (pe_op op_mod (pe_op op_fdiv (pv 4) pe_int) (pe_op op_pow pe_int pe_int)) ⟨by rfl, by rfl, by rfl, by rfl⟩) pa_nil))) rfl)))
            pss_nil)
          (pss_one (ps_ret (pv 5))))))), ?_⟩
    refine x_start (τ := [some (.ref a), some (.ref b), some (.ref v), some (.ref t), none, none, none, none, none]) rfl ?_
    walk_at "kk"
    walk_at "rr"
    have ht0 : H t = some (.tup [.str "cell", .str x, .str f1, .str s1]) := ht
    refine ⟨a, ns, _, rfl, hS, by decide, fun pick => ?_⟩
    walk_at "rr"
    intro d nd0
    walk_at "rr"
    have g0 : Gr H (upd H d (.dK [])) := gr_new nd0
    refine fin_R1 (n := 5) (by decide) (fun i σ' H' => ∃ hs x6 x7 kvs, σ' = [some (.ref a), some (.ref b), some (.ref v), some (.ref t), some (.int pick), some (.ref d), x6, x7, none] ∧ Gr H H' ∧ H' d = some (.dK kvs) ∧ Paired (fun kv (c : Int × Int × Int) => kv.1 = .inl c.1 ∧ ∃ t, kv.2 = .ref t ∧ H' t = some (.tup [.int c.2.1, .int c.2.2])) kvs hs ∧ hs.length ≤ i ∧ (hs.map (·.1)).Nodup)
      ⟨[], none, none, [], rfl, g0, upd_same, .nil, Nat.le_refl _, List.nodup_nil⟩ ?_ ?_
    · rintro i σ' H' hi ⟨hs, x6, x7, kvs, rfl, g, hd, pr, hl, hnd⟩
      walk_at "rr"
      refine ⟨a, ns, _, rfl, sql_gr g hS, by omega, fun c => ?_⟩
      walk_at "rr"
      refine x_ite (fun c1 => ?_) (fun c1 => ?_)
      · walk_at "rr"
        refine ⟨_, b, sp, rfl, sql_of (g _ _ hb), (fun e => by rw [e] at hsp; cases hsp), fun z1 => ?_⟩
        walk_at "rr"
        refine ⟨_, b, sp, rfl, sql_of (g _ _ hb), (fun e => by rw [e] at hsp; cases hsp), fun z2 => ?_⟩
        walk_at "rr"
        refine ⟨by walk_at "sz", fun t0 nt0 => ?_⟩
        walk_at "rr"
        have g4 := gr_new (o := .tup [V.int z1, V.int z2]) nt0
        obtain ⟨z3, hz3⟩ := atI_ints (zs := sp) (i := (i : Int)) (by omega) (by omega)
        refine x_ixL (sql_of ((g.tr g4) _ _ hb)) hz3 ?_
        have hd2 := g4 _ _ hd
        have hkl : kvs.length = hs.length := paired_len pr
        refine x_dputK (k := Sum.inl z3) hd2 (by rw [show PySem.sizeLine = 16777216 from by decide]; omega) ?_
        walk_at "ds"
        have pr2 := put_cells (a := z3) (paired_imp pr fun _ _ ⟨a1, t1, b1, c1⟩ => ⟨a1, t1, b1, g4 _ _ c1⟩) upd_same
        refine ⟨_, _, _, _, rfl, gr_mut (g.tr g4) nd0, upd_same, paired_imp pr2 fun _ _ ⟨a1, t1, b1, c1⟩ => ⟨a1, t1, b1, at_ne ?_ c1⟩, ?_, putC_nd hs _ _ hnd⟩
        · intro e
          rw [e, hd2] at c1
          cases c1
        · have := putC_len hs z3 (z1, z2)
          omega
      · walk_at "rr"
        exact ⟨hs, _, _, kvs, rfl, g, hd, pr, by omega, hnd⟩
    rintro σ' H' ⟨hs, x6, x7, kvs, rfl, g, hd, pr, hl, hnd⟩
    have hv' := g _ _ hv
    have ht' := g _ _ ht0
    obtain ⟨zx, hzx⟩ := Option.isSome_iff_exists.mp hx
    walk_at "ds"
    walk_at "rr"
    refine x_ite (fun c1 => ?_) (fun c1 => ?_)
    · walk_at "rr"
      refine x_dgetK (k := Sum.inr x) hv' (val_lk hzx) ?_
      walk_at "rr"
      refine x_ite (fun c2 => ?_) (fun c2 => ?_)
      · walk_at "rr"
        refine ⟨v, rfl, .inl ⟨_, .inl hv'⟩, ?_⟩
        walk_at "rr"
        refine ⟨_, DGet.k (k := Sum.inr f1) hv', ?_⟩
        obtain ⟨q1, hq1⟩ : ∃ q1 : Int, (valV (full.map fun p => ((Sum.inr p.1 : Key), V.int p.2)) (.inr f1)).getD (V.int (pick % 10 ^ Int.toNat 60)) = V.int q1 := by
          rw [valV_vals]; cases lk full f1 <;> exact ⟨_, rfl⟩
        rw [hq1]
        walk_at "rr"
        refine ⟨v, rfl, .inl ⟨_, .inl hv'⟩, ?_⟩
        walk_at "rr"
        refine ⟨_, DGet.k (k := Sum.inr s1) hv', ?_⟩
        obtain ⟨q2, hq2⟩ : ∃ q2 : Int, (valV (full.map fun p => ((Sum.inr p.1 : Key), V.int p.2)) (.inr s1)).getD (V.int (pick / 3 % 10 ^ Int.toNat 60)) = V.int q2 := by
          rw [valV_vals]; cases lk full s1 <;> exact ⟨_, rfl⟩
        rw [hq2]
        refine ⟨by walk_at "sz", fun t0 nt0 => ?_⟩
        walk_at "rr"
        have g4 := gr_new (o := .tup [V.int q1, V.int q2]) nt0
        refine x_dgetK (k := Sum.inr x) (g4 _ _ hv') (val_lk hzx) ?_
        have hd2 := g4 _ _ hd
        have hkl : kvs.length = hs.length := paired_len pr
        refine x_dputK (k := Sum.inl zx) hd2 (by rw [show PySem.sizeLine = 16777216 from by decide]; omega) ?_
        walk_at "ds"
        walk_at "rr"
        have pr2 := put_cells (a := zx) (paired_imp pr fun _ _ ⟨a1, t1, b1, c1⟩ => ⟨a1, t1, b1, g4 _ _ c1⟩) upd_same
        refine k _ d _ ?_ (putC_nd hs zx (q1, q2) hnd) nd0 (gr_mut (g.tr g4) nd0) ⟨_, upd_same, paired_imp pr2 fun _ _ ⟨a1, t1, b1, c1⟩ => ⟨a1, t1, b1, at_ne ?_ c1⟩⟩
        · have := putC_len hs zx (q1, q2)
          omega
        · intro e
          rw [e, hd2] at c1
          cases c1
      · walk_at "rr"
        exact k hs d H' (by omega) hnd nd0 g ⟨kvs, hd, pr⟩
    · refine x_ite (fun c => by cases c) (fun _ => ?_)
      walk_at "rr"
      exact k hs d H' (by omega) hnd nd0 g ⟨kvs, hd, pr⟩
theorem ok_check_values {P : Program} {w : World} {K : PySem.W.Frag} {mg : Str → Option Value} {base : Heap} {f : Addr} {fd : FuncData} (F : Fun K "check_values" "check_values" s_check_values f fd) (T : Txt mg)
    (D_names_of : Df P w K mg base "names_of" 2 ["telling"] (sp_names_of K)) :
    FnOk P w K mg base CX0 3 f fd ["values", "telling"] (sp_check_values K) := by
  have nd := sc_check_values.nd
  refine F.ok sc_check_values (fun vs H Q E h => ?_) (fun cdv A outer s H vs Q E hr h => ?_)
  · obtain ⟨v, t, vals, fs, ps, rfl, _⟩ := h
    rfl
  · have hu := hu_of hr
    obtain ⟨v, t, vals, fs, ps, rfl, hv, hT, ok, nm, k⟩ := h
    refine ⟨_, (pss_one (ps_for PassesOwn.never rfl (k_pil K (pe_df D_names_of hr (pa_cons (pv 1) pa_nil))) (pg_name (i := 2) nd rfl (by first | exact Or.inl rfl | exact Or.inr rfl))
            (pss_one (ps_if (pt_cmp (pc_dnotin hu (pv 2) (pv 0)))
            (pss_one ps_never)
            pss_nil)))), ?_⟩
    refine x_start (τ := [some (.ref v), some (.ref t), none]) rfl ?_
    walk_at "kk"
    walk_at "rr"
    refine ⟨t, fs, ps, rfl, hT, ok, fun ys p H1 pm hs np g1 hp => ?_⟩
    refine fin_L (xs := ys.map V.str) (sql_of hp) (fun i σ' H' => ∃ r2, σ' = [some (.ref v), some (.ref t), r2] ∧ H' = H1) ⟨none, rfl, rfl⟩ (fun i σ' H' _ ⟨_, _, e⟩ => by rw [e]; exact sql_of hp) ?_ ?_
    · rintro i x σ' H' hx ⟨r2, rfl, rfl⟩
      obtain ⟨y, hy, rfl⟩ := List.mem_map.mp (List.mem_of_getElem? hx)
      have hy2 := pm.mem_iff.mp hy
      unfold tnames at hy2
      rw [once_in] at hy2
      have hy3 := List.mem_filter.mp (hy2.resolve_left (by simp))
      obtain ⟨z, hz⟩ := Option.isSome_iff_exists.mp (nm y hy3.1 hy3.2)
      walk_at "rr"
      refine x_dninK (k := Sum.inr y) (g1 _ _ hv) ?_
      have e : (!(valV (vals.map fun p => ((Sum.inr p.1 : Key), V.int p.2)) (Sum.inr y)).isSome) = false := by rw [valV_vals, hz]; rfl
      rw [e]
      walk_at "rr"
      refine x_ite (fun c => by cases c) (fun _ => ?_)
      walk_at "rr"
      exact ⟨_, rfl, rfl⟩
    · rintro σ' H' ⟨r2, rfl, rfl⟩
      exact k _ g1
theorem ok_cell_taken {P : Program} {w : World} {K : PySem.W.Frag} {mg : Str → Option Value} {base : Heap} {f : Addr} {fd : FuncData} (F : Fun K "cell_taken" "cell_taken" s_cell_taken f fd) (T : Txt mg)
    (D_value_of : Df P w K mg base "value_of" 1 ["values", "name"] (sp_value_of K))
    (D_is_due : Df P w K mg base "is_due" 2 ["values", "name", "number"] (sp_is_due K)) :
    FnOk P w K mg base CX0 3 f fd ["values", "heap", "part"] (sp_cell_taken K) := by
  have nd := sc_cell_taken.nd
  refine F.ok sc_cell_taken (fun vs H Q E h => ?_) (fun cdv A outer s H vs Q E hr h => ?_)
  · obtain ⟨v, h0, p, vals, hs, ws, rfl, _⟩ := h
    rfl
  · have hu := hu_of hr
    obtain ⟨v, h0, p, vals, hs, ws, rfl, hv, hh, hl, hp, ⟨a, f1, s1, rfl, ha, hf, hs2⟩, k⟩ := h
    refine ⟨_, (pss_cons (ps_set (i := 3) nd rfl (by first | exact Or.inl rfl | exact Or.inr rfl) (pe_df D_value_of (hr.mono (by decide)) (pa_cons (pv 0) (pa_cons (pe_ix (k_ixT K) (pv 2) pe_int (fun _ _ => rfl)) pa_nil))))
          (pss_cons (ps_if (pt_cmp (pc_dnotin hu (pv 3) (pv 1)))
            (pss_one (ps_ret pe_non))
            pss_nil)
          (pss_cons (ps_asg (pe_dget hu (pv 1) (pv 3) (fun _ _ => rfl)) (pg_tup rfl (pgs_cons (pg_name (i := 4) nd rfl (by first | exact Or.inl rfl | exact Or.inr rfl)) (pgs_cons (pg_name (i := 5) nd rfl (by first | exact Or.inl rfl | exact Or.inr rfl)) pgs_nil))))
          (pss_cons (ps_if (PW.pt (pw_or (pt_not (pt_val (pe_df D_is_due hr (pa_cons (pv 0) (pa_cons (pe_ix (k_ixT K) (pv 2) pe_int (fun _ _ => rfl)) (pa_cons (pv 4) pa_nil)))))) (pw_or1 (pt_not (pt_val (pe_df D_is_due hr (pa_cons (pv 0) (pa_cons (pe_ix (k_ixT K) (pv 2) pe_int (fun _ _ => rfl)) (pa_cons (pv 5) pa_nil)))))))))
            (pss_one (ps_ret pe_non))
            pss_nil)
          (pss_one (ps_ret (pe_lst (pa_cons (pv 3) pa_nil)))))))), ?_⟩
    refine x_start (τ := [some (.ref v), some (.ref h0), some (.ref p), none, none, none]) rfl ?_
    walk_at "kk"
    walk_at "rr"
    refine ⟨v, a, vals, rfl, hv, ha, ?_⟩
    obtain ⟨kvs, h1, h2⟩ := id hh
    walk_at "rr"
    refine x_dninK (k := Sum.inl (vo vals a)) h1 ?_
    have k2 : takenM vals hs [("cell" : Str), a, f1, s1] = cellM vals hs a f1 s1 := rfl
    rw [k2] at k
    unfold cellM at k
    rcases valV_cells h2 (vo vals a) with ⟨e1, e2⟩ | ⟨f2, s2, t1, e1, e2, e3⟩
    · rw [e2]
      walk_at "rr"
      refine x_ite (fun _ => ?_) (fun c => by cases c)
      walk_at "rr"
      rw [e1] at k
      exact k.1 rfl _ Gr.rfl
    · rw [e1] at k
      have k3 : RetO (if dueM vals f1 f2 && dueM vals s1 s2 then some [vo vals a] else none) H Q := k
      rw [e2]
      walk_at "rr"
      refine x_ite (fun c => by cases c) (fun _ => ?_)
      walk_at "rr"
      refine x_dgetK (v := .ref t1) (k := Sum.inl (vo vals a)) h1 e2 ?_
      walk_at "rr"
      refine ⟨v, f1, f2, vals, rfl, hv, hf, ?_⟩
      walk_at "rr"
      refine x_ite (fun c => ?_) (fun c => ?_)
      · refine x_ite (fun _ => ?_) (fun c => by cases c)
        walk_at "rr"
        refine k3.1 ?_ _ Gr.rfl
        have c2 : dueM vals f1 f2 = false := by
          cases d : dueM vals f1 f2 with
          | false => rfl
          | true => rw [d] at c; cases c
        rw [c2]
        rfl
      · have c1 : dueM vals f1 f2 = true := by
          cases d : dueM vals f1 f2 with
          | true => rfl
          | false => rw [d] at c; cases c
        walk_at "rr"
        refine ⟨v, s1, s2, vals, rfl, hv, hs2, ?_⟩
        walk_at "rr"
        refine x_ite (fun c => ?_) (fun c => ?_)
        · walk_at "rr"
          refine k3.1 ?_ _ Gr.rfl
          have c2 : dueM vals s1 s2 = false := by
            cases d : dueM vals s1 s2 with
            | false => rfl
            | true => rw [d] at c; cases c
          rw [c1, c2]
          rfl
        · have c2 : dueM vals s1 s2 = true := by
            cases d : dueM vals s1 s2 with
            | true => rfl
            | false => rw [d] at c; cases c
          walk_at "rr"
          refine ⟨by walk_at "sz", fun q nq => ?_⟩
          walk_at "rr"
          refine k3.2 [vo vals a] ?_ q _ nq (gr_new nq) upd_same
          rw [c1, c2]
          rfl
theorem ok_part_taken {P : Program} {w : World} {K : PySem.W.Frag} {mg : Str → Option Value} {base : Heap} {f : Addr} {fd : FuncData} (F : Fun K "part_taken" "part_taken" s_part_taken f fd) (T : Txt mg)
    (D_tree_taken : Df P w K mg base "tree_taken" 2 ["values", "heap", "part"] (sp_tree_taken K))
    (D_cell_taken : Df P w K mg base "cell_taken" 3 ["values", "heap", "part"] (sp_cell_taken K))
    (D_stretch_taken : Df P w K mg base "stretch_taken" 2 ["values", "heap", "part"] (sp_stretch_taken K)) :
    FnOk P w K mg base CX0 4 f fd ["values", "heap", "part"] (sp_part_taken K) := by
  have nd := sc_part_taken.nd
  refine F.ok sc_part_taken (fun vs H Q E h => ?_) (fun cdv A outer s H vs Q E hr h => ?_)
  · obtain ⟨v, h0, p, vals, hs, ws, rfl, _⟩ := h
    rfl
  · have hu := hu_of hr
    obtain ⟨v, h0, p, vals, hs, ws, rfl, hv, hh, hl, hp, hk, k⟩ := h
    refine ⟨_, (pss_cons (ps_if (pt_cmpR op_eq (pe_ix (k_ixT K) (pv 2) pe_int (fun _ _ => rfl)) pe_str (nomark _))
            (pss_one (ps_ret (pe_df D_cell_taken hr (pa_cons (pv 0) (pa_cons (pv 1) (pa_cons (pv 2) pa_nil))))))
            pss_nil)
          (pss_cons (ps_if (pt_cmpR op_eq (pe_ix (k_ixT K) (pv 2) pe_int (fun _ _ => rfl)) pe_str (nomark _))
            (pss_one (ps_ret (pe_df D_stretch_taken (hr.mono (by decide)) (pa_cons (pv 0) (pa_cons (pv 1) (pa_cons (pv 2) pa_nil))))))
            pss_nil)
          (pss_one (ps_ret (pe_df D_tree_taken (hr.mono (by decide)) (pa_cons (pv 0) (pa_cons (pv 1) (pa_cons (pv 2) pa_nil)))))))), ?_⟩
    refine x_start (τ := [some (.ref v), some (.ref h0), some (.ref p)]) rfl ?_
    walk_at "kk"
    rcases hk with ⟨a, f1, s1, rfl, ha⟩ | ⟨a, b, rfl, ha⟩ | ⟨a, rfl, ha⟩
    · walk_at "rr"
      refine x_ite (fun _ => ?_) (fun c => absurd c (by decide))
      walk_at "rr"
      exact ⟨v, h0, p, vals, hs, _, rfl, hv, hh, hl, hp, ⟨a, f1, s1, rfl, ha⟩, k⟩
    · walk_at "rr"
      refine x_ite (fun c => absurd c (by decide)) (fun _ => ?_)
      walk_at "rr"
      refine x_ite (fun _ => ?_) (fun c => absurd c (by decide))
      walk_at "rr"
      exact ⟨v, h0, p, vals, hs, _, rfl, hv, hh, hl, hp, ⟨a, b, rfl, ha⟩, k⟩
    · walk_at "rr"
      refine x_ite (fun c => absurd c (by decide)) (fun _ => ?_)
      walk_at "rr"
      refine x_ite (fun c => absurd c (by decide)) (fun _ => ?_)
      walk_at "rr"
      exact ⟨v, h0, p, vals, hs, _, rfl, hv, hh, hl, hp, ⟨a, rfl, ha⟩, k⟩
theorem ok_cover {P : Program} {w : World} {K : PySem.W.Frag} {mg : Str → Option Value} {base : Heap} {f : Addr} {fd : FuncData} (F : Fun K "cover" "cover" s_cover f fd) (T : Txt mg)
    (D_check_values : Df P w K mg base "check_values" 3 ["values", "telling"] (sp_check_values K))
    (D_part_taken : Df P w K mg base "part_taken" 4 ["values", "heap", "part"] (sp_part_taken K))
    (D_holds : Df P w K mg base "holds" 2 ["values", "fact"] (sp_holds K)) :
    FnOk P w K mg base CX0 5 f fd ["values", "heap", "telling"] (sp_cover K) := by
  have nd := sc_cover.nd
  have mn_all := T.mn_all
  refine F.ok sc_cover (fun vs H Q E h => ?_) (fun cdv A outer s H vs Q E hr h => ?_)
  · obtain ⟨v, h0, t, vals, hs, fs, ps, rfl, _⟩ := h
    rfl
  · have hu := hu_of hr
    obtain ⟨v, h0, t, vals, hs, fs, ps, rfl, I, k⟩ := h
    refine ⟨_, (pss_cons (ps_expr (pe_df D_check_values (hr.mono (by decide)) (pa_cons (pv 0) (pa_cons (pv 2) pa_nil))))
          (pss_cons (ps_asg (pv 2) (pg_tup rfl (pgs_cons (pg_name (i := 3) nd rfl (by first | exact Or.inl rfl | exact Or.inr rfl)) (pgs_cons (pg_name (i := 4) nd rfl (by first | exact Or.inl rfl | exact Or.inr rfl)) pgs_nil))))
          (pss_cons (ps_if (pt_not (pt_val (pe_callB (k_all K rfl) (by rfl) mn_all (by decide +kernel) (pa_cons (pe_lc (own := [("fact", 10)]) (g := (gName 10)) (tt := tYes) rfl nd (k_pil K (pv 3)) (blkOk_by (N := N_cover) (sc := defScope s_cover) (own := [("fact", 10)]) (by decide +kernel)) (fun _ _ _ _ _ => (pg_name (i := 10) nd rfl (by first | exact Or.inl rfl | exact Or.inr rfl))) (fun _ _ _ _ _ => pts_nil) (fun _ _ _ _ _ => (pe_df D_holds (hr.mono (by decide)) (pa_cons (pv 0) (pa_cons (pv 10) pa_nil))))) pa_nil))))
            (pss_one (ps_ret pe_non))
            pss_nil)
          (pss_cons (ps_set (i := 5) nd rfl (by first | exact Or.inl rfl | exact Or.inr rfl) (pe_lst pa_nil))
          (pss_cons (ps_set (i := 6) nd rfl (by first | exact Or.inl rfl | exact Or.inr rfl) pe_dnewK)
          (pss_cons (ps_for PassesOwn.never rfl (k_pil K (pv 4)) (pg_name (i := 7) nd rfl (by first | exact Or.inl rfl | exact Or.inr rfl))
            (pss_cons (ps_set (i := 8) nd rfl (by first | exact Or.inl rfl | exact Or.inr rfl) (pe_df D_part_taken hr (pa_cons (pv 0) (pa_cons (pv 1) (pa_cons (pv 7) pa_nil)))))
          (pss_cons (ps_if (pt_cmpR oo_isN (pv 8) pe_non (nomark _))
            (pss_one (ps_ret pe_non))
            pss_nil)
          (pss_cons (ps_for PassesOwn.never rfl (k_pil K (pv 8)) (pg_name (i := 9) nd rfl (by first | exact Or.inl rfl | exact Or.inr rfl))
            (pss_cons (ps_if (pt_cmp (pc_din hu (pv 9) (pv 6)))
            (pss_one (ps_ret pe_non))
            pss_nil)
          (pss_one (ps_dput hu (pv 6) (pv 9) pe_bl rfl))))
          (pss_one (ps_expr (pe_bm PySem.F.plainAttrs_list PySem.F.slot_list_append PySem.F.type_list_append mt_append (pv 5) (pa_cons (pv 8) pa_nil))))))))
          (pss_one (ps_ret (pv 5))))))))), ?_⟩
    refine x_start (τ := [some (.ref v), some (.ref h0), some (.ref t), none, none, none, none, none, none, none, none]) rfl ?_
    walk_at "kk"
    walk_at "rr"
    refine ⟨v, t, vals, fs, ps, rfl, I.hv, I.ht, I.ok, I.nm, fun H1 g1 => ?_⟩
    obtain ⟨fl, pl, fv, pv', h1, h2, h3, h4, h5⟩ := (I.ht.gr g1).ex
    walk_at "rr"
    have hfl : fv.length ≤ 200 := by
      have := I.ok.2.1
      rw [List.length_append] at this
      rw [paired_len h4]
      omega
    have hpl : ps.length ≤ 200 := by
      have := I.ok.2.1
      rw [List.length_append] at this
      omega
    refine fin_lcP h4 (fun ws => .bl (holdsM vals ws)) (sql_of h2) (by omega) (fun _ => rfl) ?_ ?_
    · rintro x y H' ⟨u, rfl, hu2⟩ hy g R r
      walk_at "rr"
      exact ⟨v, u, vals, y, rfl, g _ _ (g1 _ _ I.hv), g _ _ hu2, I.fo y hy, r _ Gr.rfl⟩
    intro D0 H2 nD g2 hD
    walk_at "rr"
    refine x_all (bs := fs.map (holdsM vals)) (sql_of (by rw [hD, List.map_map]; rfl)) ?_
    walk_at "rr"
    have eall : (fs.map (holdsM vals)).all id = fs.all (holdsM vals) := by rw [List.all_map]; rfl
    rw [eall]
    have g12 : Gr H H2 := g1.tr g2
    refine x_ite (fun c => ?_) (fun c => ?_)
    · walk_at "rr"
      refine k.1 ?_ _ g12
      unfold coverM
      cases d : fs.all (holdsM vals) with
      | false => rfl
      | true => rw [d] at c; cases c
    have call : fs.all (holdsM vals) = true := by
      cases d : fs.all (holdsM vals) with
      | true => rfl
      | false => rw [d] at c; cases c
    have ek : coverM vals hs fs ps = coverGo vals hs ps [] := if_pos call
    rw [ek] at k
    walk_at "rr"
    refine ⟨by decide, fun q nq => ?_⟩
    walk_at "rr"
    intro d nd0
    walk_at "rr"
    have h3' := g2 _ _ h3
    have nqH : H q = none := gr_free g12 nq
    have ndH : H d = none := gr_free (g12.tr (gr_new nq)) nd0
    have qd : q ≠ d := ne_of_none upd_same nd0
    have rows0 : RowsAt H2 pv' ps := paired_imp h5 fun _ _ => RowAt.gr g2
    have g3 : Gr H2 (upd (upd H2 q (.lst [])) d (.dK [])) := (gr_new nq).tr (gr_new nd0)
    have plq : pl ≠ q := ne_of_none h3' nq
    refine fin_L (xs := pv') (sql_of (g3 _ _ h3')) (fun i σ' H' => ∃ as rows tk x7 x8 x9, σ' = [some (.ref v), some (.ref h0), some (.ref t), some (.ref fl), some (.ref pl), some (.ref q), some (.ref d), x7, x8, x9, none] ∧ Gr H2 H' ∧ H' q = some (.lst (as.map V.ref)) ∧
        H' d = some (.dK (tk.map mkT)) ∧ Paired (fun a (row : List Int) => H' a = some (.lst (row.map V.int))) as rows ∧ (∀ a ∈ as, H2 a = none ∧ a ≠ q ∧ a ≠ d) ∧ as.Nodup ∧ as.length = i ∧ tk.length ≤ 1000 * i ∧
        coverGo vals hs ps [] = (coverGo vals hs (ps.drop i) tk).map (rows ++ ·))
      ⟨[], [], [], none, none, none, rfl, g3, by rw [upd_ne qd]; exact upd_same, upd_same, .nil, (fun _ h => by cases h), List.nodup_nil, rfl, Nat.zero_le _, by rw [List.drop_zero]; cases coverGo vals hs ps [] <;> rfl⟩
      (fun i σ' H' _ ⟨_, _, _, _, _, _, _, g, _⟩ => sql_of (g _ _ h3')) ?_ ?_
    · rintro i x σ' H' hx ⟨as, rows, tk, x7, x8, x9, rfl, g, hq, hd, pr, fr, nda, hla, htk, he⟩
      obtain ⟨ws, hy, u, rfl, hu2⟩ := paired_get rows0 hx
      have hi : i < ps.length := (List.getElem?_eq_some_iff.mp hy).1
      have po := I.po ws (List.mem_of_getElem? hy)
      have edrop : ps.drop i = ws :: ps.drop (i + 1) := by
        rw [List.drop_eq_getElem_cons hi, (List.getElem?_eq_some_iff.mp hy).2]
      rw [edrop, coverGo] at he
      have gH : Gr H H' := g12.tr g
      walk_at "rr"
      refine ⟨v, h0, u, vals, hs, ws, rfl, gH _ _ I.hv, I.hh.gr gH, I.hl, g _ _ hu2, po, ?_, ?_⟩
      · intro en H4 g4
        walk_at "rr"
        refine x_ite (fun _ => ?_) (fun c => by cases c)
        walk_at "rr"
        rw [en] at he
        exact k.1 he _ (gH.tr g4)
      · intro row er b H4 nb g4 hb
        have rw1 := (taken_row po er).len
        have hl1 := I.hl
        rw [er] at he
        dsimp only at he
        walk_at "rr"
        refine x_ite (fun c => by cases c) (fun _ => ?_)
        walk_at "rr"
        have hd4 := g4 _ _ hd
        have bd : b ≠ d := (ne_of_none hd nb).symm
        have bq : b ≠ q := (ne_of_none hq nb).symm
        refine fin_L (xs := row.map V.int) (sql_of hb) (fun j σ' H5 => ∃ tk2 x9, σ' = [some (.ref v), some (.ref h0), some (.ref t), some (.ref fl), some (.ref pl), some (.ref q), some (.ref d), some (.ref u), some (.ref b), x9, none] ∧ H5 = upd H4 d (.dK (tk2.map mkT)) ∧ tk2.length = tk.length + j ∧ putAll row tk = putAll (row.drop j) tk2)
          ⟨tk, x9, rfl, (upd_id hd4).symm, rfl, by rw [List.drop_zero]⟩ (fun j σ' H5 _ ⟨_, _, _, e5, _⟩ => by rw [e5]; exact sql_of (at_ne bd hb)) ?_ ?_
        · rintro j x2 σ' H5 hx2 ⟨tk2, y9, rfl, rfl, hl2, ep⟩
          rw [List.getElem?_map] at hx2
          obtain ⟨z, hz, rfl⟩ := Option.map_eq_some_iff.mp hx2
          have hj : j < row.length := (List.getElem?_eq_some_iff.mp hz).1
          have edj : row.drop j = z :: row.drop (j + 1) := by
            rw [List.drop_eq_getElem_cons hj, (List.getElem?_eq_some_iff.mp hz).2]
          rw [edj, putAll] at ep
          walk_at "rr"
          refine x_dinK (k := Sum.inl z) upd_same ?_
          rw [valV_mkT]
          walk_at "rr"
          refine x_ite (fun c => ?_) (fun c => ?_)
          · walk_at "rr"
            have mz : z ∈ tk2 := of_decide_eq_true c
            rw [if_pos mz] at ep
            rw [ep] at he
            dsimp only at he
            exact k.1 he _ (gr_mut (gH.tr g4) ndH)
          · walk_at "rr"
            have mz : z ∉ tk2 := of_decide_eq_false c
            rw [if_neg mz] at ep
            refine x_dputK (k := Sum.inl z) upd_same ?_ ?_
            · rw [List.length_map, show PySem.sizeLine = 16777216 from by decide]
              omega
            rw [put_mkT mz, upd_upd]
            walk_at "ds"
            exact ⟨tk2 ++ [z], _, rfl, rfl, by rw [List.length_append, List.length_singleton]; omega, ep⟩
        · rintro σ' H5 ⟨tk2, y9, rfl, rfl, hl2, ep⟩
          rw [List.length_map] at hl2 ep
          rw [List.drop_length] at ep
          rw [show putAll row tk = some tk2 from ep] at he
          dsimp only at he
          walk_at "ds"
          walk_at "rr"
          have hq5 : upd H4 d (.dK (tk2.map mkT)) q = some (.lst (as.map V.ref)) := at_ne qd (g4 _ _ hq)
          walk_at "rr"
          refine x_app hq5 ?_ ?_
          · rw [List.length_map, show PySem.sizeLine = 16777216 from by decide]
            omega
          walk_at "ds"
          have nb2 : H2 b = none := gr_free g nb
          have nas : b ∉ as := fun hm => by
            obtain ⟨ix, hix⟩ := List.getElem?_of_mem hm
            obtain ⟨rr, _, hrr⟩ := pr_get pr hix
            rw [nb] at hrr; cases hrr
          refine ⟨as ++ [b], rows ++ [row], tk2, _, _, _, rfl, ?_, ?_, ?_, ?_, ?_, ?_, ?_, ?_, ?_⟩
          · exact gr_mut (gr_mut (g.tr g4) (free_new nd0)) nq
          · rw [upd_same, List.map_append]; rfl
          · exact at_ne qd.symm upd_same
          · refine paired_app (paired_mem pr fun a row hm ha => ?_) (.cons ?_ .nil)
            · exact at_ne (fr a hm).2.1 (at_ne (fr a hm).2.2 (g4 _ _ ha))
            · exact at_ne bq (at_ne bd hb)
          · intro a ha
            rcases List.mem_append.mp ha with h | h
            · exact fr a h
            · rw [List.mem_singleton.mp h]; exact ⟨nb2, bq, bd⟩
          · rw [List.nodup_append]
            exact ⟨nda, by simp, fun a ha c hc e => nas (by rw [← List.mem_singleton.mp hc, ← e]; exact ha)⟩
          · rw [List.length_append, List.length_singleton]; omega
          · omega
          · rw [he]
            show Option.map _ (Option.map _ _) = _
            cases coverGo vals hs (ps.drop (i + 1)) tk2 with
            | none => rfl
            | some w => show some (rows ++ row :: w) = some ((rows ++ [row]) ++ w); rw [List.append_assoc]; rfl
    · rintro σ' H' ⟨as, rows, tk, x7, x8, x9, rfl, g, hq, hd, pr, fr, nda, hla, htk, he⟩
      have gH : Gr H H' := g12.tr g
      rw [paired_len rows0, List.drop_length, coverGo] at he
      walk_at "rr"
      refine k.2 rows (by rw [he]; show some (rows ++ []) = _; rw [List.append_nil]) q as H' nqH (fun a ha => gr_free g12 (fr a ha).1) ?_ gH hq pr
      exact List.nodup_cons.mpr ⟨fun hm => (fr q hm).2.1 rfl, nda⟩
theorem sum_lens : ∀ rows : List (List Int), (rows.map fun r => (r.length : Int)).sum = (((rows.map List.length).sum : Nat) : Int)
  | [] => rfl
  | r :: t => by
    rw [List.map_cons, List.map_cons, List.sum_cons, List.sum_cons, sum_lens t]
    omega
theorem pr_map {α β γ : Type} {F : α → β → Prop} {f : α → γ} : ∀ {xs : List α} {ys : List β}, Paired F xs ys → Paired (fun c y => ∃ x, c = f x ∧ F x y) (xs.map f) ys
  | _, _, .nil => .nil
  | _, _, .cons h t => .cons ⟨_, rfl, h⟩ (pr_map t)
theorem ok_fits {P : Program} {w : World} {K : PySem.W.Frag} {mg : Str → Option Value} {base : Heap} {f : Addr} {fd : FuncData} (F : Fun K "fits" "fits" s_fits f fd) (T : Txt mg)
    (D_cover : Df P w K mg base "cover" 5 ["values", "heap", "telling"] (sp_cover K)) :
    FnOk P w K mg base CX0 6 f fd ["values", "heap", "telling"] (sp_fits K) := by
  have nd := sc_fits.nd
  have mn_sum := T.mn_sum
  have mn_len := T.mn_len
  refine F.ok sc_fits (fun vs H Q E h => ?_) (fun cdv A outer s H vs Q E hr h => ?_)
  · obtain ⟨v, h0, t, vals, hs, fs, ps, rfl, _⟩ := h
    rfl
  · have hu := hu_of hr
    obtain ⟨v, h0, t, vals, hs, fs, ps, rfl, I, k⟩ := h
    refine ⟨_, (pss_cons (ps_set (i := 3) nd rfl (by first | exact Or.inl rfl | exact Or.inr rfl) (pe_df D_cover hr (pa_cons (pv 0) (pa_cons (pv 1) (pa_cons (pv 2) pa_nil)))))
          (pss_cons (ps_if (pt_cmpR oo_isN (pv 3) pe_non (nomark _))
            (pss_one (ps_ret pe_bl))
            pss_nil)
          (pss_one (ps_ret (pe_cmpR op_eq (pe_callB (k_sum K rfl) (by rfl) mn_sum (by decide +kernel) (pa_cons (pe_lc (own := [("row", 4)]) (g := (gName 4)) (tt := tYes) rfl nd (k_pil K (pv 3)) (blkOk_by (N := N_fits) (sc := defScope s_fits) (own := [("row", 4)]) (by decide +kernel)) (fun _ _ _ _ _ => (pg_name (i := 4) nd rfl (by first | exact Or.inl rfl | exact Or.inr rfl))) (fun _ _ _ _ _ => pts_nil) (fun _ _ _ _ _ => (pe_callB (k_len K) (by rfl) mn_len (by decide +kernel) (pa_cons (pv 4) pa_nil)))) pa_nil)) (pe_callB cc_lenD (by rfl) mn_len (by decide +kernel) (pa_cons (pv 1) pa_nil)) (nomark _)))))), ?_⟩
    refine x_start (τ := [some (.ref v), some (.ref h0), some (.ref t), none, none]) rfl ?_
    walk_at "kk"
    walk_at "rr"
    refine ⟨v, h0, t, vals, hs, fs, ps, rfl, I, ?_, ?_⟩
    · intro e H1 g1
      walk_at "rr"
      refine x_ite (fun _ => ?_) (fun c => by cases c)
      walk_at "rr"
      have e2 : fitsM vals hs fs ps = false := by unfold fitsM; rw [e]
      rw [e2] at k
      exact k _ g1
    · intro rows e q as H1 nq na nd1 g1 hq pr
      walk_at "rr"
      refine x_ite (fun c => by cases c) (fun _ => ?_)
      walk_at "rr"
      have po : (rows.length ≤ 200) := by
        have hl := I.ok.2.1
        rw [List.length_append] at hl
        have : ∀ (ps : List (List Str)) (tk : List Int) (rows : List (List Int)), coverGo vals hs ps tk = some rows → rows.length = ps.length := by
          intro ps
          induction ps with
          | nil => intro tk rows h; cases h; rfl
          | cons p r ih =>
            intro tk rows h
            rw [coverGo] at h
            cases d : takenM vals hs p with
            | none => rw [d] at h; cases h
            | some row =>
              rw [d] at h
              dsimp only at h
              cases d2 : putAll row tk with
              | none => rw [d2] at h; cases h
              | some t' =>
                rw [d2] at h
                dsimp only at h
                obtain ⟨w1, h1, h2⟩ := Option.map_eq_some_iff.mp h
                rw [← h2, List.length_cons, List.length_cons, ih t' w1 h1]
        unfold coverM at e
        split at e
        · rw [this ps [] rows e]; omega
        · cases e
      refine fin_lcP (pr_map (f := V.ref) pr) (fun r => .int (r.length : Int)) (sql_of hq) (by rw [List.length_map, pr_len pr]; omega) (fun _ => rfl) ?_ ?_
      · rintro x y H' ⟨a, rfl, ha⟩ hy g R r
        walk_at "rr"
        refine x_lenL (sql_of (g _ _ ha)) ?_
        rw [List.length_map]
        exact r _ Gr.rfl
      intro D0 H2 nD g2 hD
      walk_at "rr"
      refine x_sum (ns := rows.map fun r => (r.length : Int)) (sql_of (by rw [hD, List.map_map]; rfl)) ?_
      obtain ⟨kvs, h1, h2⟩ := id I.hh
      walk_at "rr"
      refine x_lenD (g2 _ _ (g1 _ _ h1)) ?_
      walk_at "rr"
      have e2 : fitsM vals hs fs ps = decide (V.int (rows.map fun r => (r.length : Int)).sum = V.int (kvs.length : Int)) := by
        unfold fitsM
        rw [e, dec_int, sum_lens, paired_len h2]
        dsimp only
        by_cases c : (rows.map List.length).sum = hs.length
        · rw [c, beq_self_eq_true, beq_self_eq_true]
        · rw [beq_eq_false_iff_ne.mpr c, beq_eq_false_iff_ne.mpr (fun z => c (by omega))]
      rw [← e2]
      exact k _ (g1.tr g2)
theorem nameN_inj (base place : Int) {k k' : Nat} (hk : k < 10) (hk' : k' < 10) (e : nameN base place k = nameN base place k') : k = k' := by
  have h := mkS_inj e
  have hl : (longN base : Int) = 1 + base % 8 := by
    unfold longN
    have := Int.emod_nonneg base (show (8 : Int) ≠ 0 by decide)
    omega
  have a0 := Int.emod_nonneg place (show (1 + base % 8 : Int) ≠ 0 by have := (longN_pos base).1; omega)
  have a1 := Int.emod_lt_of_pos place (show (0 : Int) < 1 + base % 8 by have := (longN_pos base).1; omega)
  obtain ⟨j, hj⟩ : ∃ j : Nat, place % (1 + base % 8) = (j : Int) := ⟨(place % (1 + base % 8)).toNat, by omega⟩
  rw [hj] at h a1
  have hjl : j < longN base := by omega
  have g : cdN base (j : Int) k j = cdN base (j : Int) k' j := by
    have g2 := congrArg (fun l : List Nat => l[j]?) h
    simp only [List.getElem?_map, List.getElem?_range hjl, Option.map_some] at g2
    exact Option.some.inj g2
  unfold cdN at g
  have e1 : onI true = 1 := rfl
  by_cases c : j = 0
  · rw [if_pos c, if_pos c] at g
    rw [show (((j : Nat) : Int) == 0) = true from by rw [c]; rfl] at g
    have m1 := Int.emod_nonneg (base / 8 + (k : Int) * onI true) (show (22 : Int) ≠ 0 by decide)
    have m2 := Int.emod_lt_of_pos (base / 8 + (k : Int) * onI true) (show (0 : Int) < 22 by decide)
    have m3 := Int.emod_nonneg (base / 8 + (k' : Int) * onI true) (show (22 : Int) ≠ 0 by decide)
    have m4 := Int.emod_lt_of_pos (base / 8 + (k' : Int) * onI true) (show (0 : Int) < 22 by decide)
    have q := lets_inj _ (by omega) _ (by omega) g
    rw [e1] at m1 m2 m3 m4 q
    omega
  · rw [if_neg c, if_neg c] at g
    rw [show (((j : Nat) : Int) == (j : Int)) = true from beq_self_eq_true _] at g
    generalize base.fdiv (9 + (j : Int)) + 3 * (j : Int) * (j : Int) = y at g
    have m1 := Int.emod_nonneg (y + (k : Int) * onI true) (show (32 : Int) ≠ 0 by decide)
    have m2 := Int.emod_lt_of_pos (y + (k : Int) * onI true) (show (0 : Int) < 32 by decide)
    have m3 := Int.emod_nonneg (y + (k' : Int) * onI true) (show (32 : Int) ≠ 0 by decide)
    have m4 := Int.emod_lt_of_pos (y + (k' : Int) * onI true) (show (0 : Int) < 32 by decide)
    have q := lets2_inj _ (by omega) _ (by omega) g
    rw [e1] at m1 m2 m3 m4 q
    omega
theorem nameN_any (base place : Int) (k : Nat) : nameN base place k ≠ ("any" : Str) := fun e => by
  have h := nameN_all (fun c => c != 110) (by decide) (by decide +kernel) (by decide +kernel) base place k
  rw [e] at h
  exact absurd h (by decide +kernel)
theorem str_nodup_le : ∀ (l d : List Str), l.Nodup → (∀ x ∈ l, x ∈ d) → l.length ≤ d.length
  | [], _, _, _ => Nat.zero_le _
  | x :: l, d, n, s => by
    obtain ⟨n1, n2⟩ := List.nodup_cons.mp n
    have hx : x ∈ d := s x List.mem_cons_self
    have ih := str_nodup_le l (d.erase x) n2 fun y hy => by
      have ne : y ≠ x := fun e => n1 (e ▸ hy)
      exact (List.mem_erase_of_ne ne).2 (s y (List.mem_cons_of_mem _ hy))
    have e := List.length_erase_of_mem hx
    have p : 0 < d.length := List.length_pos_of_mem hx
    rw [List.length_cons]
    omega
/-- names and their values -/
structure Nms (names : List Str) (vals : List (Str × Int)) : Prop where
  keys : vals.map (·.1) = names
  nil : ∀ n ∈ names, n ≠ ("nil" : Str)
  any : ∀ n ∈ names, n ≠ ("any" : Str)
  len : names.length = 4
theorem lk_mem : ∀ {vals : List (Str × Int)} {n : Str}, n ∈ vals.map (·.1) → (lk vals n).isSome = true
  | p :: r, n, h => by
    unfold lk
    rw [List.find?_cons]
    by_cases e : p.1 = n
    · rw [decide_eq_true e]; rfl
    · rw [decide_eq_false e]
      rw [List.map_cons] at h
      exact lk_mem ((List.mem_cons.mp h).resolve_left fun z => e z.symm)
theorem lk_not : ∀ {vals : List (Str × Int)} {n : Str}, n ∉ vals.map (·.1) → lk vals n = none
  | [], _, _ => rfl
  | p :: r, n, h => by
    unfold lk
    rw [List.map_cons, List.mem_cons, not_or] at h
    rw [List.find?_cons, decide_eq_false fun z => h.1 z.symm]
    exact lk_not h.2
theorem lk_app {vals more : List (Str × Int)} {n : Str} : lk (vals ++ more) n = (lk vals n).or (lk more n) := by
  unfold lk
  rw [List.find?_append]
  cases vals.find? fun p => decide (p.1 = n) <;> rfl
section
variable {names : List Str} {vals : List (Str × Int)}
theorem Nms.has (N : Nms names vals) {n : Str} (h : n ∈ names ++ [("nil" : Str)]) : Has vals n := by
  rcases List.mem_append.mp h with k | k
  · exact .inr (lk_mem (N.keys ▸ k))
  · exact .inl (List.mem_singleton.mp k)
theorem Nms.hasA (N : Nms names vals) {n : Str} (h : n ∈ names ++ [("nil" : Str), "any"]) : HasA vals n := by
  rcases List.mem_append.mp h with k | k
  · exact .inr (N.has (List.mem_append_left _ k))
  · rcases List.mem_cons.mp k with e | e
    · exact .inr (.inl e)
    · exact .inl (List.mem_singleton.mp e)
theorem Nms.full (N : Nms names vals) {n : Str} (h : n ∈ names ++ [("nil" : Str)]) : lk (vals ++ [(("nil" : Str), (0 : Int))]) n = some (vo vals n) := by
  rw [lk_app]
  rcases List.mem_append.mp h with k | k
  · obtain ⟨z, hz⟩ := Option.isSome_iff_exists.mp (lk_mem (N.keys ▸ k : n ∈ vals.map (·.1)))
    unfold vo
    rw [if_neg (N.nil n k), hz]
    rfl
  · rw [List.mem_singleton.mp k, lk_not (fun z => N.nil _ (N.keys ▸ z) rfl)]
    rfl
theorem Nms.fany (N : Nms names vals) : lk (vals ++ [(("nil" : Str), (0 : Int))]) ("any" : Str) = none := by
  rw [lk_app, lk_not (fun z => N.any _ (N.keys ▸ z) rfl)]
  decide +kernel
theorem Nms.fact (N : Nms names vals) {f : List Str} (h : FactIn (names ++ [("nil" : Str)]) f) : FactOk vals f := by
  obtain ⟨w, a, b, e, _, ha, hb⟩ := h
  exact ⟨w, a, b, e, N.has ha, N.has hb⟩
/-- all rows are of names -/
def InRows (names : List Str) (rs : List (List Str)) : Prop := ∀ r ∈ rs, 2 ≤ r.length ∧ r.length ≤ 4 ∧ ∀ x ∈ r.drop 1, x ∈ names ++ [("nil" : Str), "any"]
theorem Nms.word (N : Nms names vals) {rs : List (List Str)} (h : InRows names rs) {x : Str} (hx : x ∈ wordsL rs) (hn : isN x = true) : x ∈ names := by
  obtain ⟨r, hr, hxr⟩ := List.mem_flatMap.mp hx
  rcases List.mem_append.mp ((h r hr).2.2 x hxr) with k | k
  · exact k
  · rcases List.mem_cons.mp k with e | e
    · rw [e] at hn; exact absurd hn (by decide +kernel)
    · rw [List.mem_singleton.mp e] at hn; exact absurd hn (by decide +kernel)
theorem Nms.tell (N : Nms names vals) {fs ps : List (List Str)} (h : InRows names (fs ++ ps)) (hl : (fs ++ ps).length ≤ 200) : TellOk fs ps := by
  refine ⟨fun r hr => ⟨(h r hr).1, (h r hr).2.1⟩, hl, ?_⟩
  have h1 := str_nodup_le (tnames fs ps) names (once_nd _ _ List.nodup_nil) fun x hx => by
    rcases (once_in _ _ _).mp hx with k | k
    · cases k
    · obtain ⟨k1, k2⟩ := List.mem_filter.mp k
      exact N.word h k1 k2
  rw [N.len] at h1
  omega
theorem Nms.named (N : Nms names vals) {fs ps : List (List Str)} (h : InRows names (fs ++ ps)) : AllNamed vals fs ps := fun x hx hn => lk_mem (N.keys ▸ N.word h hx hn)
theorem fact_in {f : List Str} (h : FactIn (names ++ [("nil" : Str)]) f) : 2 ≤ f.length ∧ f.length ≤ 4 ∧ ∀ x ∈ f.drop 1, x ∈ names ++ [("nil" : Str), "any"] := by
  obtain ⟨w, a, b, rfl, _, ha, hb⟩ := h
  have up : ∀ {x : Str}, x ∈ names ++ [("nil" : Str)] → x ∈ names ++ [("nil" : Str), "any"] := fun hx => by
    rcases List.mem_append.mp hx with k | k
    · exact List.mem_append_left _ k
    · exact List.mem_append_right _ (by rw [List.mem_singleton.mp k]; exact List.mem_cons_self)
  refine ⟨by simp, by simp, fun x hx => ?_⟩
  have hx2 : x ∈ [a, b] := hx
  rcases List.mem_cons.mp hx2 with e | e
  · rw [e]; exact up ha
  · rw [List.mem_singleton.mp e]; exact up hb
theorem Nms.due (N : Nms names vals) {n : Str} (h : n ∈ names ++ [("nil" : Str), "any"]) (z : Int) : ((lk (vals ++ [(("nil" : Str), (0 : Int))]) n).getD z = z) ↔ dueM vals n z = true := by
  unfold dueM
  rcases List.mem_append.mp h with k | k
  · rw [N.full (List.mem_append_left _ k), beq_eq_false_iff_ne.mpr (N.any n k), Bool.false_or]
    exact beq_iff_eq.symm
  · rcases List.mem_cons.mp k with e | e
    · subst e
      rw [N.full (List.mem_append_right _ List.mem_cons_self), show ((("nil" : Str)) == ("any" : Str)) = false from by decide +kernel, Bool.false_or]
      exact beq_iff_eq.symm
    · rw [List.mem_singleton.mp e, N.fany]
      exact ⟨fun _ => by rw [beq_self_eq_true, Bool.true_or], fun _ => rfl⟩
theorem Nms.cell (N : Nms names vals) {x f s : Str} (hf : f ∈ names ++ [("nil" : Str), "any"]) (hs : s ∈ names ++ [("nil" : Str), "any"]) (cs : Cells) :
    cellD (vals ++ [(("nil" : Str), (0 : Int))]) cs (vo vals x) f s = (cellM vals cs x f s).map fun r => [r] := by
  unfold cellD cellM
  cases cl cs (vo vals x) with
  | none => rfl
  | some c =>
    dsimp only
    by_cases h : dueM vals f c.1 = true ∧ dueM vals s c.2 = true
    · rw [if_pos ⟨(N.due hf c.1).mpr h.1, (N.due hs c.2).mpr h.2⟩, if_pos (by rw [h.1, h.2]; rfl)]
      rfl
    · rw [if_neg (fun k => h ⟨(N.due hf c.1).mp k.1, (N.due hs c.2).mp k.2⟩), if_neg (fun k => h ((Bool.and_eq_true _ _).mp k))]
      rfl
/-- what a cell takes -/
theorem cellM_one {cs : Cells} {x f s : Str} {r : List Int} (h : cellM vals cs x f s = some r) : r = [vo vals x] := by
  unfold cellM at h
  cases d : cl cs (vo vals x) with
  | none => rw [d] at h; cases h
  | some p =>
    rw [d] at h
    have h2 : (if dueM vals f p.1 && dueM vals s p.2 then some [vo vals x] else none) = some r := h
    split at h2
    · cases h2; rfl
    · cases h2
end
/-- None or a list of lists, as it comes back -/
def DueAt (H : Hp) (dv : V) (res : Option (List (List Int))) : Prop := (res = none ∧ dv = .non) ∨
  ∃ q as rows, res = some rows ∧ dv = .ref q ∧ H q = some (.lst (as.map V.ref)) ∧ Paired (fun a (row : List Int) => H a = some (.lst (row.map V.int))) as rows
theorem DueAt.gr {H H' : Hp} {dv : V} {res : Option (List (List Int))} (g : Gr H H') (h : DueAt H dv res) : DueAt H' dv res := by
  rcases h with h | ⟨q, as, rows, e, e2, hq, hp⟩
  · exact .inl h
  · exact .inr ⟨q, as, rows, e, e2, g _ _ hq, paired_imp hp fun _ _ k => g _ _ k⟩
theorem retLL_of {res : Option (List (List Int))} {H : Hp} {Q : VK} (h : ∀ dv H', Gr H H' → DueAt H' dv res → Q dv H') : RetLL res H Q :=
  ⟨fun e H' g => h _ H' g (.inl ⟨e, rfl⟩), fun rows e q as H' _ _ _ g hq hp => h _ H' g (.inr ⟨q, as, rows, e, rfl, hq, hp⟩)⟩
/-- the same, and new -/
def DueF (H H' : Hp) (dv : V) (res : Option (List (List Int))) : Prop := (res = none ∧ dv = .non) ∨
  ∃ q as rows, res = some rows ∧ dv = .ref q ∧ H q = none ∧ (∀ a ∈ as, H a = none) ∧ (q :: as).Nodup ∧ H' q = some (.lst (as.map V.ref)) ∧ Paired (fun a (row : List Int) => H' a = some (.lst (row.map V.int))) as rows
theorem retLL_fr {res : Option (List (List Int))} {H : Hp} {Q : VK} (h : ∀ dv H', Gr H H' → DueF H H' dv res → Q dv H') : RetLL res H Q :=
  ⟨fun e H' g => h _ H' g (.inl ⟨e, rfl⟩), fun rows e q as H' n1 n2 n3 g hq hp => h _ H' g (.inr ⟨q, as, rows, e, rfl, n1, n2, n3, hq, hp⟩)⟩
theorem DueF.due {H H' : Hp} {dv : V} {res : Option (List (List Int))} (h : DueF H H' dv res) : DueAt H' dv res := by
  rcases h with h | ⟨q, as, rows, e, e2, _, _, _, hq, hp⟩
  · exact .inl h
  · exact .inr ⟨q, as, rows, e, e2, hq, hp⟩
theorem told_of {K : PySem.W.Frag} {H : Hp} {Q : VK} {fv dv : V} {res : Option (List (List Int))} (h1 : DueAt H fv res) (h2 : DueAt H dv res) (k : Q (.bl true) H) : sp__law_told K [fv, dv] H Q E0 := by
  rcases h1 with ⟨e1, rfl⟩ | ⟨q, as, rows, e1, rfl, hq, hp⟩
  · rcases h2 with ⟨_, rfl⟩ | ⟨_, _, _, e2, _⟩
    · exact .inl ⟨rfl, k⟩
    · rw [e1] at e2; cases e2
  · rcases h2 with ⟨e2, _⟩ | ⟨q2, bs, rows2, e2, rfl, hq2, hp2⟩
    · rw [e1] at e2; cases e2
    · have e3 : some rows = some rows2 := e1.symm.trans e2
      cases e3
      exact .inr ⟨q, q2, as, bs, rows, rfl, hq, hq2, hp, hp2, k⟩
theorem eqV_list {K : PySem.W.Frag} {H : Hp} {n : Nat} {a b : Addr} {xs : List V} (ha : H a = some (.lst xs)) (hb : H b = some (.lst xs)) (h : ∀ x ∈ xs, EqV K H n x x) : EqV K H (n + 1) (.ref a) (.ref b) := by
  refine .inr (.inr (.inl ⟨a, b, xs, xs, rfl, rfl, sql_of ha, sql_of hb, ?_⟩))
  clear ha hb
  induction xs with
  | nil => exact .nil
  | cons x r ih => exact .cons (h x List.mem_cons_self) (ih fun y hy => h y (List.mem_cons_of_mem _ hy))
theorem atI_pre {zs ys : List Str} {i : Int} (h0 : 0 ≤ i) (h1 : i < zs.length) : ∃ z ∈ zs, atI ((zs ++ ys).map V.str) i = some (.str z) := by
  obtain ⟨n, rfl⟩ : ∃ n : Nat, i = (n : Int) := ⟨i.toNat, by omega⟩
  have h2 : n < zs.length := by omega
  refine ⟨zs[n], List.getElem_mem h2, atI_nat ?_⟩
  rw [List.getElem?_map, List.getElem?_append_left h2, List.getElem?_eq_getElem h2]
  rfl
theorem put_vals {vals : List (Str × Int)} {n : Str} {z : Int} (nw : n ∉ vals.map (·.1)) : putK (vals.map fun p => ((Sum.inr p.1 : Key), V.int p.2)) (.inr n) (.int z) = (vals ++ [(n, z)]).map fun p => ((Sum.inr p.1 : Key), V.int p.2) := by
  rw [putK_new _ (by rw [valV_vals, lk_not nw]; rfl), List.map_append]
  rfl
theorem ok_law {P : Program} {w : World} {K : PySem.W.Frag} {mg : Str → Option Value} {base : Heap} {f : Addr} {fd : FuncData} (F : Fun K "law" "law" s_law f fd) (T : Txt mg)
    (D__law_names : Df P w K mg base "_law_names" 1 ["_law_base", "_law_place", "_law_many"] (sp__law_names K))
    (D__law_addresses : Df P w K mg base "_law_addresses" 1 ["_law_cell", "_law_many"] (sp__law_addresses K))
    (D__law_facts : Df P w K mg base "_law_facts" 1 ["_law_cells", "_law_some"] (sp__law_facts K))
    (D__law_cell_at : Df P w K mg base "_law_cell_at" 1 ["_law_script", "_law_k"] (sp__law_cell_at K))
    (D__law_heap : Df P w K mg base "_law_heap" 2 ["_law_script", "_law_spots", "_law_full", "_law_part"] (sp__law_heap K))
    (D__law_due : Df P w K mg base "_law_due" 1 ["_law_full", "_law_heap_here", "_law_part", "_law_hold"] (sp__law_due K))
    (D_cover : Df P w K mg base "cover" 5 ["values", "heap", "telling"] (sp_cover K))
    (D__law_is : Df P w K mg base "_law_is" 1 ["_law_found", "_law_due_here"] (sp__law_is K))
    (D__law_value : Df P w K mg base "_law_value" 1 ["_law_cell", "_law_spots"] (sp__law_value K))
    (D__law_many_facts : Df P w K mg base "_law_many_facts" 1 ["_law_cell", "_law_full", "_law_some"] (sp__law_many_facts K))
    (D_fits : Df P w K mg base "fits" 6 ["values", "heap", "telling"] (sp_fits K))
    (D__law_holds : Df P w K mg base "_law_holds" 1 ["_law_values", "_law_fact"] (sp__law_holds K))
    (D__law_told : Df P w K mg base "_law_told" 1 ["_law_found", "_law_due_here"] (sp__law_told K)) :
    FnOk P w K mg base CX0 7 f fd ["_law_script"] (sp_law K) := by
  have nd := sc_law.nd
  have mn_range := T.mn_range
  have mn_dict := T.mn_dict
  have mn_all := T.mn_all
  have mn_list := T.mn_list
  have mn_int := T.mn_int
  have mn_len := T.mn_len
  refine F.ok sc_law (fun vs H Q E h => ?_) (fun cdv A outer s H vs Q E hr h => ?_)
  · obtain ⟨a, ns, rfl, _⟩ := h
    rfl
  · have hu := hu_of hr
    obtain ⟨a, ns, rfl, hS, hl, k⟩ := h
    refine ⟨_, (pss_cons (ps_set (i := 1) nd rfl (by first | exact Or.inl rfl | exact Or.inr rfl) (pe_df D__law_names (hr.mono (by decide)) (pa_cons (pe_df D__law_cell_at (hr.mono (by decide)) (pa_cons (pv 0) (pa_cons pe_int pa_nil))) (pa_cons (pe_df D__law_cell_at (hr.mono (by decide)) (pa_cons (pv 0) (pa_cons pe_int pa_nil))) (pa_cons pe_int pa_nil)))))
          (pss_cons (ps_set (i := 2) nd rfl (by first | exact Or.inl rfl | exact Or.inr rfl) (pe_df D__law_addresses (hr.mono (by decide)) (pa_cons (pe_df D__law_cell_at (hr.mono (by decide)) (pa_cons (pv 0) (pa_cons pe_int pa_nil))) (pa_cons pe_int pa_nil))))
          (pss_cons (ps_set (i := 3) nd rfl (by first | exact Or.inl rfl | exact Or.inr rfl) pe_dnewK)
          (pss_cons (ps_for PassesOwn.never rfl (pi_range1 (by rfl) mn_range (pa_cons pe_int pa_nil)) (pg_name (i := 4) nd rfl (by first | exact Or.inl rfl | exact Or.inr rfl))
            (pss_one (ps_dput hu (pv 3) (pe_ix (k_ixL K) (pv 1) (pv 4) (fun _ _ => rfl)) (pe_df D__law_value (hr.mono (by decide)) (pa_cons (pe_df D__law_cell_at (hr.mono (by decide)) (pa_cons (pv 0) (pa_cons (pe_op op_add pe_int (pv 4)) pa_nil))) (pa_cons (pv 2) pa_nil))) rfl)))
          (pss_cons (ps_set (i := 5) nd rfl (by first | exact Or.inl rfl | exact Or.inr rfl) (pe_callTy cc_dict (by rfl) mn_dict (by decide +kernel) (pa_cons (pv 3) pa_nil)))
          (pss_cons (ps_dput hu (pv 5) pe_str pe_int rfl)
          (pss_cons (ps_set (i := 6) nd rfl (by first | exact Or.inl rfl | exact Or.inr rfl) (pe_df D__law_facts (hr.mono (by decide)) (pa_cons (pe_slice (k_slL K) (pv 0) (po_some pe_int) (po_some pe_int)) (pa_cons (pe_op op_cat (pv 1) (pe_lst (pa_cons pe_str pa_nil))) pa_nil))))
          (pss_cons (ps_if (pt_cmpR op_eq (pe_op op_mod (pe_df D__law_cell_at (hr.mono (by decide)) (pa_cons (pv 0) (pa_cons pe_int pa_nil))) pe_int) pe_int (nomark _))
            (pss_one (ps_set (i := 6) nd rfl (by first | exact Or.inl rfl | exact Or.inr rfl) (pe_df D__law_many_facts (hr.mono (by decide)) (pa_cons (pe_df D__law_cell_at (hr.mono (by decide)) (pa_cons (pv 0) (pa_cons pe_int pa_nil))) (pa_cons (pv 5) (pa_cons (pe_op op_cat (pv 1) (pe_lst (pa_cons pe_str pa_nil))) pa_nil))))))
            pss_nil)
          (pss_cons (ps_set (i := 7) nd rfl (by first | exact Or.inl rfl | exact Or.inr rfl) (pe_df D__law_cell_at (hr.mono (by decide)) (pa_cons (pv 0) (pa_cons pe_int pa_nil))))
          (pss_cons (ps_set (i := 8) nd rfl (by first | exact Or.inl rfl | exact Or.inr rfl) (pe_op op_cat (pv 1) (pe_lst (pa_cons pe_str (pa_cons pe_str pa_nil)))))
          (pss_cons (ps_set (i := 9) nd rfl (by first | exact Or.inl rfl | exact Or.inr rfl) (pe_tup (pa_cons pe_str (pa_cons (pe_ix (k_ixL K) (pv 8) (pe_op op_mod (pv 7) pe_int) (fun _ _ => rfl)) (pa_cons (pe_ix (k_ixL K) (pv 8) (pe_op op_mod (pe_op op_fdiv (pv 7) pe_int) pe_int) (fun _ _ => rfl)) (pa_cons (pe_ix (k_ixL K) (pv 8) (pe_op op_mod (pe_op op_fdiv (pv 7) pe_int) pe_int) (fun _ _ => rfl)) pa_nil))))))
          (pss_cons (ps_set (i := 10) nd rfl (by first | exact Or.inl rfl | exact Or.inr rfl) (pe_df D__law_heap (hr.mono (by decide)) (pa_cons (pv 0) (pa_cons (pv 2) (pa_cons (pv 5) (pa_cons (pv 9) pa_nil))))))
          (pss_cons (ps_set (i := 11) nd rfl (by first | exact Or.inl rfl | exact Or.inr rfl) (pe_callB (k_all K rfl) (by rfl) mn_all (by decide +kernel) (pa_cons (pe_lc (own := [("_law_fact", 19)]) (g := (gName 19)) (tt := tYes) rfl nd (k_pil K (pv 6)) (blkOk_by (N := N_law) (sc := defScope s_law) (own := [("_law_fact", 19)]) (by decide +kernel)) (fun _ _ _ _ _ => (pg_name (i := 19) nd rfl (by first | exact Or.inl rfl | exact Or.inr rfl))) (fun _ _ _ _ _ => pts_nil) (fun _ _ _ _ _ => (pe_df D__law_holds (hr.mono (by decide)) (pa_cons (pv 5) (pa_cons (pv 19) pa_nil))))) pa_nil)))
          (pss_cons (ps_set (i := 12) nd rfl (by first | exact Or.inl rfl | exact Or.inr rfl) (pe_df D__law_due (hr.mono (by decide)) (pa_cons (pv 5) (pa_cons (pv 10) (pa_cons (pv 9) (pa_cons (pv 11) pa_nil))))))
          (pss_cons (ps_set (i := 13) nd rfl (by first | exact Or.inl rfl | exact Or.inr rfl) (pe_lst (pa_cons (pe_callTy cc_dict (by rfl) mn_dict (by decide +kernel) (pa_cons (pv 3) pa_nil)) (pa_cons (pe_callTy cc_dict (by rfl) mn_dict (by decide +kernel) (pa_cons (pv 10) pa_nil)) (pa_cons (pe_callTy (k_list K) (by rfl) mn_list (by decide +kernel) (pa_cons (pv 6) pa_nil)) (pa_cons (pe_lst (pa_cons (pv 9) pa_nil)) pa_nil))))))
          (pss_cons (ps_set (i := 14) nd rfl (by first | exact Or.inl rfl | exact Or.inr rfl) (pe_tup (pa_cons (pe_callTy (k_list K) (by rfl) mn_list (by decide +kernel) (pa_cons (pv 6) pa_nil)) (pa_cons (pe_lst (pa_cons (pv 9) pa_nil)) pa_nil))))
          (pss_cons (ps_for PassesOwn.never rfl (pi_range1 (by rfl) mn_range (pa_cons pe_int pa_nil)) (pg_name (i := 15) nd rfl (by first | exact Or.inl rfl | exact Or.inr rfl))
            (pss_cons (ps_set (i := 16) nd rfl (by first | exact Or.inl rfl | exact Or.inr rfl) (pe_df D_cover (hr.mono (by decide)) (pa_cons (pv 3) (pa_cons (pv 10) (pa_cons (pv 14) pa_nil)))))
          (pss_cons (ps_set (i := 17) nd rfl (by first | exact Or.inl rfl | exact Or.inr rfl) (pe_df D_fits hr (pa_cons (pv 3) (pa_cons (pv 10) (pa_cons (pv 14) pa_nil)))))
          (pss_cons (ps_if (PW.pt (pw_or (pt_not (pt_val (pe_df D__law_told (hr.mono (by decide)) (pa_cons (pv 16) (pa_cons (pv 12) pa_nil))))) (pw_or1 (pt_not (pt_val (pe_df D__law_is (hr.mono (by decide)) (pa_cons (pv 17) (pa_cons (pe_and (pe_cmpR oo_notN (pv 12) pe_non (nomark _)) (pe_one (pe_cmpR op_eq (pe_callB cc_lenD (by rfl) mn_len (by decide +kernel) (pa_cons (pv 10) pa_nil)) pe_int (nomark _)))) pa_nil))))))))
            (pss_one (ps_ret pe_bl))
            pss_nil)
          (pss_one (ps_if (pt_cmpR oo_notN (pv 16) pe_non (nomark _))
            (pss_cons (ps_expr (pe_bm PySem.F.plainAttrs_list PySem.F.slot_list_append PySem.F.type_list_append mt_append (pe_ix (k_ixL K) (pv 16) pe_int (fun _ _ => rfl)) (pa_cons pe_int pa_nil)))
          (pss_one (ps_expr (pe_bm0 PySem.F.plainAttrs_list PySem.F.slot_list_clear PySem.F.type_list_clear mt_clear (pv 16)))))
            pss_nil))))))
          (pss_cons (ps_set (i := 18) nd rfl (by first | exact Or.inl rfl | exact Or.inr rfl) (pe_df D_cover (hr.mono (by decide)) (pa_cons (pv 3) (pa_cons (pv 10) (pa_cons (pe_tup (pa_cons (pe_callTy (k_list K) (by rfl) mn_list (by decide +kernel) (pa_cons (pv 6) pa_nil)) (pa_cons (pe_lst pa_nil) pa_nil))) pa_nil)))))
          (pss_cons (ps_if (PW.pt (pw_or (pt_not (pt_val (pe_df D__law_told (hr.mono (by decide)) (pa_cons (pv 18) (pa_cons (pe_ix (k_ixL K) (pe_lst (pa_cons (pe_lst pa_nil) (pa_cons pe_non pa_nil))) (pe_callTy cc_int (by rfl) mn_int (by decide +kernel) (pa_cons (pe_not (pv 11)) pa_nil)) (fun _ _ => rfl)) pa_nil))))) (pw_or1 (pt_cmpR (k_neV K hr.units) (pe_lst (pa_cons (pv 3) (pa_cons (pv 10) (pa_cons (pe_ix (k_ixT K) (pv 14) pe_int (fun _ _ => rfl)) (pa_cons (pe_ix (k_ixT K) (pv 14) pe_int (fun _ _ => rfl)) pa_nil))))) (pv 13) (nomark _)))))
            (pss_one (ps_ret pe_bl))
            pss_nil)
          (pss_one (ps_ret (pe_df D__law_is (hr.mono (by decide)) (pa_cons (pe_df D_fits hr (pa_cons (pv 3) (pa_cons pe_dnewK (pa_cons (pe_tup (pa_cons (pe_callTy (k_list K) (by rfl) mn_list (by decide +kernel) (pa_cons (pv 6) pa_nil)) (pa_cons (pe_lst pa_nil) pa_nil))) pa_nil)))) (pa_cons (pv 11) pa_nil)))))))))))))))))))))))), ?_⟩
    refine x_start (τ := [some (.ref a), none, none, none, none, none, none, none, none, none, none, none, none, none, none, none, none, none, none, none]) rfl ?_
    walk_at "kk"
    walk_at "rr"
    refine ⟨a, ns, _, rfl, hS, by decide, fun b0 => ?_⟩
    walk_at "rr"
    refine ⟨a, ns, _, rfl, hS, by decide, fun pl => ?_⟩
    walk_at "rr"
    refine ⟨b0, pl, 4, rfl, by decide, fun p1 H1 np1 g1 hp1 => ?_⟩
    walk_at "rr"
    refine ⟨a, ns, _, rfl, sql_gr g1 hS, by decide, fun c2 => ?_⟩
    walk_at "rr"
    refine ⟨c2, 5, rfl, by decide, by decide, fun sp p2 H2 lsp np2 g2 hp2 => ?_⟩
    have gH2 := g1.tr g2
    have hp12 := g2 _ _ hp1
    have spn : sp ≠ [] := fun e => by rw [e] at lsp; cases lsp
    walk_at "rr"
    intro d3 nd3
    walk_at "rr"
    have g3 := gr_new (o := .dK []) nd3
    refine fin_R1 (n := 4) (by decide) (fun i σ' H' => ∃ vals x4, σ' = [some (.ref a), some (.ref p1), some (.ref p2), some (.ref d3), x4, none, none, none, none, none, none, none, none, none, none, none, none, none, none, none] ∧ Gr H2 H' ∧ vals.map (·.1) = (List.range i).map (nameN b0 pl) ∧ ValsAt H' d3 vals)
      ⟨[], none, rfl, g3, rfl, upd_same⟩ ?_ ?_
    · rintro i σ' H' hi ⟨vals, x4, rfl, g, hk, hv⟩
      walk_at "rr"
      refine ⟨a, ns, _, rfl, sql_gr (gH2.tr g) hS, by omega, fun z => ?_⟩
      walk_at "rr"
      refine ⟨z, p2, sp, rfl, sql_of (g _ _ hp2), spn, fun y => ?_⟩
      walk_at "rr"
      have e9 : atI ((namesN b0 pl 4).map V.str) (i : Int) = some (.str (nameN b0 pl i)) := atI_nat (by
        unfold namesN
        rw [List.getElem?_map, List.getElem?_map, List.getElem?_range hi]
        rfl)
      refine x_ixL (sql_of (g _ _ hp12)) e9 ?_
      have vl : vals.length = i := by
        have := congrArg List.length hk
        rw [List.length_map, List.length_map, List.length_range] at this
        exact this
      refine x_dputK (k := Sum.inr (nameN b0 pl i)) hv (by rw [show PySem.sizeLine = 16777216 from by decide, List.length_map]; omega) ?_
      have nw : nameN b0 pl i ∉ vals.map (·.1) := fun m => by
        rw [hk] at m
        obtain ⟨j, hj, e⟩ := List.mem_map.mp m
        have hj2 := List.mem_range.mp hj
        have := nameN_inj b0 pl (by omega) (by omega) e
        omega
      walk_at "ds"
      rw [put_vals nw]
      refine ⟨vals ++ [(nameN b0 pl i, y)], _, rfl, gr_mut g nd3, ?_, upd_same⟩
      rw [List.map_append, hk, List.range_succ, List.map_append]
      rfl
    rintro σ' H4 ⟨vals, x4, rfl, g4, hk, hv4⟩
    obtain ⟨names, hnames⟩ : ∃ l : List Str, l = (List.range 4).map (nameN b0 pl) := ⟨_, rfl⟩
    have hp14 := g4 _ _ hp12
    rw [show namesN b0 pl 4 = names from hnames.symm] at hp14
    rw [← hnames] at hk
    have N : Nms names vals := ⟨hk, fun n hn => by rw [hnames] at hn; obtain ⟨j, _, rfl⟩ := List.mem_map.mp hn; exact nameN_nil _ _ _, fun n hn => by rw [hnames] at hn; obtain ⟨j, _, rfl⟩ := List.mem_map.mp hn; exact nameN_any _ _ _, by rw [hnames]; rfl⟩
    have vnd : ((vals.map fun p => ((Sum.inr p.1 : Key), V.int p.2)).map (·.1)).Nodup := by
      rw [List.map_map]
      show (vals.map fun p => (Sum.inr p.1 : Key)).Nodup
      have h0 : (vals.map (·.1)).Nodup := by
        rw [hk, hnames]
        refine List.nodup_iff_pairwise_ne.mpr ?_
        rw [List.pairwise_map]
        refine List.Pairwise.imp_of_mem ?_ (List.nodup_range (n := 4))
        intro i j hi hj ne e
        exact ne (nameN_inj b0 pl (by have := List.mem_range.mp hi; omega) (by have := List.mem_range.mp hj; omega) e)
      clear hv4 N hk hnames
      induction vals with
      | nil => exact List.nodup_nil
      | cons p r ih =>
        rw [List.map_cons, List.nodup_cons] at h0 ⊢
        exact ⟨fun m => by obtain ⟨q, hq, e⟩ := List.mem_map.mp m; exact h0.1 (Sum.inr.inj e ▸ List.mem_map.mpr ⟨q, hq, rfl⟩), ih h0.2⟩
    have vfl : ∀ p ∈ (vals.map fun p => ((Sum.inr p.1 : Key), V.int p.2)), flatB p.2 = true := fun p hp => by
      obtain ⟨q, _, rfl⟩ := List.mem_map.mp hp
      rfl
    have gH4 := gH2.tr g4
    have hp24 := g4 _ _ hp2
    clear g4 hp12 hp2 g3 gH2 g2 g1 hp1 np1 np2 nd3
    walk_at "ds"
    walk_at "rr"
    refine x_dictD hv4 fun d5 nd5 => ?_
    walk_at "rr"
    have lv : vals.length = 4 := by
      have := congrArg List.length hk
      rw [List.length_map, N.len] at this
      exact this
    refine x_dputK (k := Sum.inr "nil") upd_same (by rw [show PySem.sizeLine = 16777216 from by decide, List.length_map]; omega) ?_
    have nwn : ("nil" : Str) ∉ vals.map (·.1) := fun m => N.nil _ (hk ▸ m) rfl
    rw [put_vals nwn, upd_upd]
    have g5 := gr_new (o := .dK ((vals ++ [(("nil" : Str), (0 : Int))]).map fun p => ((Sum.inr p.1 : Key), V.int p.2))) nd5
    have hf5 : ValsAt (upd H4 d5 (.dK ((vals ++ [(("nil" : Str), (0 : Int))]).map fun p => ((Sum.inr p.1 : Key), V.int p.2)))) d5 (vals ++ [(("nil" : Str), (0 : Int))]) := upd_same
    have hv5 := g5 _ _ hv4
    have hp15 := g5 _ _ hp14
    have hp25 := g5 _ _ hp24
    have hS5 : SqL K _ a (ns.map V.int) := sql_gr (gH4.tr g5) hS
    generalize upd H4 d5 (.dK ((vals ++ [(("nil" : Str), (0 : Int))]).map fun p => ((Sum.inr p.1 : Key), V.int p.2))) = H5 at hf5 hv5 hp15 hp25 hS5 ⊢
    clear g5 hp14 hp24 hv4 gH4 nd5 hS H1 H2
    have l5 : (names ++ [("nil" : Str)]).length = 5 := by rw [List.length_append, N.len]; rfl
    have nl : names.map V.str ++ [V.str "nil"] = (names ++ [("nil" : Str)]).map V.str := by rw [List.map_append]; rfl
    walk_at "rr"
    refine x_slL hS5 fun q1 nq1 => ?_
    obtain ⟨cs, ecs, lcs⟩ := cut_map ns (some 13) (some 21)
    rw [ecs]
    have gA := gr_new (o := .lst (cs.map V.int)) nq1
    walk_at "rr"
    refine ⟨by walk_at "sz", fun q2 nq2 => ?_⟩
    walk_at "rr"
    have gB := gA.tr (gr_new (o := .lst [V.str "nil"]) nq2)
    refine x_cat (gB _ _ hp15) upd_same (by rw [List.length_map, N.len]; decide) fun q3 nq3 => ?_
    rw [nl]
    have gC := gB.tr (gr_new (o := .lst ((names ++ [("nil" : Str)]).map V.str)) nq3)
    walk_at "rr"
    refine ⟨q1, q3, cs, names ++ [("nil" : Str)], rfl, sql_of (gr_new nq3 _ _ (gr_new nq2 _ _ upd_same)), sql_of upd_same, l5, by omega, ?_⟩
    rintro fs0 pv0 p60 H60 ⟨lf0, fin0⟩ np60 g60 hp60 pr60
    have gD := gC.tr g60
    clear g60 gC gB gA
    walk_at "rs"
    refine x_join (fun σ' H' => ∃ fs pv p6, σ' = [some (.ref a), some (.ref p1), some (.ref p2), some (.ref d3), x4, some (.ref d5), some (.ref p6), none, none, none, none, none, none, none, none, none, none, none, none, none] ∧ Gr H5 H' ∧ H' p6 = some (.lst pv) ∧ RowsAt H' pv fs ∧ fs.length ≤ 63 ∧ ∀ f ∈ fs, FactIn (names ++ [("nil" : Str)]) f) ?_ ?_
    · intro M hM
      walk_at "rr"
      refine ⟨a, ns, _, rfl, sql_gr gD hS5, by decide, fun c21 => ?_⟩
      walk_at "rr"
      refine x_ite (fun _ => ?_) (fun _ => ?_)
      · walk_at "rr"
        refine ⟨a, ns, _, rfl, sql_gr gD hS5, by decide, fun c21 => ?_⟩
        walk_at "rr"
        refine ⟨by walk_at "sz", fun q4 nq4 => ?_⟩
        walk_at "rr"
        have gE := gD.tr (gr_new (o := .lst [V.str "nil"]) nq4)
        refine x_cat (gE _ _ hp15) upd_same (by rw [List.length_map, N.len]; decide) fun q5 nq5 => ?_
        rw [nl]
        have gF := gE.tr (gr_new (o := .lst ((names ++ [("nil" : Str)]).map V.str)) nq5)
        walk_at "rr"
        refine ⟨c21, d5, q5, _, _, rfl, gF _ _ hf5, sql_of upd_same, l5, fun x hx => by rw [N.full hx]; rfl, ?_⟩
        rintro fs1 pv1 p61 H61 ⟨lf1, fin1⟩ np61 g61 hp61 pr61
        walk_at "rr"
        exact hM _ _ ⟨fs1, pv1, p61, rfl, gF.tr g61, hp61, pr61, by omega, fin1⟩
      · walk_at "rr"
        exact hM _ _ ⟨fs0, pv0, p60, rfl, gD, hp60, pr60, by omega, fin0⟩
    clear gD hp60 pr60 lf0 fin0 np60 nq1 nq2 nq3 H60
    rintro σ' H6 ⟨fs, pv, p6, rfl, g6, hp6, pr6, lfs, hfin⟩
    have hf6 := g6 _ _ hf5
    have hv6 := g6 _ _ hv5
    have hp16 := g6 _ _ hp15
    have hp26 := g6 _ _ hp25
    have hS6 := sql_gr g6 hS5
    clear g6 hf5 hv5 hp15 hp25 hS5
    have l6 : names.map V.str ++ [V.str "nil", V.str "any"] = ((names ++ [("nil" : Str)]) ++ [("any" : Str)]).map V.str := by rw [List.map_append, List.map_append, List.append_assoc]; rfl
    have l62 : (names ++ [("nil" : Str), "any"]).length = 6 := by rw [List.length_append, N.len]; rfl
    have l63 : (names ++ [("nil" : Str)]) ++ [("any" : Str)] = names ++ [("nil" : Str), "any"] := by rw [List.append_assoc]; rfl
    walk_at "ds"
    walk_at "rr"
    refine ⟨a, ns, _, rfl, hS6, by decide, fun pick => ?_⟩
    walk_at "rr"
    refine ⟨by walk_at "sz", fun q4 nq4 => ?_⟩
    walk_at "rr"
    have gA := gr_new (o := .lst [V.str "nil", V.str "any"]) nq4
    refine x_cat (gA _ _ hp16) upd_same (by rw [List.length_map, N.len]; decide) fun p8 np8 => ?_
    rw [l6]
    have gB := gA.tr (gr_new (o := .lst (((names ++ [("nil" : Str)]) ++ [("any" : Str)]).map V.str)) np8)
    have h8 := upd_same (H := upd H6 q4 (.lst [V.str "nil", V.str "any"])) (a := p8) (o := .lst (((names ++ [("nil" : Str)]) ++ [("any" : Str)]).map V.str))
    generalize upd (upd H6 q4 (.lst [V.str "nil", V.str "any"])) p8 (.lst (((names ++ [("nil" : Str)]) ++ [("any" : Str)]).map V.str)) = H8 at gB h8 ⊢
    walk_at "rr"
    obtain ⟨x, hx, ex⟩ := atI_pre (zs := names ++ [("nil" : Str)]) (ys := [("any" : Str)]) (i := pick % 5) (Int.emod_nonneg _ (by decide)) (by rw [l5]; exact Int.emod_lt_of_pos _ (by decide))
    refine x_ixL (sql_of h8) ex ?_
    rw [l63] at h8
    walk_at "rr"
    obtain ⟨f1, hf1, ef1⟩ := atI_strs (zs := names ++ [("nil" : Str), "any"]) (i := pick / 5 % 6) (Int.emod_nonneg _ (by decide)) (by rw [l62]; exact Int.emod_lt_of_pos _ (by decide))
    refine x_ixL (sql_of h8) ef1 ?_
    walk_at "rr"
    obtain ⟨s1, hs1, es1⟩ := atI_strs (zs := names ++ [("nil" : Str), "any"]) (i := pick / 30 % 6) (Int.emod_nonneg _ (by decide)) (by rw [l62]; exact Int.emod_lt_of_pos _ (by decide))
    refine x_ixL (sql_of h8) es1 ?_
    walk_at "rr"
    refine ⟨by walk_at "sz", fun p9 np9 => ?_⟩
    have gC := gB.tr (gr_new (o := .tup [V.str "cell", V.str x, V.str f1, V.str s1]) np9)
    have h9 := upd_same (H := H8) (a := p9) (o := .tup [V.str "cell", V.str x, V.str f1, V.str s1])
    generalize upd H8 p9 (.tup [V.str "cell", V.str x, V.str f1, V.str s1]) = H9 at gC h9 ⊢
    clear h8 gB gA nq4 np8 np9
    walk_at "rr"
    refine ⟨a, p2, d5, p9, ns, sp, _, x, f1, s1, rfl, sql_gr gC hS6, gC _ _ hp26, lsp, gC _ _ hf6, h9, by rw [N.full hx]; rfl, fun hs p10 H10 hhs hnd np10 g10 hh10 => ?_⟩
    have gD := gC.tr g10
    have h910 := g10 _ _ h9
    have hf10 := gD _ _ hf6
    have hv10 := gD _ _ hv6
    have hp610 := gD _ _ hp6
    have pr10 := paired_imp pr6 fun _ _ => RowAt.gr gD
    clear gC g10 h9 hf6 hv6 hp6 pr6 hp16 hp26 hS6 np10 gD
    walk_at "rr"
    have pl10 := paired_len pr10
    refine fin_lcP pr10 (fun ws => .bl (holdsM vals ws)) (sql_of hp610) (by omega) (fun _ => rfl) ?_ ?_
    · rintro u ws H' ⟨t, rfl, ht⟩ hy g R r
      obtain ⟨w1, n1, n2, rfl, hw1, hn1, hn2⟩ := hfin ws hy
      walk_at "rr"
      exact ⟨d5, t, _, w1, n1, n2, _, _, rfl, g _ _ hf10, g _ _ ht, N.full hn1, N.full hn2, r _ Gr.rfl⟩
    intro D0 H11 nD gE hD
    walk_at "rr"
    refine x_all (bs := fs.map (holdsM vals)) (sql_of (by rw [hD, List.map_map]; rfl)) ?_
    walk_at "rr"
    rw [show (fs.map (holdsM vals)).all id = fs.all (holdsM vals) by rw [List.all_map]; rfl]
    have h911 := gE _ _ h910
    have hf11 := gE _ _ hf10
    have hv11 := gE _ _ hv10
    have hp611 := gE _ _ hp610
    have pr11 := paired_imp pr10 fun _ _ => RowAt.gr gE
    have hh11 := hh10.gr gE
    clear gE hD nD h910 hf10 hv10 hp610 pr10 hh10
    obtain ⟨kvs, hk1, hk2⟩ := id hh11
    have part_ok : PartOk vals ["cell", x, f1, s1] := .inl ⟨x, f1, s1, rfl, N.has hx, N.hasA hf1, N.hasA hs1⟩
    have ecov : coverM vals hs fs [["cell", x, f1, s1]] = if fs.all (holdsM vals) then cellD (vals ++ [(("nil" : Str), (0 : Int))]) hs (vo vals x) f1 s1 else none := by
      rw [N.cell hf1 hs1]
      unfold coverM
      cases fs.all (holdsM vals) with
      | false => rfl
      | true =>
        rw [if_pos rfl, if_pos rfl]
        exact cover_one part_ok
    obtain ⟨res, hres⟩ : ∃ res, res = coverM vals hs fs [["cell", x, f1, s1]] := ⟨_, rfl⟩
    refine ⟨d5, p10, p9, _, hs, x, f1, s1, vo vals x, _, rfl, hf11, hh11, h911, N.full hx, ?_⟩
    rw [← ecov, ← hres]
    refine retLL_of fun dv H12 gF due12 => ?_
    walk_at "rr"
    refine x_dictD (gF _ _ hv11) fun e1 ne1 => ?_
    walk_at "rr"
    refine x_dictD (gr_new ne1 _ _ (gF _ _ hk1)) fun e2 ne2 => ?_
    walk_at "rr"
    refine x_listL (sql_of (gr_new ne2 _ _ (gr_new ne1 _ _ (gF _ _ hp611)))) fun e3 ne3 => ?_
    walk_at "rr"
    refine ⟨by walk_at "sz", fun e4 ne4 => ?_⟩
    walk_at "rr"
    refine ⟨by walk_at "sz", fun p13 np13 => ?_⟩
    walk_at "rr"
    have gG := ((((gr_new (o := .dK (vals.map fun p => ((Sum.inr p.1 : Key), V.int p.2))) ne1).tr (gr_new (o := .dK kvs) ne2)).tr (gr_new (o := .lst pv) ne3)).tr (gr_new (o := .lst [V.ref p9]) ne4)).tr (gr_new (o := .lst [V.ref e1, V.ref e2, V.ref e3, V.ref e4]) np13)
    have he1 := ((((gr_new (o := .dK kvs) ne2)).tr (gr_new (o := .lst pv) ne3)).tr (gr_new (o := .lst [V.ref p9]) ne4)).tr (gr_new (o := .lst [V.ref e1, V.ref e2, V.ref e3, V.ref e4]) np13) _ _ (upd_same (H := H12) (a := e1) (o := .dK (vals.map fun p => ((Sum.inr p.1 : Key), V.int p.2))))
    have he2 := ((gr_new (o := .lst pv) ne3).tr (gr_new (o := .lst [V.ref p9]) ne4)).tr (gr_new (o := .lst [V.ref e1, V.ref e2, V.ref e3, V.ref e4]) np13) _ _ (upd_same (a := e2) (o := .dK kvs))
    have he3 := (gr_new (o := .lst [V.ref p9]) ne4).tr (gr_new (o := .lst [V.ref e1, V.ref e2, V.ref e3, V.ref e4]) np13) _ _ (upd_same (a := e3) (o := .lst pv))
    have he4 := gr_new (o := .lst [V.ref e1, V.ref e2, V.ref e3, V.ref e4]) np13 _ _ (upd_same (a := e4) (o := .lst [V.ref p9]))
    have h13 := upd_same (a := p13) (o := .lst [V.ref e1, V.ref e2, V.ref e3, V.ref e4]) (H := upd (upd (upd (upd H12 e1 (.dK (vals.map fun p => ((Sum.inr p.1 : Key), V.int p.2)))) e2 (.dK kvs)) e3 (.lst pv)) e4 (.lst [V.ref p9]))
    generalize upd (upd (upd (upd (upd H12 e1 (.dK (vals.map fun p => ((Sum.inr p.1 : Key), V.int p.2)))) e2 (.dK kvs)) e3 (.lst pv)) e4 (.lst [V.ref p9])) p13 (.lst [V.ref e1, V.ref e2, V.ref e3, V.ref e4]) = H13 at gG he1 he2 he3 he4 h13 ⊢
    have gH := gF.tr gG
    refine x_listL (sql_of (gH _ _ hp611)) fun l1 nl1 => ?_
    walk_at "rr"
    refine ⟨by walk_at "sz", fun l2 nl2 => ?_⟩
    walk_at "rr"
    refine ⟨by walk_at "sz", fun p14 np14 => ?_⟩
    walk_at "rr"
    have gI := ((gr_new (o := .lst pv) nl1).tr (gr_new (o := .lst [V.ref p9]) nl2)).tr (gr_new (o := .tup [V.ref l1, V.ref l2]) np14)
    have hl1 := (gr_new (o := .lst [V.ref p9]) nl2).tr (gr_new (o := .tup [V.ref l1, V.ref l2]) np14) _ _ (upd_same (H := H13) (a := l1) (o := .lst pv))
    have hl2 := gr_new (o := .tup [V.ref l1, V.ref l2]) np14 _ _ (upd_same (H := upd H13 l1 (.lst pv)) (a := l2) (o := .lst [V.ref p9]))
    have h14 := upd_same (H := upd (upd H13 l1 (.lst pv)) l2 (.lst [V.ref p9])) (a := p14) (o := .tup [V.ref l1, V.ref l2])
    generalize upd (upd (upd H13 l1 (.lst pv)) l2 (.lst [V.ref p9])) p14 (.tup [V.ref l1, V.ref l2]) = H14 at gI hl1 hl2 h14 ⊢
    have gJ := gH.tr gI
    have due14 := due12.gr (gG.tr gI)
    have h914 := gJ _ _ h911
    have hv14 := gJ _ _ hv11
    have hp614 := gJ _ _ hp611
    have pr14 := paired_imp pr11 fun _ _ => RowAt.gr gJ
    have hh14 := hh11.gr gJ
    have hk14 := gJ _ _ hk1
    replace he1 := gI _ _ he1
    replace he2 := gI _ _ he2
    replace he3 := gI _ _ he3
    replace he4 := gI _ _ he4
    replace h13 := gI _ _ h13
    clear gI gJ gH gG gF h911 hf11 hv11 hp611 pr11 hh11 hk1 due12 nl1 nl2 np14 np13 ne1 ne2 ne3 ne4 H12 H13
    have hin : InRows names (fs ++ [[("cell" : Str), x, f1, s1]]) := fun r hr => by
      rcases List.mem_append.mp hr with h | h
      · exact fact_in (hfin r h)
      · rw [List.mem_singleton.mp h]
        refine ⟨by simp, by simp, fun y hy => ?_⟩
        have hy2 : y ∈ [x, f1, s1] := hy
        simp only [List.mem_cons, List.not_mem_nil, or_false] at hy2
        rcases hy2 with e | e | e
        · rw [e, ← l63]; exact List.mem_append_left _ hx
        · rw [e]; exact hf1
        · rw [e]; exact hs1
    have CI : CovIn H14 d3 p10 p14 vals hs fs [["cell", x, f1, s1]] :=
      ⟨hv14, hh14, hhs, ⟨l1, l2, pv, [.ref p9], h14, hl1, hl2, pr14, .cons ⟨p9, rfl, h914⟩ .nil⟩, N.tell hin (by rw [List.length_append, List.length_singleton]; omega), N.named hin, fun f hf => N.fact (hfin f hf), fun p hp => by rw [List.mem_singleton.mp hp]; exact part_ok⟩
    have hin0 : InRows names (fs ++ []) := fun r hr => fact_in (hfin r (by rw [List.append_nil] at hr; exact hr))
    have tok0 : TellOk fs [] := N.tell hin0 (by rw [List.length_append, List.length_nil]; omega)
    have anm0 := N.named hin0
    have hone : ∀ rows, res = some rows → rows = [[vo vals x]] := fun rows e => by
      rw [hres, ecov, N.cell hf1 hs1] at e
      cases hall : fs.all (holdsM vals) with
      | false => rw [hall] at e; cases e
      | true =>
        rw [hall, if_pos rfl] at e
        obtain ⟨r, hr, rfl⟩ := Option.map_eq_some_iff.mp e
        rw [cellM_one hr]
    refine fin_R1 (n := 2) (by decide) (fun i σ' H' => ∃ x15 x16 x17, σ' = [some (.ref a), some (.ref p1), some (.ref p2), some (.ref d3), x4, some (.ref d5), some (.ref p6), some (.int pick), some (.ref p8), some (.ref p9), some (.ref p10), some (.bl (fs.all (holdsM vals))), some dv, some (.ref p13), some (.ref p14), x15, x16, x17, none, none] ∧ Gr H14 H')
      ⟨none, none, none, rfl, Gr.rfl⟩ ?_ ?_
    · rintro i σ' H' hi ⟨x15, x16, x17, rfl, g⟩
      walk_at "rr"
      refine ⟨d3, p10, p14, vals, hs, fs, _, rfl, CI.gr g, ?_⟩
      rw [← hres]
      refine retLL_fr fun fv H15 gA found => ?_
      walk_at "rr"
      have g15 := g.tr gA
      refine ⟨d3, p10, p14, vals, hs, fs, _, rfl, CI.gr g15, fun H16 gB => ?_⟩
      have g16 := g15.tr gB
      walk_at "rr"
      refine told_of (found.due.gr gB) (due14.gr g16) ?_
      walk_at "rr"
      refine x_ite (fun c => by cases c) (fun _ => ?_)
      walk_at "rr"
      rcases found with ⟨er, rfl⟩ | ⟨q, as, rows, er, rfl, nq, nas, nda, hq, hpr⟩
      · rcases due14 with ⟨_, rfl⟩ | ⟨_, _, _, e2, _⟩
        · refine x_ite (fun c => absurd c (by decide)) (fun _ => ?_)
          have ef : fitsM vals hs fs [["cell", x, f1, s1]] = false := by unfold fitsM; rw [← hres, er]
          rw [ef]
          refine ⟨false, false, rfl, ?_⟩
          walk_at "rr"
          refine x_ite (fun c => by cases c) (fun _ => ?_)
          walk_at "rr"
          refine x_ite (fun c => absurd c (by decide)) (fun _ => ?_)
          walk_at "rr"
          exact ⟨_, _, _, rfl, g16⟩
        · rw [er] at e2; cases e2
      · have e1 := hone rows er
        subst e1
        cases hpr with
        | @cons a0 _ _ _ ha0 hp0 =>
        cases hp0
        rcases due14 with ⟨e2, _⟩ | ⟨dq, das, drows, e2, rfl, hdq, hdp⟩
        · rw [er] at e2; cases e2
        have d1 : decide (V.ref dq = V.non) = false := decide_eq_false (fun z => by cases z)
        rw [d1]
        refine x_ite (fun _ => ?_) (fun c => by cases c)
        walk_at "rr"
        refine x_lenD (g16 _ _ hk14) ?_
        walk_at "rr"
        have ef : fitsM vals hs fs [["cell", x, f1, s1]] = decide (V.int (kvs.length : Int) = V.int 1) := by
          unfold fitsM
          rw [← hres, er, dec_int, paired_len hk2]
          show (([[vo vals x]].map List.length).sum == hs.length) = _
          rw [show ([[vo vals x]].map List.length).sum = 1 from rfl]
          by_cases c : hs.length = 1
          · rw [c]; rfl
          · rw [beq_eq_false_iff_ne.mpr (fun z => c z.symm), beq_eq_false_iff_ne.mpr (fun z => c (by omega))]
        rw [ef]
        refine ⟨_, _, rfl, ?_⟩
        rw [beq_self_eq_true]
        walk_at "rr"
        refine x_ite (fun c => by cases c) (fun _ => ?_)
        walk_at "rr"
        have d2 : decide (V.ref q = V.non) = false := decide_eq_false (fun z => by cases z)
        rw [d2]
        refine x_ite (fun _ => ?_) (fun c => by cases c)
        have hq16 := gB _ _ hq
        have ha16 := gB _ _ ha0
        have nq14 := gr_free g nq
        have na14 := gr_free g (nas _ List.mem_cons_self)
        have qa : q ≠ a0 := fun e => (List.nodup_cons.mp nda).1 (by rw [e]; exact List.mem_cons_self)
        walk_at "rr"
        refine x_app ha16 (by simp only [List.length_map, List.length_singleton]; decide) ?_
        walk_at "rr"
        refine x_clear (at_ne qa hq16) ?_
        exact ⟨_, _, _, rfl, gr_mut (gr_mut g16 na14) nq14⟩
    rintro σ' H15 ⟨x15, x16, x17, rfl, g15⟩
    have hv15 := g15 _ _ hv14
    have hh15 := hh14.gr g15
    have hk15 := g15 _ _ hk14
    have hp615 := g15 _ _ hp614
    have pr15 := paired_imp pr14 fun _ _ => RowAt.gr g15
    replace he1 := g15 _ _ he1
    replace he2 := g15 _ _ he2
    replace he3 := g15 _ _ he3
    replace he4 := g15 _ _ he4
    replace h13 := g15 _ _ h13
    replace hl1 := g15 _ _ hl1
    replace hl2 := g15 _ _ hl2
    replace h14 := g15 _ _ h14
    clear g15 hv14 hh14 hk14 hp614 pr14 CI
    walk_at "ds"
    walk_at "rr"
    refine x_listL (sql_of hp615) fun m1 nm1 => ?_
    walk_at "rr"
    refine ⟨by walk_at "sz", fun m2 nm2 => ?_⟩
    walk_at "rr"
    refine ⟨by walk_at "sz", fun m3 nm3 => ?_⟩
    walk_at "rr"
    have gA := ((gr_new (o := .lst pv) nm1).tr (gr_new (o := .lst []) nm2)).tr (gr_new (o := .tup [V.ref m1, V.ref m2]) nm3)
    have tA : TellAt (upd (upd (upd H15 m1 (.lst pv)) m2 (.lst [])) m3 (.tup [V.ref m1, V.ref m2])) m3 fs [] := ⟨m1, m2, pv, [], upd_same, gr_new nm3 _ _ (gr_new nm2 _ _ upd_same), gr_new nm3 _ _ upd_same, paired_imp pr15 fun _ _ => RowAt.gr gA, .nil⟩
    generalize upd (upd (upd H15 m1 (.lst pv)) m2 (.lst [])) m3 (.tup [V.ref m1, V.ref m2]) = H16 at gA tA ⊢
    have CB : CovIn H16 d3 p10 m3 vals hs fs [] := ⟨gA _ _ hv15, hh15.gr gA, hhs, tA, tok0, anm0, fun f hf => N.fact (hfin f hf), fun _ h => by cases h⟩
    refine ⟨d3, p10, m3, vals, hs, fs, [], rfl, CB, ?_⟩
    have ecb : ∀ hs, coverM vals hs fs [] = if fs.all (holdsM vals) then some [] else none := fun hs => rfl
    rw [ecb]
    refine retLL_of fun fv H17 gB found => ?_
    walk_at "rr"
    refine ⟨by walk_at "sz", fun n1 nn1 => ?_⟩
    walk_at "rr"
    refine ⟨by walk_at "sz", fun n2 nn2 => ?_⟩
    walk_at "rr"
    have gC := (gr_new (o := .lst []) nn1).tr (gr_new (o := .lst [V.ref n1, V.non]) nn2)
    have hn1 := gr_new (o := .lst [V.ref n1, V.non]) nn2 _ _ (upd_same (H := H17) (a := n1) (o := .lst []))
    have hn2 := upd_same (H := upd H17 n1 (.lst [])) (a := n2) (o := .lst [V.ref n1, V.non])
    generalize upd (upd H17 n1 (.lst [])) n2 (.lst [V.ref n1, V.non]) = H18 at gC hn1 hn2 ⊢
    obtain ⟨dv2, hdv2, due2⟩ : ∃ dv2, atI [V.ref n1, V.non] (if (!fs.all (holdsM vals)) = true then 1 else 0) = some dv2 ∧ DueAt H18 dv2 (if fs.all (holdsM vals) then some [] else none) := by
      cases fs.all (holdsM vals) with
      | false => exact ⟨.non, atI_nat (j := 1) rfl, .inl ⟨rfl, rfl⟩⟩
      | true => exact ⟨.ref n1, atI_nat (j := 0) rfl, .inr ⟨n1, [], [], rfl, rfl, hn1, .nil⟩⟩
    refine x_ixL (sql_of hn2) hdv2 ?_
    walk_at "rr"
    refine told_of (found.gr gC) due2 ?_
    walk_at "rr"
    refine x_ite (fun c => by cases c) (fun _ => ?_)
    have gD := (gA.tr gB).tr gC
    have h1418 := gD _ _ h14
    walk_at "rr"
    refine ⟨by walk_at "sz", fun n3 nn3 => ?_⟩
    have gE := gD.tr (gr_new (o := .lst [V.ref d3, V.ref p10, V.ref l1, V.ref l2]) nn3)
    walk_at "rr"
    refine x_neV 2 (by decide) (sql_of upd_same) (sql_of (gE _ _ h13)) (.cons (eqV_copy (gE _ _ hv15) (gE _ _ he1) vnd fun p hp => eqV_flat (vfl p hp)) (.cons (eqV_copy (gE _ _ hk15) (gE _ _ he2) (by rw [keys_cells hk2]; exact nd_inl hnd) (cell_refs hk2)) (.cons (eqV_list (gE _ _ hl1) (gE _ _ he3) fun y hy => ?_) (.cons (eqV_list (gE _ _ hl2) (gE _ _ he4) fun y hy => by rw [List.mem_singleton.mp hy]; exact eqV_ref) .nil)))) ?_
    · obtain ⟨j, hj⟩ := List.getElem?_of_mem hy
      obtain ⟨_, _, t, e, _⟩ := paired_get pr15 hj
      rw [e]
      exact eqV_ref
    walk_at "rr"
    refine x_ite (fun c => by cases c) (fun _ => ?_)
    walk_at "rr"
    intro dd ndd
    walk_at "rr"
    have gF := gE.tr (gr_new (o := .dK []) ndd)
    refine x_listL (sql_of (gF _ _ hp615)) fun o1 no1 => ?_
    walk_at "rr"
    refine ⟨by walk_at "sz", fun o2 no2 => ?_⟩
    walk_at "rr"
    refine ⟨by walk_at "sz", fun o3 no3 => ?_⟩
    walk_at "rr"
    have gG := ((gr_new (o := .lst pv) no1).tr (gr_new (o := .lst []) no2)).tr (gr_new (o := .tup [V.ref o1, V.ref o2]) no3)
    have hdd := gG _ _ (upd_same (a := dd) (o := .dK []))
    have gH := gF.tr gG
    refine ⟨d3, dd, o3, vals, [], fs, [], rfl, ⟨gH _ _ hv15, ⟨[], hdd, .nil⟩, by decide, ⟨o1, o2, pv, [], upd_same, gr_new no3 _ _ (gr_new no2 _ _ upd_same), gr_new no3 _ _ upd_same, paired_imp pr15 fun _ _ => RowAt.gr gH, .nil⟩, tok0, anm0, fun f hf => N.fact (hfin f hf), fun _ h => by cases h⟩, fun HZ gZ => ?_⟩
    walk_at "rr"
    refine ⟨_, _, rfl, ?_⟩
    have ef : fitsM vals [] fs [] = fs.all (holdsM vals) := by
      unfold fitsM
      rw [ecb]
      cases fs.all (holdsM vals) <;> rfl
    rw [ef, beq_self_eq_true]
    exact k _
theorem all_mk {l : PySem.W.OpenLaw} {w : World} {K : PySem.W.Frag} {h : Heap} {mg : Str → Option Value} {fa : Addr}
    {f0 : Addr} {od0 an0 : Option Addr} {sl0 : Array (Option Value)} {oc0 kV0 dc0 pm0 cd0 ct0 : Value}
    {f1 : Addr} {od1 an1 : Option Addr} {sl1 : Array (Option Value)} {oc1 kV1 dc1 pm1 cd1 ct1 : Value}
    {f2 : Addr} {od2 an2 : Option Addr} {sl2 : Array (Option Value)} {oc2 kV2 dc2 pm2 cd2 ct2 : Value}
    {f3 : Addr} {od3 an3 : Option Addr} {sl3 : Array (Option Value)} {oc3 kV3 dc3 pm3 cd3 ct3 : Value}
    {f4 : Addr} {od4 an4 : Option Addr} {sl4 : Array (Option Value)} {oc4 kV4 dc4 pm4 cd4 ct4 : Value}
    {f5 : Addr} {od5 an5 : Option Addr} {sl5 : Array (Option Value)} {oc5 kV5 dc5 pm5 cd5 ct5 : Value}
    {f6 : Addr} {od6 an6 : Option Addr} {sl6 : Array (Option Value)} {oc6 kV6 dc6 pm6 cd6 ct6 : Value}
    {f7 : Addr} {od7 an7 : Option Addr} {sl7 : Array (Option Value)} {oc7 kV7 dc7 pm7 cd7 ct7 : Value}
    {f8 : Addr} {od8 an8 : Option Addr} {sl8 : Array (Option Value)} {oc8 kV8 dc8 pm8 cd8 ct8 : Value}
    {f9 : Addr} {od9 an9 : Option Addr} {sl9 : Array (Option Value)} {oc9 kV9 dc9 pm9 cd9 ct9 : Value}
    {f10 : Addr} {od10 an10 : Option Addr} {sl10 : Array (Option Value)} {oc10 kV10 dc10 pm10 cd10 ct10 : Value}
    {f11 : Addr} {od11 an11 : Option Addr} {sl11 : Array (Option Value)} {oc11 kV11 dc11 pm11 cd11 ct11 : Value}
    {f12 : Addr} {od12 an12 : Option Addr} {sl12 : Array (Option Value)} {oc12 kV12 dc12 pm12 cd12 ct12 : Value}
    {f13 : Addr} {od13 an13 : Option Addr} {sl13 : Array (Option Value)} {oc13 kV13 dc13 pm13 cd13 ct13 : Value}
    {f14 : Addr} {od14 an14 : Option Addr} {sl14 : Array (Option Value)} {oc14 kV14 dc14 pm14 cd14 ct14 : Value}
    {f15 : Addr} {od15 an15 : Option Addr} {sl15 : Array (Option Value)} {oc15 kV15 dc15 pm15 cd15 ct15 : Value}
    {f16 : Addr} {od16 an16 : Option Addr} {sl16 : Array (Option Value)} {oc16 kV16 dc16 pm16 cd16 ct16 : Value}
    {f17 : Addr} {od17 an17 : Option Addr} {sl17 : Array (Option Value)} {oc17 kV17 dc17 pm17 cd17 ct17 : Value}
    {f18 : Addr} {od18 an18 : Option Addr} {sl18 : Array (Option Value)} {oc18 kV18 dc18 pm18 cd18 ct18 : Value}
    {f19 : Addr} {od19 an19 : Option Addr} {sl19 : Array (Option Value)} {oc19 kV19 dc19 pm19 cd19 ct19 : Value}
    {f20 : Addr} {od20 an20 : Option Addr} {sl20 : Array (Option Value)} {oc20 kV20 dc20 pm20 cd20 ct20 : Value}
    {f21 : Addr} {od21 an21 : Option Addr} {sl21 : Array (Option Value)} {oc21 kV21 dc21 pm21 cd21 ct21 : Value}
    {f22 : Addr} {od22 an22 : Option Addr} {sl22 : Array (Option Value)} {oc22 kV22 dc22 pm22 cd22 ct22 : Value}
    {f23 : Addr} {od23 an23 : Option Addr} {sl23 : Array (Option Value)} {oc23 kV23 dc23 pm23 cd23 ct23 : Value}
    (X : K.In h) (G : h.Ns mainGlobals mg) (hfa : mg "law" = some (.ref fa))
    (a0 : PySem.W.nsIn K mainGlobals "words_of" = some (some (.ref f0))) (l0 : K.lookup f0 = some ⟨oc0, od0, .func (PySem.W.fnOf "words_of" "words_of" (defArgs s_words_of) (defBody s_words_of) (defScope s_words_of) .none kV0 dc0 pm0 an0 cd0 ct0), sl0⟩) (c0 : PySem.W.codeIn K cd0 "words_of" = true) (k0 : PySem.W.keepIn K (.ref f0) = true)
    (a1 : PySem.W.nsIn K mainGlobals "names_of" = some (some (.ref f1))) (l1 : K.lookup f1 = some ⟨oc1, od1, .func (PySem.W.fnOf "names_of" "names_of" (defArgs s_names_of) (defBody s_names_of) (defScope s_names_of) .none kV1 dc1 pm1 an1 cd1 ct1), sl1⟩) (c1 : PySem.W.codeIn K cd1 "names_of" = true) (k1 : PySem.W.keepIn K (.ref f1) = true)
    (a2 : PySem.W.nsIn K mainGlobals "value_of" = some (some (.ref f2))) (l2 : K.lookup f2 = some ⟨oc2, od2, .func (PySem.W.fnOf "value_of" "value_of" (defArgs s_value_of) (defBody s_value_of) (defScope s_value_of) .none kV2 dc2 pm2 an2 cd2 ct2), sl2⟩) (c2 : PySem.W.codeIn K cd2 "value_of" = true) (k2 : PySem.W.keepIn K (.ref f2) = true)
    (a3 : PySem.W.nsIn K mainGlobals "check_values" = some (some (.ref f3))) (l3 : K.lookup f3 = some ⟨oc3, od3, .func (PySem.W.fnOf "check_values" "check_values" (defArgs s_check_values) (defBody s_check_values) (defScope s_check_values) .none kV3 dc3 pm3 an3 cd3 ct3), sl3⟩) (c3 : PySem.W.codeIn K cd3 "check_values" = true) (k3 : PySem.W.keepIn K (.ref f3) = true)
    (a4 : PySem.W.nsIn K mainGlobals "holds" = some (some (.ref f4))) (l4 : K.lookup f4 = some ⟨oc4, od4, .func (PySem.W.fnOf "holds" "holds" (defArgs s_holds) (defBody s_holds) (defScope s_holds) .none kV4 dc4 pm4 an4 cd4 ct4), sl4⟩) (c4 : PySem.W.codeIn K cd4 "holds" = true) (k4 : PySem.W.keepIn K (.ref f4) = true)
    (a5 : PySem.W.nsIn K mainGlobals "is_due" = some (some (.ref f5))) (l5 : K.lookup f5 = some ⟨oc5, od5, .func (PySem.W.fnOf "is_due" "is_due" (defArgs s_is_due) (defBody s_is_due) (defScope s_is_due) .none kV5 dc5 pm5 an5 cd5 ct5), sl5⟩) (c5 : PySem.W.codeIn K cd5 "is_due" = true) (k5 : PySem.W.keepIn K (.ref f5) = true)
    (a6 : PySem.W.nsIn K mainGlobals "cell_taken" = some (some (.ref f6))) (l6 : K.lookup f6 = some ⟨oc6, od6, .func (PySem.W.fnOf "cell_taken" "cell_taken" (defArgs s_cell_taken) (defBody s_cell_taken) (defScope s_cell_taken) .none kV6 dc6 pm6 an6 cd6 ct6), sl6⟩) (c6 : PySem.W.codeIn K cd6 "cell_taken" = true) (k6 : PySem.W.keepIn K (.ref f6) = true)
    (a7 : PySem.W.nsIn K mainGlobals "stretch_taken" = some (some (.ref f7))) (l7 : K.lookup f7 = some ⟨oc7, od7, .func (PySem.W.fnOf "stretch_taken" "stretch_taken" (defArgs s_stretch_taken) (defBody s_stretch_taken) (defScope s_stretch_taken) .none kV7 dc7 pm7 an7 cd7 ct7), sl7⟩) (c7 : PySem.W.codeIn K cd7 "stretch_taken" = true) (k7 : PySem.W.keepIn K (.ref f7) = true)
    (a8 : PySem.W.nsIn K mainGlobals "tree_taken" = some (some (.ref f8))) (l8 : K.lookup f8 = some ⟨oc8, od8, .func (PySem.W.fnOf "tree_taken" "tree_taken" (defArgs s_tree_taken) (defBody s_tree_taken) (defScope s_tree_taken) .none kV8 dc8 pm8 an8 cd8 ct8), sl8⟩) (c8 : PySem.W.codeIn K cd8 "tree_taken" = true) (k8 : PySem.W.keepIn K (.ref f8) = true)
    (a9 : PySem.W.nsIn K mainGlobals "part_taken" = some (some (.ref f9))) (l9 : K.lookup f9 = some ⟨oc9, od9, .func (PySem.W.fnOf "part_taken" "part_taken" (defArgs s_part_taken) (defBody s_part_taken) (defScope s_part_taken) .none kV9 dc9 pm9 an9 cd9 ct9), sl9⟩) (c9 : PySem.W.codeIn K cd9 "part_taken" = true) (k9 : PySem.W.keepIn K (.ref f9) = true)
    (a10 : PySem.W.nsIn K mainGlobals "cover" = some (some (.ref f10))) (l10 : K.lookup f10 = some ⟨oc10, od10, .func (PySem.W.fnOf "cover" "cover" (defArgs s_cover) (defBody s_cover) (defScope s_cover) .none kV10 dc10 pm10 an10 cd10 ct10), sl10⟩) (c10 : PySem.W.codeIn K cd10 "cover" = true) (k10 : PySem.W.keepIn K (.ref f10) = true)
    (a11 : PySem.W.nsIn K mainGlobals "fits" = some (some (.ref f11))) (l11 : K.lookup f11 = some ⟨oc11, od11, .func (PySem.W.fnOf "fits" "fits" (defArgs s_fits) (defBody s_fits) (defScope s_fits) .none kV11 dc11 pm11 an11 cd11 ct11), sl11⟩) (c11 : PySem.W.codeIn K cd11 "fits" = true) (k11 : PySem.W.keepIn K (.ref f11) = true)
    (a12 : PySem.W.nsIn K mainGlobals "_law_cell_at" = some (some (.ref f12))) (l12 : K.lookup f12 = some ⟨oc12, od12, .func (PySem.W.fnOf "_law_cell_at" "_law_cell_at" (defArgs s__law_cell_at) (defBody s__law_cell_at) (defScope s__law_cell_at) .none kV12 dc12 pm12 an12 cd12 ct12), sl12⟩) (c12 : PySem.W.codeIn K cd12 "_law_cell_at" = true) (k12 : PySem.W.keepIn K (.ref f12) = true)
    (a13 : PySem.W.nsIn K mainGlobals "_law_names" = some (some (.ref f13))) (l13 : K.lookup f13 = some ⟨oc13, od13, .func (PySem.W.fnOf "_law_names" "_law_names" (defArgs s__law_names) (defBody s__law_names) (defScope s__law_names) .none kV13 dc13 pm13 an13 cd13 ct13), sl13⟩) (c13 : PySem.W.codeIn K cd13 "_law_names" = true) (k13 : PySem.W.keepIn K (.ref f13) = true)
    (a14 : PySem.W.nsIn K mainGlobals "_law_addresses" = some (some (.ref f14))) (l14 : K.lookup f14 = some ⟨oc14, od14, .func (PySem.W.fnOf "_law_addresses" "_law_addresses" (defArgs s__law_addresses) (defBody s__law_addresses) (defScope s__law_addresses) .none kV14 dc14 pm14 an14 cd14 ct14), sl14⟩) (c14 : PySem.W.codeIn K cd14 "_law_addresses" = true) (k14 : PySem.W.keepIn K (.ref f14) = true)
    (a15 : PySem.W.nsIn K mainGlobals "_law_value" = some (some (.ref f15))) (l15 : K.lookup f15 = some ⟨oc15, od15, .func (PySem.W.fnOf "_law_value" "_law_value" (defArgs s__law_value) (defBody s__law_value) (defScope s__law_value) .none kV15 dc15 pm15 an15 cd15 ct15), sl15⟩) (c15 : PySem.W.codeIn K cd15 "_law_value" = true) (k15 : PySem.W.keepIn K (.ref f15) = true)
    (a16 : PySem.W.nsIn K mainGlobals "_law_facts" = some (some (.ref f16))) (l16 : K.lookup f16 = some ⟨oc16, od16, .func (PySem.W.fnOf "_law_facts" "_law_facts" (defArgs s__law_facts) (defBody s__law_facts) (defScope s__law_facts) .none kV16 dc16 pm16 an16 cd16 ct16), sl16⟩) (c16 : PySem.W.codeIn K cd16 "_law_facts" = true) (k16 : PySem.W.keepIn K (.ref f16) = true)
    (a17 : PySem.W.nsIn K mainGlobals "_law_many_facts" = some (some (.ref f17))) (l17 : K.lookup f17 = some ⟨oc17, od17, .func (PySem.W.fnOf "_law_many_facts" "_law_many_facts" (defArgs s__law_many_facts) (defBody s__law_many_facts) (defScope s__law_many_facts) .none kV17 dc17 pm17 an17 cd17 ct17), sl17⟩) (c17 : PySem.W.codeIn K cd17 "_law_many_facts" = true) (k17 : PySem.W.keepIn K (.ref f17) = true)
    (a18 : PySem.W.nsIn K mainGlobals "_law_holds" = some (some (.ref f18))) (l18 : K.lookup f18 = some ⟨oc18, od18, .func (PySem.W.fnOf "_law_holds" "_law_holds" (defArgs s__law_holds) (defBody s__law_holds) (defScope s__law_holds) .none kV18 dc18 pm18 an18 cd18 ct18), sl18⟩) (c18 : PySem.W.codeIn K cd18 "_law_holds" = true) (k18 : PySem.W.keepIn K (.ref f18) = true)
    (a19 : PySem.W.nsIn K mainGlobals "_law_told" = some (some (.ref f19))) (l19 : K.lookup f19 = some ⟨oc19, od19, .func (PySem.W.fnOf "_law_told" "_law_told" (defArgs s__law_told) (defBody s__law_told) (defScope s__law_told) .none kV19 dc19 pm19 an19 cd19 ct19), sl19⟩) (c19 : PySem.W.codeIn K cd19 "_law_told" = true) (k19 : PySem.W.keepIn K (.ref f19) = true)
    (a20 : PySem.W.nsIn K mainGlobals "_law_heap" = some (some (.ref f20))) (l20 : K.lookup f20 = some ⟨oc20, od20, .func (PySem.W.fnOf "_law_heap" "_law_heap" (defArgs s__law_heap) (defBody s__law_heap) (defScope s__law_heap) .none kV20 dc20 pm20 an20 cd20 ct20), sl20⟩) (c20 : PySem.W.codeIn K cd20 "_law_heap" = true) (k20 : PySem.W.keepIn K (.ref f20) = true)
    (a21 : PySem.W.nsIn K mainGlobals "_law_due" = some (some (.ref f21))) (l21 : K.lookup f21 = some ⟨oc21, od21, .func (PySem.W.fnOf "_law_due" "_law_due" (defArgs s__law_due) (defBody s__law_due) (defScope s__law_due) .none kV21 dc21 pm21 an21 cd21 ct21), sl21⟩) (c21 : PySem.W.codeIn K cd21 "_law_due" = true) (k21 : PySem.W.keepIn K (.ref f21) = true)
    (a22 : PySem.W.nsIn K mainGlobals "_law_is" = some (some (.ref f22))) (l22 : K.lookup f22 = some ⟨oc22, od22, .func (PySem.W.fnOf "_law_is" "_law_is" (defArgs s__law_is) (defBody s__law_is) (defScope s__law_is) .none kV22 dc22 pm22 an22 cd22 ct22), sl22⟩) (c22 : PySem.W.codeIn K cd22 "_law_is" = true) (k22 : PySem.W.keepIn K (.ref f22) = true)
    (a23 : PySem.W.nsIn K mainGlobals "law" = some (some (.ref f23))) (l23 : K.lookup f23 = some ⟨oc23, od23, .func (PySem.W.fnOf "law" "law" (defArgs s_law) (defBody s_law) (defScope s_law) .none kV23 dc23 pm23 an23 cd23 ct23), sl23⟩) (c23 : PySem.W.codeIn K cd23 "law" = true) (k23 : PySem.W.keepIn K (.ref f23) = true)
    (z_all : PySem.W.nsIn K mainGlobals "all" = some none)
    (z_bool : PySem.W.nsIn K mainGlobals "bool" = some none)
    (z_dict : PySem.W.nsIn K mainGlobals "dict" = some none)
    (z_int : PySem.W.nsIn K mainGlobals "int" = some none)
    (z_isinstance : PySem.W.nsIn K mainGlobals "isinstance" = some none)
    (z_len : PySem.W.nsIn K mainGlobals "len" = some none)
    (z_list : PySem.W.nsIn K mainGlobals "list" = some none)
    (z_range : PySem.W.nsIn K mainGlobals "range" = some none)
    (z_set : PySem.W.nsIn K mainGlobals "set" = some none)
    (z_sorted : PySem.W.nsIn K mainGlobals "sorted" = some none)
    (z_sum : PySem.W.nsIn K mainGlobals "sum" = some none) :
    ∃ fd : FuncData, (∀ (s : Shared) (v : Value), BindsTo s fd ⟨[v], []⟩ [("_law_script", v)]) ∧ ∀ base : Heap, K.In base → base.Ns mainGlobals mg → FnOk l.prog w K mg base CX0 7 fa fd ["_law_script"] (sp_law K) := by
  have e := hfa.symm.trans (PySem.W.mg_of X G a23)
  cases e
  have T : Txt mg := ⟨PySem.W.mg_none_of X G z_all, PySem.W.mg_none_of X G z_bool, PySem.W.mg_none_of X G z_dict, PySem.W.mg_none_of X G z_int, PySem.W.mg_none_of X G z_isinstance, PySem.W.mg_none_of X G z_len, PySem.W.mg_none_of X G z_list, PySem.W.mg_none_of X G z_range, PySem.W.mg_none_of X G z_set, PySem.W.mg_none_of X G z_sorted, PySem.W.mg_none_of X G z_sum⟩
  have F0 := fun_mk (st := s_words_of) l0 c0 k0
  have b0 := F0.binds (ps := ["telling"]) fun _ _ _ _ _ _ us hl => match us, hl with | [_], _ => rfl
  have F1 := fun_mk (st := s_names_of) l1 c1 k1
  have b1 := F1.binds (ps := ["telling"]) fun _ _ _ _ _ _ us hl => match us, hl with | [_], _ => rfl
  have F2 := fun_mk (st := s_value_of) l2 c2 k2
  have b2 := F2.binds (ps := ["values", "name"]) fun _ _ _ _ _ _ us hl => match us, hl with | [_, _], _ => rfl
  have F3 := fun_mk (st := s_check_values) l3 c3 k3
  have b3 := F3.binds (ps := ["values", "telling"]) fun _ _ _ _ _ _ us hl => match us, hl with | [_, _], _ => rfl
  have F4 := fun_mk (st := s_holds) l4 c4 k4
  have b4 := F4.binds (ps := ["values", "fact"]) fun _ _ _ _ _ _ us hl => match us, hl with | [_, _], _ => rfl
  have F5 := fun_mk (st := s_is_due) l5 c5 k5
  have b5 := F5.binds (ps := ["values", "name", "number"]) fun _ _ _ _ _ _ us hl => match us, hl with | [_, _, _], _ => rfl
  have F6 := fun_mk (st := s_cell_taken) l6 c6 k6
  have b6 := F6.binds (ps := ["values", "heap", "part"]) fun _ _ _ _ _ _ us hl => match us, hl with | [_, _, _], _ => rfl
  have F7 := fun_mk (st := s_stretch_taken) l7 c7 k7
  have b7 := F7.binds (ps := ["values", "heap", "part"]) fun _ _ _ _ _ _ us hl => match us, hl with | [_, _, _], _ => rfl
  have F8 := fun_mk (st := s_tree_taken) l8 c8 k8
  have b8 := F8.binds (ps := ["values", "heap", "part"]) fun _ _ _ _ _ _ us hl => match us, hl with | [_, _, _], _ => rfl
  have F9 := fun_mk (st := s_part_taken) l9 c9 k9
  have b9 := F9.binds (ps := ["values", "heap", "part"]) fun _ _ _ _ _ _ us hl => match us, hl with | [_, _, _], _ => rfl
  have F10 := fun_mk (st := s_cover) l10 c10 k10
  have b10 := F10.binds (ps := ["values", "heap", "telling"]) fun _ _ _ _ _ _ us hl => match us, hl with | [_, _, _], _ => rfl
  have F11 := fun_mk (st := s_fits) l11 c11 k11
  have b11 := F11.binds (ps := ["values", "heap", "telling"]) fun _ _ _ _ _ _ us hl => match us, hl with | [_, _, _], _ => rfl
  have F12 := fun_mk (st := s__law_cell_at) l12 c12 k12
  have b12 := F12.binds (ps := ["_law_script", "_law_k"]) fun _ _ _ _ _ _ us hl => match us, hl with | [_, _], _ => rfl
  have F13 := fun_mk (st := s__law_names) l13 c13 k13
  have b13 := F13.binds (ps := ["_law_base", "_law_place", "_law_many"]) fun _ _ _ _ _ _ us hl => match us, hl with | [_, _, _], _ => rfl
  have F14 := fun_mk (st := s__law_addresses) l14 c14 k14
  have b14 := F14.binds (ps := ["_law_cell", "_law_many"]) fun _ _ _ _ _ _ us hl => match us, hl with | [_, _], _ => rfl
  have F15 := fun_mk (st := s__law_value) l15 c15 k15
  have b15 := F15.binds (ps := ["_law_cell", "_law_spots"]) fun _ _ _ _ _ _ us hl => match us, hl with | [_, _], _ => rfl
  have F16 := fun_mk (st := s__law_facts) l16 c16 k16
  have b16 := F16.binds (ps := ["_law_cells", "_law_some"]) fun _ _ _ _ _ _ us hl => match us, hl with | [_, _], _ => rfl
  have F17 := fun_mk (st := s__law_many_facts) l17 c17 k17
  have b17 := F17.binds (ps := ["_law_cell", "_law_full", "_law_some"]) fun _ _ _ _ _ _ us hl => match us, hl with | [_, _, _], _ => rfl
  have F18 := fun_mk (st := s__law_holds) l18 c18 k18
  have b18 := F18.binds (ps := ["_law_values", "_law_fact"]) fun _ _ _ _ _ _ us hl => match us, hl with | [_, _], _ => rfl
  have F19 := fun_mk (st := s__law_told) l19 c19 k19
  have b19 := F19.binds (ps := ["_law_found", "_law_due_here"]) fun _ _ _ _ _ _ us hl => match us, hl with | [_, _], _ => rfl
  have F20 := fun_mk (st := s__law_heap) l20 c20 k20
  have b20 := F20.binds (ps := ["_law_script", "_law_spots", "_law_full", "_law_part"]) fun _ _ _ _ _ _ us hl => match us, hl with | [_, _, _, _], _ => rfl
  have F21 := fun_mk (st := s__law_due) l21 c21 k21
  have b21 := F21.binds (ps := ["_law_full", "_law_heap_here", "_law_part", "_law_hold"]) fun _ _ _ _ _ _ us hl => match us, hl with | [_, _, _, _], _ => rfl
  have F22 := fun_mk (st := s__law_is) l22 c22 k22
  have b22 := F22.binds (ps := ["_law_found", "_law_due_here"]) fun _ _ _ _ _ _ us hl => match us, hl with | [_, _], _ => rfl
  have F23 := fun_mk (st := s_law) l23 c23 k23
  have b23 := F23.binds (ps := ["_law_script"]) fun _ _ _ _ _ _ us hl => match us, hl with | [_], _ => rfl
  refine ⟨PySem.W.fnOf "law" "law" (defArgs s_law) (defBody s_law) (defScope s_law) .none kV23 dc23 pm23 an23 cd23 ct23, fun s v => .of_eq rfl, fun base _ _ => ?_⟩
  have G_words_of := ok_words_of (P := l.prog) (w := w) (K := K) (mg := mg) (base := base) (f := f0) F0 T
  have D_words_of : Df l.prog w K mg base "words_of" 1 ["telling"] (sp_words_of K) := ⟨f0, _, G_words_of, PySem.W.mg_of X G a0, k0, b0⟩
  have G_value_of := ok_value_of (P := l.prog) (w := w) (K := K) (mg := mg) (base := base) (f := f2) F2 T
  have D_value_of : Df l.prog w K mg base "value_of" 1 ["values", "name"] (sp_value_of K) := ⟨f2, _, G_value_of, PySem.W.mg_of X G a2, k2, b2⟩
  have G__law_cell_at := ok__law_cell_at (P := l.prog) (w := w) (K := K) (mg := mg) (base := base) (f := f12) F12 T
  have D__law_cell_at : Df l.prog w K mg base "_law_cell_at" 1 ["_law_script", "_law_k"] (sp__law_cell_at K) := ⟨f12, _, G__law_cell_at, PySem.W.mg_of X G a12, k12, b12⟩
  have G__law_names := ok__law_names (P := l.prog) (w := w) (K := K) (mg := mg) (base := base) (f := f13) F13 T
  have D__law_names : Df l.prog w K mg base "_law_names" 1 ["_law_base", "_law_place", "_law_many"] (sp__law_names K) := ⟨f13, _, G__law_names, PySem.W.mg_of X G a13, k13, b13⟩
  have G__law_addresses := ok__law_addresses (P := l.prog) (w := w) (K := K) (mg := mg) (base := base) (f := f14) F14 T
  have D__law_addresses : Df l.prog w K mg base "_law_addresses" 1 ["_law_cell", "_law_many"] (sp__law_addresses K) := ⟨f14, _, G__law_addresses, PySem.W.mg_of X G a14, k14, b14⟩
  have G__law_value := ok__law_value (P := l.prog) (w := w) (K := K) (mg := mg) (base := base) (f := f15) F15 T
  have D__law_value : Df l.prog w K mg base "_law_value" 1 ["_law_cell", "_law_spots"] (sp__law_value K) := ⟨f15, _, G__law_value, PySem.W.mg_of X G a15, k15, b15⟩
  have G__law_facts := ok__law_facts (P := l.prog) (w := w) (K := K) (mg := mg) (base := base) (f := f16) F16 T
  have D__law_facts : Df l.prog w K mg base "_law_facts" 1 ["_law_cells", "_law_some"] (sp__law_facts K) := ⟨f16, _, G__law_facts, PySem.W.mg_of X G a16, k16, b16⟩
  have G__law_many_facts := ok__law_many_facts (P := l.prog) (w := w) (K := K) (mg := mg) (base := base) (f := f17) F17 T
  have D__law_many_facts : Df l.prog w K mg base "_law_many_facts" 1 ["_law_cell", "_law_full", "_law_some"] (sp__law_many_facts K) := ⟨f17, _, G__law_many_facts, PySem.W.mg_of X G a17, k17, b17⟩
  have G__law_holds := ok__law_holds (P := l.prog) (w := w) (K := K) (mg := mg) (base := base) (f := f18) F18 T
  have D__law_holds : Df l.prog w K mg base "_law_holds" 1 ["_law_values", "_law_fact"] (sp__law_holds K) := ⟨f18, _, G__law_holds, PySem.W.mg_of X G a18, k18, b18⟩
  have G__law_told := ok__law_told (P := l.prog) (w := w) (K := K) (mg := mg) (base := base) (f := f19) F19 T
  have D__law_told : Df l.prog w K mg base "_law_told" 1 ["_law_found", "_law_due_here"] (sp__law_told K) := ⟨f19, _, G__law_told, PySem.W.mg_of X G a19, k19, b19⟩
  have G__law_due := ok__law_due (P := l.prog) (w := w) (K := K) (mg := mg) (base := base) (f := f21) F21 T
  have D__law_due : Df l.prog w K mg base "_law_due" 1 ["_law_full", "_law_heap_here", "_law_part", "_law_hold"] (sp__law_due K) := ⟨f21, _, G__law_due, PySem.W.mg_of X G a21, k21, b21⟩
  have G__law_is := ok__law_is (P := l.prog) (w := w) (K := K) (mg := mg) (base := base) (f := f22) F22 T
  have D__law_is : Df l.prog w K mg base "_law_is" 1 ["_law_found", "_law_due_here"] (sp__law_is K) := ⟨f22, _, G__law_is, PySem.W.mg_of X G a22, k22, b22⟩
  have G_names_of := ok_names_of (P := l.prog) (w := w) (K := K) (mg := mg) (base := base) (f := f1) F1 T D_words_of
  have D_names_of : Df l.prog w K mg base "names_of" 2 ["telling"] (sp_names_of K) := ⟨f1, _, G_names_of, PySem.W.mg_of X G a1, k1, b1⟩
  have G_holds := ok_holds (P := l.prog) (w := w) (K := K) (mg := mg) (base := base) (f := f4) F4 T D_value_of
  have D_holds : Df l.prog w K mg base "holds" 2 ["values", "fact"] (sp_holds K) := ⟨f4, _, G_holds, PySem.W.mg_of X G a4, k4, b4⟩
  have G_is_due := ok_is_due (P := l.prog) (w := w) (K := K) (mg := mg) (base := base) (f := f5) F5 T D_value_of
  have D_is_due : Df l.prog w K mg base "is_due" 2 ["values", "name", "number"] (sp_is_due K) := ⟨f5, _, G_is_due, PySem.W.mg_of X G a5, k5, b5⟩
  have G_stretch_taken := ok_stretch_taken (P := l.prog) (w := w) (K := K) (mg := mg) (base := base) (f := f7) F7 T D_value_of
  have D_stretch_taken : Df l.prog w K mg base "stretch_taken" 2 ["values", "heap", "part"] (sp_stretch_taken K) := ⟨f7, _, G_stretch_taken, PySem.W.mg_of X G a7, k7, b7⟩
  have G_tree_taken := ok_tree_taken (P := l.prog) (w := w) (K := K) (mg := mg) (base := base) (f := f8) F8 T D_value_of
  have D_tree_taken : Df l.prog w K mg base "tree_taken" 2 ["values", "heap", "part"] (sp_tree_taken K) := ⟨f8, _, G_tree_taken, PySem.W.mg_of X G a8, k8, b8⟩
  have G__law_heap := ok__law_heap (P := l.prog) (w := w) (K := K) (mg := mg) (base := base) (f := f20) F20 T D__law_cell_at D__law_value
  have D__law_heap : Df l.prog w K mg base "_law_heap" 2 ["_law_script", "_law_spots", "_law_full", "_law_part"] (sp__law_heap K) := ⟨f20, _, G__law_heap, PySem.W.mg_of X G a20, k20, b20⟩
  have G_check_values := ok_check_values (P := l.prog) (w := w) (K := K) (mg := mg) (base := base) (f := f3) F3 T D_names_of
  have D_check_values : Df l.prog w K mg base "check_values" 3 ["values", "telling"] (sp_check_values K) := ⟨f3, _, G_check_values, PySem.W.mg_of X G a3, k3, b3⟩
  have G_cell_taken := ok_cell_taken (P := l.prog) (w := w) (K := K) (mg := mg) (base := base) (f := f6) F6 T D_value_of D_is_due
  have D_cell_taken : Df l.prog w K mg base "cell_taken" 3 ["values", "heap", "part"] (sp_cell_taken K) := ⟨f6, _, G_cell_taken, PySem.W.mg_of X G a6, k6, b6⟩
  have G_part_taken := ok_part_taken (P := l.prog) (w := w) (K := K) (mg := mg) (base := base) (f := f9) F9 T D_tree_taken D_cell_taken D_stretch_taken
  have D_part_taken : Df l.prog w K mg base "part_taken" 4 ["values", "heap", "part"] (sp_part_taken K) := ⟨f9, _, G_part_taken, PySem.W.mg_of X G a9, k9, b9⟩
  have G_cover := ok_cover (P := l.prog) (w := w) (K := K) (mg := mg) (base := base) (f := f10) F10 T D_check_values D_part_taken D_holds
  have D_cover : Df l.prog w K mg base "cover" 5 ["values", "heap", "telling"] (sp_cover K) := ⟨f10, _, G_cover, PySem.W.mg_of X G a10, k10, b10⟩
  have G_fits := ok_fits (P := l.prog) (w := w) (K := K) (mg := mg) (base := base) (f := f11) F11 T D_cover
  have D_fits : Df l.prog w K mg base "fits" 6 ["values", "heap", "telling"] (sp_fits K) := ⟨f11, _, G_fits, PySem.W.mg_of X G a11, k11, b11⟩
  exact ok_law F23 T D__law_names D__law_addresses D__law_facts D__law_cell_at D__law_heap D__law_due D_cover D__law_is D__law_value D__law_many_facts D_fits D__law_holds D__law_told
end Law
end Ap
open PySem PySem.W PyProof.Rows
set_option maxRecDepth 100000 in
set_option maxHeartbeats 0 in
theorem PySem.Challenge.cw_apart_k10_facts_and_a_cell_holds : PySem.Challenge.rw_apart_k10_facts_and_a_cell.Holds := by
  w_on; o_law; k_head; (case hw => w_witness2)
  k_fill
  refine L2.walk_of (l := PySem.Challenge.rw_apart_k10_facts_and_a_cell) (n := 63) (k := 7) (x := "_law_script") (CX := fun _ => L2.CX0) (sp := fun w => Ap.Law.sp_law _) rfl (by decide) rfl ⟨rfl, by decide, by decide⟩ (fun w h Y => PySem.W.kIn_of Y) ?F (fun _ _ a ns hl _ hS => ⟨a, ns, rfl, hS, hl, fun _ => rfl⟩) (fun _ _ _ _ _ h => h)
  case F =>
    intro w mg fa h KX G hmg
    refine' Ap.Law.all_mk KX G hmg ?a0 ?l0 ?c0 ?k0 ?a1 ?l1 ?c1 ?k1 ?a2 ?l2 ?c2 ?k2 ?a3 ?l3 ?c3 ?k3 ?a4 ?l4 ?c4 ?k4 ?a5 ?l5 ?c5 ?k5 ?a6 ?l6 ?c6 ?k6 ?a7 ?l7 ?c7 ?k7 ?a8 ?l8 ?c8 ?k8 ?a9 ?l9 ?c9 ?k9 ?a10 ?l10 ?c10 ?k10 ?a11 ?l11 ?c11 ?k11 ?a12 ?l12 ?c12 ?k12 ?a13 ?l13 ?c13 ?k13 ?a14 ?l14 ?c14 ?k14 ?a15 ?l15 ?c15 ?k15 ?a16 ?l16 ?c16 ?k16 ?a17 ?l17 ?c17 ?k17 ?a18 ?l18 ?c18 ?k18 ?a19 ?l19 ?c19 ?k19 ?a20 ?l20 ?c20 ?k20 ?a21 ?l21 ?c21 ?k21 ?a22 ?l22 ?c22 ?k22 ?a23 ?l23 ?c23 ?k23 ?z_all ?z_bool ?z_dict ?z_int ?z_isinstance ?z_len ?z_list ?z_range ?z_set ?z_sorted ?z_sum
    (case a0 => k_is)
    (case l0 => k_is)
    (case c0 => k_is)
    (case k0 => k_is)
    (case a1 => k_is)
    (case l1 => k_is)
    (case c1 => k_is)
    (case k1 => k_is)
    (case a2 => k_is)
    (case l2 => k_is)
    (case c2 => k_is)
    (case k2 => k_is)
    (case a3 => k_is)
    (case l3 => k_is)
    (case c3 => k_is)
    (case k3 => k_is)
    (case a4 => k_is)
    (case l4 => k_is)
    (case c4 => k_is)
    (case k4 => k_is)
    (case a5 => k_is)
    (case l5 => k_is)
    (case c5 => k_is)
    (case k5 => k_is)
    (case a6 => k_is)
    (case l6 => k_is)
    (case c6 => k_is)
    (case k6 => k_is)
    (case a7 => k_is)
    (case l7 => k_is)
    (case c7 => k_is)
    (case k7 => k_is)
    (case a8 => k_is)
    (case l8 => k_is)
    (case c8 => k_is)
    (case k8 => k_is)
    (case a9 => k_is)
    (case l9 => k_is)
    (case c9 => k_is)
    (case k9 => k_is)
    (case a10 => k_is)
    (case l10 => k_is)
    (case c10 => k_is)
    (case k10 => k_is)
    (case a11 => k_is)
    (case l11 => k_is)
    (case c11 => k_is)
    (case k11 => k_is)
    (case a12 => k_is)
    (case l12 => k_is)
    (case c12 => k_is)
    (case k12 => k_is)
    (case a13 => k_is)
    (case l13 => k_is)
    (case c13 => k_is)
    (case k13 => k_is)
    (case a14 => k_is)
    (case l14 => k_is)
    (case c14 => k_is)
    (case k14 => k_is)
    (case a15 => k_is)
    (case l15 => k_is)
    (case c15 => k_is)
    (case k15 => k_is)
    (case a16 => k_is)
    (case l16 => k_is)
    (case c16 => k_is)
    (case k16 => k_is)
    (case a17 => k_is)
    (case l17 => k_is)
    (case c17 => k_is)
    (case k17 => k_is)
    (case a18 => k_is)
    (case l18 => k_is)
    (case c18 => k_is)
    (case k18 => k_is)
    (case a19 => k_is)
    (case l19 => k_is)
    (case c19 => k_is)
    (case k19 => k_is)
    (case a20 => k_is)
    (case l20 => k_is)
    (case c20 => k_is)
    (case k20 => k_is)
    (case a21 => k_is)
    (case l21 => k_is)
    (case c21 => k_is)
    (case k21 => k_is)
    (case a22 => k_is)
    (case l22 => k_is)
    (case c22 => k_is)
    (case k22 => k_is)
    (case a23 => k_is)
    (case l23 => k_is)
    (case c23 => k_is)
    (case k23 => k_is)
    (case z_all => k_is)
    (case z_bool => k_is)
    (case z_dict => k_is)
    (case z_int => k_is)
    (case z_isinstance => k_is)
    (case z_len => k_is)
    (case z_list => k_is)
    (case z_range => k_is)
    (case z_set => k_is)
    (case z_sorted => k_is)
    (case z_sum => k_is)
#print axioms PySem.Challenge.cw_apart_k10_facts_and_a_cell_holds
