import PyProof.Rows.All
import Wide.All
import OpenK.AllK
import Wide.FinOn
import PyProof.Rows.SortShellAny
import HandS.ForMost
import HandS.More
import HandS.Set
import HandS.SetFor
import KE.KOpsOwn
import HandS.OwnEq
import HandS.ClsMeth
import HandS.TupAny
import KE.GoesMore
import KE.GoesEnum
import HandS.Walk
import HandS.IsInst
import HandS.Property
import HandS.Deep
import HandS.Flow
import HandS.Small
import HandS.Wide
import HandS.Defaults
import HandS.HeadHook1
import HandS.HeadHook2
import HandS.HeadNt
import KE.KStateDown
import HandS.Ends
import HandS.Head0
import HandS.Head1
import HandS.Head2
import HandS.HeadEnd
import PySem.Challenge.RW_faultsheard_k01_happenings
set_option Elab.async false
set_option linter.all false
set_option maxRecDepth 100000
set_option maxHeartbeats 4000000
/-! Sets of texts: made of a tuple of texts, sorted. -/
namespace Fh
open PySem PySem.Spec PyProof.Rows L2

def tKey (e : Int × Value) : Str := match e.2 with | .str x _ => x | _ => Str.empty
def TGood (w : World) (e : Int × Value) : Prop := ∃ x tk, e.2 = Value.str x tk ∧ e.1 = hashStr w x
/-- a set of texts stands at a -/
structure TSet (w : World) (h : Heap) (a : Addr) (S : Str → Bool) (n : Nat) (o : Obj) (es : Array (Int × Value)) (ep : Nat) (t : SetTable) : Prop where
  ob : h.get? a = some o
  ex : o.ExactSet
  dt : o.data = .set es ep t
  gd : ∀ e ∈ es.toList, TGood w e
  nd : (es.toList.map tKey).Nodup
  mem : ∀ k, S k = true ↔ k ∈ es.toList.map tKey
  bd : es.size < scanBound
  ft : t.fits es.size = true
  sz : es.size = n
  rs : Ris t.place.toList
  ld : w.params.followText "set-order" = true ∨ t.led = true
def TxR (w : World) (h : Heap) (a : Addr) (S : Str → Bool) (n : Nat) : Prop := ∃ o es ep t, TSet w h a S n o es ep t

section
variable {P : Program} {w : World} {h h' : Heap} {a : Addr} {S : Str → Bool} {n : Nat}
theorem TxR.at (R : TxR w h a S n) (k : ∀ o, h.get? a = some o → h'.get? a = some o) : TxR w h' a S n :=
  let ⟨o, es, ep, t, z⟩ := R
  ⟨o, es, ep, t, { z with ob := k o z.ob }⟩
theorem TxR.congr {S' : Str → Bool} (R : TxR w h a S n) (e : ∀ k, S' k = S k) : TxR w h a S' n := by
  obtain rfl : S' = S := funext e
  exact R
theorem tgood_elems {l : List (Int × Value)} (g : ∀ e ∈ l, TGood w e) : ElemsOf (strKind P w) l := fun e he => by
  obtain ⟨x, tk, h1, h2⟩ := g e he
  refine ⟨⟨x, ?_, h2⟩, by rw [h1] <;> rfl⟩
  rw [h1]
  show Value.isStrOf x (.str x tk) = true
  simp [Value.isStrOf]
theorem tgood_is {e : Int × Value} (g : TGood w e) (k : Str) : (strKind P w).is k e.2 = true ↔ tKey e = k := by
  obtain ⟨x, tk, h1, _⟩ := g
  unfold tKey
  rw [h1]
  show Value.isStrOf k (.str x tk) = true ↔ x = k
  simp [Value.isStrOf]
theorem tgood_mem {l : List (Int × Value)} (g : ∀ e ∈ l, TGood w e) (k : Str) : k ∈ l.map tKey ↔ ∃ e ∈ l, (strKind P w).is k e.2 = true := by
  constructor
  · intro hk
    obtain ⟨e, he, q⟩ := List.mem_map.mp hk
    exact ⟨e, he, (tgood_is (g e he) k).2 q⟩
  · rintro ⟨e, he, q⟩
    exact List.mem_map.mpr ⟨e, he, (tgood_is (g e he) k).1 q⟩
theorem isStr_self (x : Str) (t : Tok) : (strKind P w).is x (.str x t) = true := by
  show Value.isStrOf x (.str x t) = true
  simp [Value.isStrOf]
end

section
variable {P : Program} {w : World} {A : Around} {E : Value → Shared → Prop} {s : Shared} {a : Addr} {S : Str → Bool} {n : Nat}
/-- behind a new member: the table is laid anew where it is too full -/
theorem tset_tail {g : Bool → Sem Unit} (hg : ∀ (b : Bool) (s₁ : Shared) (Q' : Unit → Shared → Prop), Q' () s₁ → wpAny (model P w) A (g b) Q' E s₁)
    {o : Obj} {es : Array (Int × Value)} {ep : Nat} {t : SetTable} (ho : s.heap.get? a = some o) (hex : o.ExactSet) (hd : o.data = .set es ep t)
    {es1 : Array (Int × Value)} {t2 : SetTable} {S' : Str → Bool} (g1 : ∀ e ∈ es1.toList, TGood w e) (nd1 : (es1.toList.map tKey).Nodup) (m1 : ∀ k, S' k = true ↔ k ∈ es1.toList.map tKey)
    (hb1 : es1.size < scanBound) (hf2 : t2.fits es1.size = true) (hr : Ris t2.place.toList) (hl : w.params.followText "set-order" = true ∨ t2.led = true) {wasDummy : Bool} {R : Option Bool → Shared → Prop}
    (hR : ∀ h', Heap.SameBut a s.heap h' → TxR w h' a S' es1.size → R (some true) { s with heap := h' }) :
    wpAny (model P w) A (do
        storeSet a es1 t2
        if (!wasDummy && t2.tooFull) = true then do
            g (relayAll t2 es1 (SetTable.grown es1.size)).2.2
            storeSet a (relayAll t2 es1 (SetTable.grown es1.size)).1 (relayAll t2 es1 (SetTable.grown es1.size)).2.1
            pure (some true)
          else pure (some true)) R E s := by
  refine wpAny_bind (wpAny_storeSet_of ho hd ?_ (fits_of_scanBound hb1))
  have ho1 := store_at (es' := es1) (t' := t2) ho hd
  have sb1 := Heap.SameBut.update s.heap a (Obj.putSet es1 t2)
  split
  · have pm := relayAll_perm t2 es1 (SetTable.grown es1.size)
    have hf3 := relayAll_fits t2 es1 (SetTable.grown es1.size)
    have hr3 := relayAll_ris t2 es1 (SetTable.grown es1.size)
    have hl3 := relayAll_led t2 es1 (SetTable.grown es1.size)
    generalize relayAll t2 es1 (SetTable.grown es1.size) = Z at pm hf3 hr3 hl3 ⊢
    obtain ⟨es2, t3, gave⟩ := Z
    dsimp only at pm hf3 hr3 hl3 ⊢
    have hsz : es2.size = es1.size := by rw [← Array.length_toList, pm.length_eq, Array.length_toList]
    have hb2 : es2.size < scanBound := hsz ▸ hb1
    refine wpAny_bind (hg _ _ _ ?_)
    refine wpAny_bind (wpAny_storeSet_of ho1 rfl ?_ (fits_of_scanBound hb2))
    have ho2 := store_at (es' := es2) (t' := t3) ho1 rfl
    refine wpAny_pure (hR _ (sb1.trans (Heap.SameBut.update _ a _)) ?_)
    exact ⟨_, es2, _, t3, { ob := ho2, ex := hex, dt := rfl, gd := fun e he => g1 e (pm.mem_iff.mp he), nd := (pm.map tKey).nodup_iff.mpr nd1, mem := fun k => (m1 k).trans (pm.map tKey).mem_iff.symm, bd := hb2, ft := hf3, sz := hsz, rs := hr3, ld := hl.imp id fun z => by rw [hl3]; exact z }⟩
  · exact wpAny_pure (hR _ sb1 ⟨_, es1, _, t2, { ob := ho1, ex := hex, dt := rfl, gd := g1, nd := nd1, mem := m1, bd := hb1, ft := hf2, sz := rfl, rs := hr, ld := hl }⟩)

/-- one text more -/
theorem tset_add {k : Str} {tk : Tok} {Q : Bool → Shared → Prop} (R : TxR w s.heap a S n) (room : n + 1 < scanBound)
    (hQ : ∀ h', Heap.SameBut a s.heap h' → TxR w h' a (fun j => S j || decide (j = k)) (if S k = true then n else n + 1) → Q (!S k) { s with heap := h' }) :
    wpAny (model P w) A (setAddHashed a (.str k tk) ((strKind P w).hash k)) Q E s := by
  obtain ⟨o, es, ep, t, Z⟩ := R
  have ho := Z.ob
  have hd := Z.dt
  have hkey : (strKind P w).is k (.str k tk) = true := isStr_self k tk
  have hsc : (Value.str k tk).scannable = true := rfl
  have hel : ElemsOf (strKind P w) es.toList := tgood_elems Z.gd
  unfold setAddHashed setAddHashedIn
  refine wpAny_holding (wpAny_bind (wpAny_setState_of ho hd Z.ft ?_))
  dsimp only
  rw [byScan_of hsc Z.bd hel]
  simp only [↓reduceIte]
  unfold setAddByScan
  refine wpAny_bind ?_
  refine wpAny_bind (wpAny_rule ?_)
  refine wpAny_bind (wpAny_setScan_of hkey ho hd Z.ft hel ?_)
  cases hfi : List.findIdx? (fun e => (strKind P w).is k e.2) es.toList with
  | some j =>
    dsimp only
    obtain ⟨hj, pj, _⟩ := List.findIdx?_eq_some_iff_getElem.mp hfi
    have hSk : S k = true := (Z.mem k).2 ((tgood_mem (P := P) (w := w) Z.gd k).2 ⟨es.toList[j], List.getElem_mem hj, pj⟩)
    refine wpAny_pure (wpAny_pure ?_)
    have q := hQ s.heap (Heap.SameBut.refl a s.heap) ⟨o, es, ep, t, { Z with
      mem := fun i => by
        rw [Bool.or_eq_true, decide_eq_true_eq, ← Z.mem i]
        exact ⟨fun z => z.elim id (fun e => e ▸ hSk), .inl⟩
      sz := by rw [if_pos hSk]; exact Z.sz }⟩
    rw [hSk] at q
    exact q
  | none =>
    dsimp only
    have hnk : k ∉ es.toList.map tKey := fun z => by
      obtain ⟨e, he, q⟩ := (tgood_mem (P := P) (w := w) Z.gd k).1 z
      have c := List.findIdx?_eq_none_iff.mp hfi e he
      rw [q] at c
      cases c
    have hSk : S k = false := by
      cases q : S k with
      | false => rfl
      | true => exact absurd ((Z.mem k).1 q) hnk
    have hgw : ∀ (b : Bool) {s₁ : Shared} {Q' : Unit → Shared → Prop}, Q' () s₁ → wpAny (model P w) A (match b with | true => rule "set.scan.the-table-gave-way" | false => pure ()) Q' E s₁ :=
      fun b s₁ Q' q => by cases b <;> first | exact wpAny_pure q | exact wpAny_rule q
    have pm := layNew_perm t es ((strKind P w).hash k) (.str k tk)
    have hf1 := layNew_fits t es ((strKind P w).hash k) (.str k tk)
    have hr1 := layNew_ris t es ((strKind P w).hash k) (.str k tk) Z.rs
    have hl1 := layNew_led t es ((strKind P w).hash k) (.str k tk)
    generalize layNew t es ((strKind P w).hash k) (.str k tk) = Y at pm hf1 hr1 hl1 ⊢
    obtain ⟨es1, t1, wasDummy, gave⟩ := Y
    dsimp only at pm hf1 hr1 hl1 ⊢
    rw [Array.toList_push] at pm
    have pc : es1.toList.Perm (((strKind P w).hash k, Value.str k tk) :: es.toList) := pm.trans (List.perm_append_singleton _ _)
    have pk : (es1.toList.map tKey).Perm (k :: es.toList.map tKey) := pc.map tKey
    have g1 : ∀ e ∈ es1.toList, TGood w e := fun e he => by
      rcases List.mem_cons.mp (pc.mem_iff.mp he) with z | z
      · rw [z]; exact ⟨k, tk, rfl, rfl⟩
      · exact Z.gd e z
    have nd1 : (es1.toList.map tKey).Nodup := pk.nodup_iff.mpr (List.nodup_cons.mpr ⟨hnk, Z.nd⟩)
    have m1 : ∀ i, (S i || decide (i = k)) = true ↔ i ∈ es1.toList.map tKey := fun i => by
      rw [Bool.or_eq_true, decide_eq_true_eq, Z.mem i, pk.mem_iff, List.mem_cons]
      exact Or.comm
    have hsz : es1.size = n + 1 := by rw [← Array.length_toList, pc.length_eq, List.length_cons, Array.length_toList, Z.sz]
    have hb1 : es1.size < scanBound := by rw [hsz]; exact room
    have hled : w.params.followText "set-order" = true ∨ t1.led = true := Z.ld.imp id fun z => by rw [hl1]; exact z
    have fin : ∀ h', Heap.SameBut a s.heap h' → TxR w h' a (fun j => S j || decide (j = k)) es1.size → Q true { s with heap := h' } := fun h' sb r => by
      have q := hQ h' sb
      rw [hSk] at q
      rw [hsz] at r
      exact q r
    refine wpAny_bind (hgw _ ?_)
    split
    · refine wpAny_bind ?_
      rw [hashByValue_scannable 8 hsc]
      refine wpAny_pure ?_
      refine tset_tail ?_ ho Z.ex hd g1 nd1 m1 hb1 ?_ ?_ ?_ ?_
      · intro b s₁ Q' q; cases b <;> first | exact wpAny_pure q | exact wpAny_rule q
      · first | (split <;> first | exact hf1 | exact SetTable.fits_plain_off hf1) | exact hf1
      · first | (split <;> exact hr1) | exact hr1
      · first | (split <;> exact hled) | exact hled
      · intro h' sb r; dsimp only; exact wpAny_pure (fin h' sb r)
    · refine wpAny_bind (wpAny_pure ?_)
      simp only [↓reduceIte]
      refine tset_tail ?_ ho Z.ex hd g1 nd1 m1 hb1 hf1 hr1 hled ?_
      · intro b s₁ Q' q; cases b <;> first | exact wpAny_pure q | exact wpAny_rule q
      · intro h' sb r; dsimp only; exact wpAny_pure (fin h' sb r)

theorem fresh_led (w : World) : w.params.followText "set-order" = true ∨ (!w.params.followText "set-order") = true := by
  cases w.params.followText "set-order"
  · exact .inr rfl
  · exact .inl rfl
theorem tset_empty {w : World} {h : Heap} {a : Addr} {xs : List Str} (ho : h.get? a = some { cls := .type "set", dict := none, data := .set #[] 0 (.fresh 0 0 (!w.params.followText "set-order")) }) : TxR w h a (fun j => decide (j ∈ xs.take 0)) 0 :=
  ⟨_, #[], 0, _, { ob := ho, ex := ⟨rfl, rfl, rfl⟩, dt := rfl, gd := (fun e he => by simp at he), nd := (by simp), mem := (fun k => by simp), bd := (by decide), ft := (by rfl), sz := rfl, rs := List.Pairwise.nil, ld := fresh_led w }⟩

/-- the loop of set.update over texts -/
theorem tset_update {I : Addr} {fp wr : List Addr} {G : Array GenState → Array GenState → Prop} {n : Nat} {Pv : Nat → Value → Prop} {St : Nat → Shared → Prop} {R : Result → Shared → Prop}
    (W : WalksS P w A.in1 I fp wr G n Pv St) (S : Addr) (hSf : S ∉ fp) (xs : List Str) (hn : n = xs.length) (hb : xs.length + 1 < scanBound) (hval : ∀ i v, Pv i v → ∃ k t, xs[i]? = some k ∧ v = .str k t) :
    ∀ (k i : Nat) (s : Shared), n - i = k → i ≤ n → St i s → (∃ c, c ≤ i ∧ TxR w s.heap S (fun j => decide (j ∈ xs.take i)) c) →
      (∀ s' c, Moved (S :: wr) G s s' → c ≤ n → TxR w s'.heap S (fun j => decide (j ∈ xs)) c → R (.ok (.ret .none)) s') →
      codeAny (model P w) A (.builtin "set.update.loop" ⟨[.ref S, .ref I], []⟩) R s := by
  have hSw : S ∉ wr := fun h => hSf (W.sub _ h)
  have hsub : ∀ b ∈ wr, b ∈ S :: wr := fun b hb => List.mem_cons_of_mem _ hb
  intro k
  induction k with
  | zero =>
    intro i s hk' hi hst ⟨c, hc, hS⟩ hR
    have hin : i = n := by omega
    subst hin
    refine codeAny_builtin F.entry_set_update_loop ?_
    rw [Around.under_plainId F.plain_set_update_loop _]
    show wpAny _ A.in1 (pyNext (.ref I) >>= _) _ _ s
    refine wpAny_bind (W.done s _ _ hst fun s' hm => ?_)
    show wpAny _ A.in1 (ret Value.none) _ _ s'
    have e : xs.take i = xs := List.take_of_length_le (by omega)
    rw [e] at hS
    exact wpAny_pure (hR s' c (hm.mono hsub) hc (hS.at fun o e => hm.heap S o hSw e))
  | succ k ih =>
    intro i s hk' hi hst ⟨c, hc, hS⟩ hR
    have hlt : i < n := by omega
    refine codeAny_builtin F.entry_set_update_loop ?_
    rw [Around.under_plainId F.plain_set_update_loop _]
    show wpAny _ A.in1 (pyNext (.ref I) >>= _) _ _ s
    refine wpAny_bind (W.item i s _ _ hlt hst fun v s' hP hst' hm => ?_)
    obtain ⟨z, t, hz, rfl⟩ := hval i v hP
    have hS' : TxR w s'.heap S (fun j => decide (j ∈ xs.take i)) c := hS.at fun o e => hm.heap S o hSw e
    show wpAny _ A.in1 (holding [Value.str z t] (setAdd S (.str z t)) >>= _) _ _ s'
    refine wpAny_bind (wpAny_holding ?_)
    unfold setAdd
    refine wpAny_holding ?_
    refine wpAny_bind ((strKind P w).pyHash (k := z) (isStr_self z t) ?_)
    refine tset_add (s := { s' with toks := s'.toks + 1 }) hS' (by omega) fun h' hsb hS2 => ?_
    have hS3 : TxR w h' S (fun j => decide (j ∈ xs.take (i + 1))) (if decide (z ∈ xs.take i) = true then c else c + 1) := hS2.congr fun j => by
      rw [List.take_add_one, hz]
      simp [List.mem_append]
    have hc3 : (if decide (z ∈ xs.take i) = true then c else c + 1) ≤ i + 1 := by
      split <;> omega
    refine wpAny_pure ⟨plainId_quiet F.plain_set_update_loop _, ih (i + 1) _ (by omega) hlt (W.frame _ s' _ _ hst' (Nat.le_succ _) fun b hb o e => ?_) ⟨_, hc3, hS3⟩ fun s'' c2 hm'' hc'' hS'' => ?_⟩
    · rw [hsb.2 b (fun h : b = S => hSf (by rw [← h]; exact hb))]; exact e
    · refine hR s'' c2 (Moved.trans W.gtrans ((hm.mono hsub).then_heap (Nat.le_succ _) fun b o hb e => ?_) hm'') hc'' hS''
      rw [hsb.2 b (fun h : b = S => hb (by rw [h]; exact List.mem_cons_self))]; exact e

set_option maxHeartbeats 8000000 in
/-- set(t), t a tuple of texts -/
theorem tset_call {l : Addr} {items : Array Value} (xs : List Str) {Q : Value → Shared → Prop} (hh : A.handled = none) (hl : s.heap.IsTuple l items) (hsz : items.size = xs.length)
    (hval : ∀ (i : Nat) (v : Value), items[i]? = some v → ∃ k t, xs[i]? = some k ∧ v = .str k t) (hb : xs.length + 1 < scanBound)
    (h : ∀ (h' : Heap) (tk c : Nat), TxR w h' s.heap.objs.size (fun j => decide (j ∈ xs)) c → c ≤ xs.length → (∀ b o, s.heap.get? b = some o → h'.get? b = some o) → Q (.ref s.heap.objs.size) { s with heap := h', toks := tk }) :
    wpAny (model P w) A (call (.type "set") [.ref l]) Q E s := by
  obtain ⟨c, tl, hmro⟩ := F.called_set.mro
  have hmade := F.called_set.made
  have hsub := F.called_set.sub
  refine wpAny_call (codeAny_of_tree ?_)
  show wpAny _ _ (callAny (.type "set") _) _ _ _
  refine wpAny_pure ⟨Code.quiet_builtin _ (by decide +kernel), codeAny_builtin F.entry_type_call ?_⟩
  rw [Around.under_plain (weight_type_call_type "set" [.ref l] []) rfl]
  have h1 := F.called_set.notType
  have h2 := F.called_set.canCreate
  have hct := F.typeCall_set_1 (.ref l)
  repeat (any_goals (first | assumption | wp_step))
  refine codeAny_mono (code_set_led1 (.ref l) (E := E) (Q₁ := fun obj s₁ => obj = .ref s.heap.objs.size ∧ s₁ = { s with heap := s.heap.push { cls := .type "set", dict := none, data := .set #[] 0 (.fresh 0 0 (!w.params.followText "set-order")) } }) ⟨rfl, rfl⟩) fun r s₁ hr => ?_
  cases r with
  | error e => exact hr
  | ok fl =>
    cases fl with
    | ret obj =>
      obtain ⟨rfl, rfl⟩ := hr
      have hS : (s.heap.push { cls := .type "set", dict := none, data := .set #[] 0 (.fresh 0 0 (!w.params.followText "set-order")) }).get? s.heap.objs.size = some { cls := .type "set", dict := none, data := .set #[] 0 (.fresh 0 0 (!w.params.followText "set-order")) } := Heap.get?_push_size _ rfl
      have hT : Shared.TypeIs { s with heap := s.heap.push { cls := .type "set", dict := none, data := .set #[] 0 (.fresh 0 0 (!w.params.followText "set-order")) } } (.ref s.heap.objs.size) "set" := ⟨_, hS, rfl⟩
      have hli := F.called_set.init.lookup
      have hbi := F.called_set.init.bind (.ref s.heap.objs.size)
      repeat (any_goals (first | assumption | wp_step))
      refine codeAny_mono (codeAny_call_builtin (R := wants (fun r s₂ => r = .none ∧ ∃ h' tk c, s₂ = { s with heap := h', toks := tk } ∧ TxR w h' s.heap.objs.size (fun j => decide (j ∈ xs)) c ∧ c ≤ xs.length ∧
          (∀ b o, s.heap.get? b = some o → h'.get? b = some o)) E) F.called_set.init.plain F.entry_set_init (check_set_init_1 hT ?_)) fun r₂ s₂ hr₂ => ?_
      · obtain ⟨ol, hol, hcl, nl, hdl⟩ := hl
        obtain ⟨ocls, odict, odata, oslots⟩ := ol
        simp only at hcl hdl
        subst hcl; subst hdl
        have hol' : (s.heap.push { cls := .type "set", dict := none, data := .set #[] 0 (.fresh 0 0 (!w.params.followText "set-order")) }).get? l = some { cls := .type "tuple", dict := odict, data := .seq items nl, slots := oslots } := Heap.get?_push_of_some _ hol
        have hsls := F.sub_tuple_set
        have hslf := F.sub_tuple_frozenset
        have hne : (Value.type "tuple" == Value.type "dict") = false := by decide
        have hl1 : (s.heap.push { cls := .type "set", dict := none, data := .set #[] 0 (.fresh 0 0 (!w.params.followText "set-order")) }).IsTuple l items := ⟨_, hol', rfl, nl, rfl⟩
        unfold Builtin.«set.__init__» noKeywords Builtin.Frozenset.updateFrom
        generalize hPI : pyIter = PI
        wp_walk
        subst hPI
        refine wpAny_pyIter_tuple hl1 ?_
        refine wpAny_bind (wpAny_runValue ?_)
        have hlS : l < s.heap.objs.size := Heap.lt_size hol
        have hh3 : A.in1.in1.in1.handled = none := by simp [hh]
        have hneI : l ≠ (s.heap.push { cls := .type "set", dict := none, data := .set #[] 0 (.fresh 0 0 (!w.params.followText "set-order")) }).objs.size := by
          rw [Heap.size_push]; exact Nat.ne_of_lt (Nat.lt_succ_of_lt hlS)
        have hSf : s.heap.objs.size ∉ [(s.heap.push { cls := .type "set", dict := none, data := .set #[] 0 (.fresh 0 0 (!w.params.followText "set-order")) }).objs.size, l] := by
          rw [Heap.size_push]; simp only [List.mem_cons, List.mem_singleton, List.not_mem_nil, or_false, not_or]
          exact ⟨Nat.ne_of_lt (Nat.lt_succ_self _), Nat.ne_of_gt hlS⟩
        refine tset_update ((Walks.tuple hh3 _ l hneI items).toS) s.heap.objs.size
          hSf xs hsz hb hval (items.size - 0) 0 _ (by omega) (Nat.zero_le _)
          ⟨⟨_, Heap.get?_push_size _ rfl, rfl, rfl⟩, (hl1.push _)⟩ ?hS0 ?hR
        case hS0 =>
          exact ⟨0, Nat.le_refl 0, tset_empty (Heap.get?_push_of_some _ hS)⟩
        case hR =>
          intro s' c' hm hc' hS'
          obtain ⟨h', g2, d', tk', os'⟩ := s'
          have eg : g2 = s.gens := hm.gens
          have ed : d' = s.drawn := hm.drawn
          have eo : os' = s.os := hm.os
          subst eg; subst ed; subst eo
          show wpAny _ _ _ _ _ _
          refine wpAny_pure ?_
          show wpAny _ _ (ret Value.none) _ _ _
          rw [hsz] at hc'
          refine wpAny_pure ⟨rfl, h', tk', c', rfl, hS', hc', fun b o e => ?_⟩
          have hb0 : b < s.heap.objs.size := Heap.lt_size e
          have hb1 : b ≠ s.heap.objs.size := Nat.ne_of_lt hb0
          have hb2 : b ≠ (s.heap.push { cls := .type "set", dict := none, data := .set #[] 0 (.fresh 0 0 (!w.params.followText "set-order")) }).objs.size := by
            rw [Heap.size_push]; exact Nat.ne_of_lt (Nat.lt_succ_of_lt hb0)
          exact hm.heap b o (by simp only [List.mem_cons, List.mem_singleton, List.not_mem_nil, or_false, not_or]; exact ⟨hb1, hb2⟩) (Heap.get?_push_of_some _ (Heap.get?_push_of_some _ e))
      · cases r₂ with
        | error e => exact hr₂
        | ok fl₂ =>
          cases fl₂ with
          | ret r =>
            obtain ⟨rfl, h', tk, c', rfl, hS', hc', hk'⟩ := hr₂
            repeat (any_goals (first | assumption | wp_step))
            exact h _ _ _ hS' hc' hk'
          | _ => exact hr₂.elim
    | _ => exact hr.elim

theorem strsAre_of : ∀ (l : List Value), (∀ v ∈ l, ∃ x tk, v = Value.str x tk) → StrsAre l (l.map strOf)
  | [], _ => .nil
  | v :: l, h => by
    obtain ⟨x, tk, rfl⟩ := h v List.mem_cons_self
    exact .cons x tk (strsAre_of l fun u hu => h u (List.mem_cons_of_mem _ hu))

/-- sorted(a set of texts) -/
theorem tset_sorted {Q : Value → Shared → Prop} (R : TxR w s.heap a S n) (hh : A.handled = none) (hz : n ≤ sizeLine)
    (hQ : ∀ s' p (out : Array Value) (c : Nat) (ss : List Str), (∀ b o, s.heap.get? b = some o → s'.heap.get? b = some o) → s'.gens = s.gens → s'.os = s.os → s.heap.objs.size ≤ p →
      s'.heap.get? p = some (seqObj "list" out c) → StrsAre out.toList ss → sortedS ss = true → ss.Nodup → (∀ k, k ∈ ss ↔ S k = true) → ss.length = n → Q (.ref p) s') :
    wpAny (model P w) A (call (.builtin "sorted") [.ref a]) Q E s := by
  obtain ⟨o, es, ep, t, Z⟩ := R
  refine Calls.call_function_entry kind_sorted plain_sorted entry_sorted (args_sorted1 _) ?_
  unfold Builtin.«sorted»
  refine wpAny_bind (m := checkCount "sorted" 1 1 _) (wpAny_pure ?_)
  refine wpAny_bind (collect_set (A := A.in1) hh ⟨o, Z.ob, Z.ex.1, Z.dt⟩ Z.ft Z.bd Z.rs Z.ld fun s1 vs k1 hz1 g1 o1 pm => ?_)
  have hvl : vs.length = n := by rw [pm.length_eq, List.length_map, Array.length_toList]; exact Z.sz
  have hI : StrsAre vs (vs.map strOf) := strsAre_of vs fun v hv => by
    obtain ⟨e, he, q⟩ := List.mem_map.mp (pm.mem_iff.mp hv)
    obtain ⟨x, tk, h1, _⟩ := Z.gd e he
    exact ⟨x, tk, by rw [← q]; exact h1⟩
  have pk : (vs.map strOf).Perm (es.toList.map tKey) := by
    have q := pm.map strOf
    rw [List.map_map] at q
    have e : es.toList.map (strOf ∘ fun x => x.2) = es.toList.map tKey := List.map_congr_left fun e he => by
      obtain ⟨x, tk, h1, _⟩ := Z.gd e he
      show strOf e.2 = tKey e
      unfold tKey
      rw [h1]
      rfl
    rw [e] at q
    exact q
  refine wpAny_bind (wpAny_newList ?_ (by rw [hvl]; exact hz))
  have hoL : (s1.heap.push (seqObj "list" vs.toArray 0)).get? s1.heap.objs.size = some (seqObj "list" vs.toArray 0) := Heap.get?_push_size _ rfl
  refine wpAny_bind (wpAny_holding (wpAny_call_entry slot_list_sort ⟨_, hoL, rfl⟩ entry_list_sort (list_sort_treeKAny strKind_oneLt hoL hI.keysOf (fun v₁ v₂ rest e => keyKind_strs (by rw [← e]; exact hI)) (by rw [hvl]; exact hz) fun st' hp hs => ⟨_, rfl, ?_⟩) (args_list_sort _)))
  obtain ⟨ss', a1, a2, a3⟩ := sorted_out_str hI hp hs
  obtain ⟨c, hc⟩ := sortedHeap_at (vs := vs) (out := (arrOf st').map (·.2)) hoL
  have pn : ss'.Perm (es.toList.map tKey) := a2.trans pk
  refine wpAny_pure ⟨_, rfl, hQ _ s1.heap.objs.size _ c ss' (fun b u e => ?_) g1 o1 hz1 hc a1 a3 (pn.nodup_iff.mpr Z.nd) (fun k => by rw [pn.mem_iff, ← Z.mem k]) ?_⟩
  · have q := k1 b u e
    have hlt := Heap.lt_size q
    show (sortedHeap (s1.heap.push (seqObj "list" vs.toArray 0)) s1.heap.objs.size vs _).get? b = some u
    rw [sortedHeap_old (Nat.ne_of_lt hlt) (by rw [size_push']; exact Nat.lt_succ_of_lt hlt)]
    exact Heap.get?_push_of_some _ q
  · rw [pn.length_eq, List.length_map, Array.length_toList]; exact Z.sz
end

end Fh
namespace Fh
open PySem PySem.Spec PyProof.Rows L2
/-- the set of texts at a, as an object of the layer -/
def TxO (w : World) (a : Addr) (S : Str → Bool) (n : Nat) : HO := .ext fun h => TxR w h a S n
section
variable {X : Cx}
theorem txO_new {w : World} {P : Program} {H : Hp} {h : Heap} {a : Addr} {S : Str → Bool} {n : Nat} (R : TxR w h a S n) : ObjOk P w H h a (TxO w a S n) := by
  have ⟨o, _, _, _, z⟩ := R
  exact ⟨R, ⟨o, z.ob⟩, fun h1 h2 p k => TxR.at p k⟩
theorem txO_get {pins : List (Addr × Obj)} {σ : L2.St} {H : Hp} {s : Shared} {a : Addr} {S : Str → Bool} {n : Nat} (I : Inv X pins σ H s) (ha : H a = some (TxO X.w a S n)) : TxR X.w s.heap a S n := (I.hok a _ ha).1
theorem vals_strs : ∀ {xs : List Str} {us : List Value}, Vals (xs.map V.str) us → StrsAre us xs
  | [], _, .nil => .nil
  | _ :: _, _, .cons ⟨_, e⟩ t => by
    rw [e]
    exact .cons _ _ (vals_strs t)
theorem strs_vals : ∀ {us : List Value} {xs : List Str}, StrsAre us xs → Vals (xs.map V.str) us
  | _, _, .nil => .nil
  | _, _, .cons x t h => .cons ⟨t, rfl⟩ (strs_vals h)
/-- set(t) of a tuple of texts -/
def rSetTx (K : PySem.W.Frag) (w : World) : List V → Hp → VK → Prop := fun vs H Q => ∃ (l : Addr) (xs : List Str), vs = [V.ref l] ∧ SqT K H l (xs.map V.str) ∧ xs.length + 1 < scanBound ∧
  ∀ (a : Addr) (n : Nat), H a = none → n ≤ xs.length → Q (.ref a) (upd H a (TxO w a (fun j => decide (j ∈ xs)) n))
theorem cr_setTx (hc : X.calm = true) : CallR X (.type "set") (rSetTx X.K X.w) := by
  intro pins s σ H vs us Q I r h
  obtain ⟨l, xs, rfl, hl, hb, q⟩ := h
  rw [Vals.ref1 r]
  obtain ⟨its, rv, ht, hz⟩ := I.tuple hl
  have hs := vals_strs rv
  have hlen : its.toArray.size = xs.length := by
    rw [List.size_toArray, ← rv.length, List.length_map]
  refine tset_call xs (I.ok.hd hc) ht hlen (fun i v hv => ?_) hb fun h' tk c hS hcl hk => ?_
  · obtain ⟨y, t, e, hy⟩ := hs.item i v (by simpa using hv)
    exact ⟨y, t, hy, e⟩
  · have hn : H s.heap.objs.size = none := I.hok.fresh (Nat.le_refl _)
    exact ⟨.ref _, upd H s.heap.objs.size (TxO X.w s.heap.objs.size (fun j => decide (j ∈ xs)) c), I.laid (t' := tk) hk (Nat.le_refl _) (txO_new hS), rfl, q _ _ hn hcl⟩
/-- sorted(found) of a set of texts -/
def rSortTx (w : World) : List V → Hp → VK → Prop := fun vs H Q => ∃ (a : Addr) (S : Str → Bool) (n : Nat), vs = [V.ref a] ∧ H a = some (TxO w a S n) ∧ n ≤ sizeLine ∧
  ∀ (ss : List Str) (p : Addr), sortedS ss = true → ss.Nodup → (∀ k, k ∈ ss ↔ S k = true) → ss.length = n → H p = none → Q (.ref p) (upd H p (.lst (ss.map V.str)))
theorem cr_sortTx (hc : X.calm = true) : CallR X (.builtin "sorted") (rSortTx X.w) := by
  intro pins s σ H vs us Q I r h
  obtain ⟨a, S, n, rfl, ha, hz, q⟩ := h
  have R := txO_get I ha
  rw [Vals.ref1 r]
  refine tset_sorted R (I.ok.hd hc) hz fun s' p out c ss k g o hp hg hi hs hnd hm hl => ?_
  have hlen : (ss.map V.str).length ≤ sizeLine := by rw [List.length_map, hl]; exact hz
  have hn : H p = none := I.hok.fresh hp
  have J : Inv X pins σ (upd H p (.lst (ss.map V.str))) { s with heap := s'.heap, gens := s'.gens, drawn := s'.drawn, toks := s'.toks } :=
    I.call (ch := []) (Un.laid k hp hn) (I.hok.laid k hp ⟨hlen, out.toList, c, strs_vals hi, hg⟩) (by rw [g]; exact I.bare) (fun _ z => nomatch z)
  have e : s' = { s with heap := s'.heap, gens := s'.gens, drawn := s'.drawn, toks := s'.toks } := by
    cases s'
    cases s
    cases o
    rfl
  rw [e]
  exact ⟨.ref p, _, J, rfl, q ss p hs hnd hm hl hn⟩
end
end Fh
/-! Operators, membership and truth by methods of an own class. -/
namespace Fh
open PySem PySem.Spec PyProof.Rows L2 PySem.W

theorem relV_not {v : V} {u : Value} (r : RelV v u) : u ≠ .notImplemented := by
  intro e
  subst e
  cases v with
  | non => cases r
  | bl b => cases r
  | int i => obtain ⟨t, e⟩ := r; cases e
  | str x => obtain ⟨t, e⟩ := r; cases e
  | byt b => obtain ⟨t, e⟩ := r; cases e
  | flt b => obtain ⟨t, e⟩ := r; cases e
  | ref a => cases r
  | ty n => cases r

section
variable {prog : Program} {w : World} {A : Around} {E : Value → Shared → Prop} {s : Shared} {K : Frag} {x C f : Addr} {ox : Obj} {od : Option Obj}
/-- what comes of a method that answers -/
def NotNI (Q : Value → Shared → Prop) (v : Value) (s' : Shared) : Prop := v ≠ .notImplemented ∧ Q v s'
theorem try_own {M : Model} {Q : Value → Shared → Prop} {name : Str} {b : Value} (X : K.In s.heap) (I : InstAt s.heap x ox C od) (hs : findIn K (.ref C) name = some (some (.ref f))) (hf : isFn K (.ref f) = true)
    (h : wpAny M A (call (.ref f) [.ref x, b]) (NotNI Q) E s) : wpAny M A (tryMethod (.ref x) name b) (fun r s' => ∃ v, r = some v ∧ Q v s') E s := by
  unfold tryMethod
  refine wpAny_bind (special_fn X I hs (beq_iff_eq.mp hf) (wpAny_mono h (fun v s' hv => ?_) fun _ _ e => e))
  obtain ⟨hn, hv⟩ := hv
  cases v <;> first | exact absurd rfl hn | exact wpAny_pure ⟨_, rfl, hv⟩
/-- a op b, both of the class at C -/
theorem bin_same {op : Operator} {b : Value} {Q : Value → Shared → Prop} (X : K.In s.heap) (I : InstAt s.heap x ox C od) (hb : Looks (model prog w) s.heap (typeOf b) (.ref C)) (hc : selfFirst K C = true)
    (hs : findIn K (.ref C) (PySem.dunder op.info.2) = some (some (.ref f))) (hf : isFn K (.ref f) = true)
    (h : wpAny (model prog w) A (call (.ref f) [.ref x, b]) (NotNI Q) E s) : wpAny (model prog w) A (binaryOp op (.ref x) b) Q E s := by
  obtain ⟨cd, rest, hcd, hm⟩ := ksp_first hc
  have one := try_own X I hs hf h
  unfold binaryOp
  refine wpAny_holding (wpAny_bind ?_)
  unfold binaryOp1
  refine wpAny_bind (I.type.here (wpAny_bind (hb.here (wpAny_bind ((fills_K X hcd hm hs).here ?_)))))
  simp only [beq_self_eq_true, if_true]
  refine wpAny_bind (wpAny_pure ?_)
  simp only [Bool.and_false, Bool.false_eq_true, if_false, Bool.false_and]
  refine wpAny_bind (wpAny_pure ?_)
  simp only [Bool.false_eq_true, if_false]
  refine wpAny_bind (m := tryMethod (.ref x) _ b) (wpAny_mono one (fun r s' hr => ?_) fun _ _ e => e)
  obtain ⟨v, rfl, q⟩ := hr
  exact wpAny_pure (wpAny_pure q)
/-- the class fills the slot by its reflected method -/
theorem fills_right {M : Model} {h : Heap} {nm : String} {cd : ClassData} {rest : List Value} (X : K.In h) (hc : clsIn K C = some cd) (hm : cd.mro = .ref C :: rest)
    (hn : findIn K (.ref C) (PySem.dunder nm) = some none) (hs : findIn K (.ref C) (dunderR nm) = some (some (.ref f))) : Looks M h (fillsNumberSlot (.ref C) nm) true := by
  intro A Q E s k q
  unfold fillsNumberSlot
  refine wpAny_bind ((looks_clsIn X hc).andThen (f := fun cd => pure cd.mro) .now A _ E s k ?_)
  rw [hm, List.anyM_cons]
  refine wpAny_bind ?_
  show wpAny M A (List.anyM _ [PySem.dunder nm, dunderR nm]) _ _ _
  rw [List.anyM_cons]
  refine wpAny_bind (wpAny_bind (looks_findIn X hn A _ E s k ?_))
  refine wpAny_pure ?_
  simp only [Bool.false_eq_true, if_false]
  rw [List.anyM_cons]
  refine wpAny_bind (wpAny_bind (looks_findIn X hs A _ E s k ?_))
  dsimp only
  rw [if_pos (show (!ownNameWrapper (.ref f) (dunderR nm)) = true from rfl)]
  refine wpAny_pure ?_
  simp only [if_true]
  refine wpAny_pure ?_
  simp only [if_true]
  exact wpAny_pure q
/-- a op b, a of a built-in type that knows nothing of op, b of the class at C -/
theorem bin_right {op : Operator} {a : Value} {T : String} {Q : Value → Shared → Prop} (X : K.In s.heap) (I : InstAt s.heap x ox C od) (ha : Looks (model prog w) s.heap (typeOf a) (.type T)) (hc : selfFirst K C = true)
    (hT : Looks (model prog w) s.heap (fillsNumberSlot (.type T) op.info.2) false)
    (hn : findIn K (.ref C) (PySem.dunder op.info.2) = some none) (hs : findIn K (.ref C) (dunderR op.info.2) = some (some (.ref f))) (hf : isFn K (.ref f) = true)
    (h : wpAny (model prog w) A (call (.ref f) [.ref x, a]) (NotNI Q) E s) : wpAny (model prog w) A (binaryOp op a (.ref x)) Q E s := by
  obtain ⟨cd, rest, hcd, hm⟩ := ksp_first hc
  have one := try_own X I hs hf h
  have hne : (Value.type T == Value.ref C) = false := Bool.eq_false_iff.mpr fun q => by cases beq_iff_eq.mp q
  unfold binaryOp
  refine wpAny_holding (wpAny_bind ?_)
  unfold binaryOp1
  refine wpAny_bind (ha.here (wpAny_bind (I.type.here (wpAny_bind (hT.here ?_)))))
  simp only [hne, Bool.false_eq_true, if_false]
  refine wpAny_bind ((fills_right X hcd hm hn hs).here ?_)
  simp only [Bool.false_and, Bool.and_false, Bool.false_eq_true, if_false]
  refine wpAny_bind (wpAny_pure ?_)
  simp only [Bool.false_eq_true, if_false, Bool.not_false, Bool.and_self, if_true]
  refine wpAny_bind (m := tryMethod (.ref x) _ a) (wpAny_mono one (fun r s' hr => ?_) fun _ _ e => e)
  obtain ⟨v, rfl, q⟩ := hr
  exact wpAny_bind (wpAny_rule (wpAny_pure (wpAny_pure q)))
/-- v in x by the class's own method -/
theorem has_own {M : Model} {v : Value} {Q : Bool → Shared → Prop} (X : K.In s.heap) (I : InstAt s.heap x ox C od) (hs : findIn K (.ref C) "__contains__" = some (some (.ref f))) (hf : isFn K (.ref f) = true)
    (h : wpAny M A (call (.ref f) [.ref x, v]) (fun r s' => wpAny M A (truthy r) Q E s') E s) : wpAny M A (contains (.ref x) v) Q E s := by
  unfold contains
  refine wpAny_holding (wpAny_bind (wpAny_bind (I.type.here ((looks_findIn X hs).here ?_))))
  rw [if_neg (by simp)]
  exact wpAny_bind (unlessNone_K X I hs hf h)
/-- the truth of x by the class's own method -/
theorem true_own {M : Model} {Q : Bool → Shared → Prop} (X : K.In s.heap) (I : InstAt s.heap x ox C od) (hs : findIn K (.ref C) "__bool__" = some (some (.ref f))) (hf : isFn K (.ref f) = true)
    (h : wpAny M A (call (.ref f) [.ref x]) (PySem.W.BoolBack Q) E s) : wpAny M A (truthy (.ref x)) Q E s := by
  unfold truthy
  refine wpAny_bind (m := callSpecial? (.ref x) (Str.ofString "__bool__")) (special_fn X I hs (beq_iff_eq.mp hf) (wpAny_mono h (fun r s' hr => ?_) fun _ _ y => y))
  cases r <;> first | exact hr.elim | skip
  exact wpAny_pure hr
end

section
variable {X : Cx} {CX : CXT} {k : Nat} {f C : Addr} {fd : FuncData} {ps : List Str} {sp : Sp} {E : XK}
theorem inst_at {pins : List (Addr × Obj)} {σ : L2.St} {H : Hp} {s : Shared} {a dx : Addr} {fs : List (Str × V)} (I : L2.Inv X pins σ H s) (ea : H a = some (.ins C dx fs)) : ∃ od, InstAt s.heap a (instObj C dx) C (some od) := by
  obtain ⟨mA, O, _, _, _, _⟩ := ins_get I.hok ea
  obtain ⟨od, J, _⟩ := O.look
  exact ⟨od, J⟩
/-- x op y of two instances of C -/
def rBin (C : Addr) (sp : Sp) (E : XK) : R2 := fun x y H Q => ∃ a b dx fs dy gs, x = .ref a ∧ y = .ref b ∧ H a = some (.ins C dx fs) ∧ H b = some (.ins C dy gs) ∧ sp [x, y] H Q E
theorem op_own {op : Operator} (hc : selfFirst X.K C = true) (hm : Meth X.K C (PySem.dunder op.info.2) f) (F : FnOk X.prog X.w X.K X.mg X.base CX k f fd ps sp) (hr : Room k X.A) (hb : Binds X.K fd ps []) (hx : Passes CX X E) :
    OpR X (binaryOp op) (rBin C sp E) := by
  intro pins s σ H x y v u Q I rx ry h
  obtain ⟨a, b, dx, fs, dy, gs, rfl, rfl, ea, eb, q⟩ := h
  obtain rfl : v = Value.ref a := rx
  obtain rfl : u = Value.ref b := ry
  obtain ⟨od, J⟩ := inst_at I ea
  obtain ⟨od2, J2⟩ := inst_at I eb
  refine bin_same I.kIn J J2.type hc hm.at_ hm.fn (wpAny_mono (run_fn (us := [.ref a, .ref b]) (vs := [.ref a, .ref b]) F hr hb .nil hx I (.cons rfl (.cons rfl .nil)) q) (fun r s' hr => ⟨?_, hr⟩) fun _ _ z => z)
  obtain ⟨v, H', _, rv, _⟩ := hr
  exact relV_not rv
/-- s op y, s a text, y an instance of C -/
def rRef (C : Addr) (sp : Sp) (E : XK) : R2 := fun x y H Q => ∃ z b dx fs, x = .str z ∧ y = .ref b ∧ H b = some (.ins C dx fs) ∧ sp [y, x] H Q E
theorem op_ref {op : Operator} (hc : selfFirst X.K C = true) (hT : fillsNumberSlot (.type "str") op.info.2 = pure false) (hn : NoAttr X.K C (PySem.dunder op.info.2)) (hm : Meth X.K C (dunderR op.info.2) f)
    (F : FnOk X.prog X.w X.K X.mg X.base CX k f fd ps sp) (hr : Room k X.A) (hb : Binds X.K fd ps []) (hx : Passes CX X E) : OpR X (binaryOp op) (rRef C sp E) := by
  intro pins s σ H x y v u Q I rx ry h
  obtain ⟨z, b, dx, fs, rfl, rfl, eb, q⟩ := h
  have rx' : RelV (.str z) v := rx
  obtain ⟨t, e⟩ := rx
  subst e
  obtain rfl : u = Value.ref b := ry
  obtain ⟨od, J⟩ := inst_at I eb
  refine bin_right (T := "str") I.kIn J (Looks.of_pure rfl) hc (Looks.of_pure hT) hn hm.at_ hm.fn (wpAny_mono (run_fn (us := [.ref b, .str z t]) (vs := [.ref b, .str z]) F hr hb .nil hx I (.cons rfl (.cons rx' .nil)) q) (fun r s' hr => ⟨?_, hr⟩) fun _ _ z => z)
  obtain ⟨v, H', _, rv, _⟩ := hr
  exact relV_not rv
/-- v in y, v not in y, y an instance of C whose method gives a truth value -/
def rHas (C : Addr) (sp : Sp) (E : XK) (g : Bool → Bool) : R2 := fun x y H Q => ∃ b dx fs, y = .ref b ∧ H b = some (.ins C dx fs) ∧ sp [y, x] H (fun r H' => ∃ c, r = .bl c ∧ Q (.bl (g c)) H') E
theorem has_run {pins : List (Addr × Obj)} {σ : L2.St} {H : Hp} {s : Shared} {b dx : Addr} {fs : List (Str × V)} {x : V} {v : Value} {R : Bool → Hp → Prop} (hm : Meth X.K C "__contains__" f) (F : FnOk X.prog X.w X.K X.mg X.base CX k f fd ps sp) (hr : Room k X.A) (hb : Binds X.K fd ps []) (hx : Passes CX X E)
    (I : L2.Inv X pins σ H s) (eb : H b = some (.ins C dx fs)) (rx : RelV x v) (q : sp [.ref b, x] H (fun r H' => ∃ c, r = .bl c ∧ R c H') E) :
    wpAny (model X.prog X.w) X.A (contains (.ref b) v) (fun c s' => ∃ H', L2.Inv X pins σ H' s' ∧ R c H') X.xe s := by
  obtain ⟨od, J⟩ := inst_at I eb
  refine has_own I.kIn J hm.at_ hm.fn (wpAny_mono (run_fn (us := [.ref b, v]) (vs := [.ref b, x]) F hr hb .nil hx I (.cons rfl (.cons rx .nil)) q) (fun r s' hq => ?_) fun _ _ z => z)
  obtain ⟨r0, H', I', rv, hq⟩ := hq
  obtain ⟨c, e, hR⟩ := hq
  subst e
  obtain rfl : r = Value.bool c := rv
  exact wpAny_truthy_bool ⟨H', I', hR⟩
theorem op_has (hm : Meth X.K C "__contains__" f) (F : FnOk X.prog X.w X.K X.mg X.base CX k f fd ps sp) (hr : Room k X.A) (hb : Binds X.K fd ps []) (hx : Passes CX X E) : OpR X (compareOp .In) (rHas C sp E id) := by
  intro pins s σ H x y v u Q I rx ry h
  obtain ⟨b, dx, fs, rfl, eb, q⟩ := h
  obtain rfl : u = Value.ref b := ry
  refine wpAny_bind (wpAny_mono (has_run hm F hr hb hx I eb rx q) (fun c s' hq => ?_) fun _ _ z => z)
  obtain ⟨H', I', hR⟩ := hq
  exact wpAny_pure ⟨.bl c, H', I', rfl, hR⟩
theorem op_hasnt (hm : Meth X.K C "__contains__" f) (F : FnOk X.prog X.w X.K X.mg X.base CX k f fd ps sp) (hr : Room k X.A) (hb : Binds X.K fd ps []) (hx : Passes CX X E) : OpR X (compareOp .NotIn) (rHas C sp E (!·)) := by
  intro pins s σ H x y v u Q I rx ry h
  obtain ⟨b, dx, fs, rfl, eb, q⟩ := h
  obtain rfl : u = Value.ref b := ry
  refine wpAny_bind (wpAny_mono (has_run hm F hr hb hx I eb rx q) (fun c s' hq => ?_) fun _ _ z => z)
  obtain ⟨H', I', hR⟩ := hq
  exact wpAny_pure ⟨.bl (!c), H', I', rfl, hR⟩
/-- the truth of y, an instance of C -/
def rTru (C : Addr) (sp : Sp) (E : XK) : V → Hp → (Bool → Hp → Prop) → Prop := fun x H Q => ∃ b dx fs, x = .ref b ∧ H b = some (.ins C dx fs) ∧ sp [x] H (fun r H' => ∃ c, r = .bl c ∧ Q c H') E
/-- the callee runs somewhere within a built-in's call -/
theorem run_in {A : Around} {pins : List (Addr × Obj)} {σ : L2.St} {H : Hp} {s : Shared} {Q : VK} {us : List Value} {vs : List V} (F : FnOk X.prog X.w X.K X.mg X.base CX k f fd ps sp) (hr : Room k A) (hA : ∀ {s H}, Env0 X.prog X.w X.K X.mg X.base X.A X.stack s H → Env0 X.prog X.w X.K X.mg X.base A X.stack s H)
    (hb : Binds X.K fd ps []) (hx : Passes CX X E) (I : L2.Inv X pins σ H s) (r : Vals vs us) (h : sp vs H Q E) : wpAny (model X.prog X.w) A (call (.ref f) us) (EP X pins σ Q) X.xe s := by
  have hl : us.length = ps.length := by rw [← r.length]; exact F.len _ _ _ _ h
  have hb' := hb s us I.kIn (by simpa using hl)
  rw [List.append_nil] at hb'
  refine wpAny_call (codeAny_mono (F.run A X.stack s H ⟨us, []⟩ us vs Q E hr (hA I.env0) hb' r h) fun r s' hq => ?_)
  cases r with
  | error e => exact hx pins σ H s e s' I hq
  | ok fl =>
    cases fl with
    | ret u => exact I.after hq
    | next => exact False.elim hq
    | brk => exact False.elim hq
    | cont => exact False.elim hq
theorem tru_run {A : Around} {pins : List (Addr × Obj)} {σ : L2.St} {H : Hp} {s : Shared} {b dx : Addr} {fs : List (Str × V)} {R : Bool → Hp → Prop} (hm : Meth X.K C "__bool__" f) (F : FnOk X.prog X.w X.K X.mg X.base CX k f fd ps sp) (hr : Room k A)
    (hA : ∀ {s H}, Env0 X.prog X.w X.K X.mg X.base X.A X.stack s H → Env0 X.prog X.w X.K X.mg X.base A X.stack s H) (hb : Binds X.K fd ps []) (hx : Passes CX X E)
    (I : L2.Inv X pins σ H s) (eb : H b = some (.ins C dx fs)) (q : sp [.ref b] H (fun r H' => ∃ c, r = .bl c ∧ R c H') E) :
    wpAny (model X.prog X.w) A (truthy (.ref b)) (fun c s' => ∃ H', L2.Inv X pins σ H' s' ∧ R c H') X.xe s := by
  obtain ⟨od, J⟩ := inst_at I eb
  refine true_own I.kIn J hm.at_ hm.fn (wpAny_mono (run_in (us := [.ref b]) (vs := [.ref b]) F hr hA hb hx I (.cons rfl .nil) q) (fun r s' hq => ?_) fun _ _ z => z)
  obtain ⟨r0, H', I', rv, hq⟩ := hq
  obtain ⟨c, e, hR⟩ := hq
  subst e
  obtain rfl : r = Value.bool c := rv
  exact ⟨H', I', hR⟩
theorem tru_own (hm : Meth X.K C "__bool__" f) (F : FnOk X.prog X.w X.K X.mg X.base CX k f fd ps sp) (hr : Room k X.A) (hb : Binds X.K fd ps []) (hx : Passes CX X E) : TruR X (rTru C sp E) := by
  intro pins s σ H x v Q I rx h
  obtain ⟨b, dx, fs, rfl, eb, q⟩ := h
  obtain rfl : v = Value.ref b := rx
  exact tru_run hm F hr (fun z => z) hb hx I eb q
end
end Fh
/-! bool(..) of tuples and of own instances; C.m() of a classmethod; a call of a local name that holds a class. -/
namespace Fh
open PySem PySem.Spec PyProof.Rows L2 PySem.W
theorem bool_meets {prog : Program} {w : World} (x : Value) : MeetsIn prog w (Builtin.«bool.__new__» ⟨[.type "bool", x], []⟩)
    (fun A R s => wpAny (model prog w) A.in1 (truthy x) (fun b s' => R (.ok (.ret (.bool b))) s') (fun e s' => R (.error e) s') s) :=
  .of_wp fun A R s h => by
    have f1 := PySem.F.conv_sub_bool
    obtain ⟨hp, g, d, tk, os⟩ := s
    repeat (any_goals (first | assumption | wp_step))
    all_goals exact wpAny_mono h (fun b s' hb => wpAny_pure ⟨_, rfl, hb⟩) (fun _ _ z => z)
theorem call_bool_by {prog : Program} {w : World} {A : Around} {E : Value → Shared → Prop} {s : Shared} {x : Value} {Q : Value → Shared → Prop}
    (h : wpAny (model prog w) A.in1.in1 (truthy x) (fun b s' => Q (.bool b) s') E s) : wpAny (model prog w) A (call (.type "bool") [x]) Q E s :=
  callType_newIn F.called_bool F.newNe_bool (F.typeCall_bool_1 x) (F.newCall_bool_1 x) (fun obj => F.args_object_init_2 obj x) F.entry_bool_new (bool_meets x)
    (wpAny_mono h (fun b s' hb => ⟨rfl, hb⟩) fun _ _ z => z)
section
variable {X : Cx} {CX : CXT} {k : Nat} {f C : Addr} {fd : FuncData} {ps : List Str} {sp : Sp} {E : XK}
/-- bool(t) of a tuple -/
theorem call_boolT : CallR X (.type "bool") (fun xs H Q => ∃ (a : Addr) (zs : List V), xs = [.ref a] ∧ SqT X.K H a zs ∧ Q (.bl (!zs.isEmpty)) H) := by
  intro pins s σ H xs us Q I r h
  obtain ⟨a, zs, rfl, hq, q⟩ := h
  obtain rfl := Vals.ref1 r
  obtain ⟨its, rv, pl, hz⟩ := I.tuple hq
  have hl := line63
  have hlen := rv.length
  refine call_bool_by (truthy_tuple pl (by simp only [List.size_toArray]; omega) ?_)
  exact ⟨.bl (!zs.isEmpty), H, I.tok _, by rw [isEmpty_of rv]; rfl, q⟩
/-- bool(o) of an instance of C by its own method -/
def rBoolO (C : Addr) (sp : Sp) (E : XK) : List V → Hp → VK → Prop := fun xs H Q => ∃ b dx fs, xs = [.ref b] ∧ H b = some (.ins C dx fs) ∧ sp [.ref b] H (fun r H' => ∃ c, r = .bl c ∧ Q (.bl c) H') E
theorem call_boolO (hm : Meth X.K C "__bool__" f) (F : FnOk X.prog X.w X.K X.mg X.base CX k f fd ps sp) (hr : Room (k + 2) X.A) (hb : Binds X.K fd ps []) (hx : Passes CX X E) : CallR X (.type "bool") (rBoolO C sp E) := by
  intro pins s σ H xs us Q I r h
  obtain ⟨b, dx, fs, rfl, eb, q⟩ := h
  obtain rfl := Vals.ref1 r
  refine call_bool_by (wpAny_mono (tru_run (A := X.A.in1.in1) hm F hr.in1.in1 (fun z => z.in1.in1) hb hx I eb q) (fun c s' hq => ?_) fun _ _ z => z)
  obtain ⟨H', I', hR⟩ := hq
  exact ⟨.bl c, H', I', rfl, hR⟩
end
section
variable {X : Cx} {CX : CXT} {k i : Nat} {C p g f : Addr} {mc : Value} {sp : Sp} {E : XK} {o e : Expr} {es : List Expr} {x m : Str} {q pos apos : Pos} {ta : TE} {t : TA} {pl : Sem Bool} {fd : FuncData} {ps : List Str}
/-- C.m() of a classmethod m -/
theorem pe_cmeth0 (he : PE X o ta) (r : ClX.CRead X.K C mc) (c : ClX.CMet X.K C mc m p g) (F : FnR X.prog X.w X.K X.mg X.base CX k g sp) (hr : Room k X.A) (hx : Passes CX X E)
    (ht : eval (.Call (.Attribute o m apos) [] [] pos) X.env = (do
      let ov ← eval o X.env
      standAt apos.atName
      let (f, first) ← holding [ov] (getMethod ov m pl)
      callWith pos f first (backTo pos (starEach [] X.env)) (backToKw pos (keywordEach [] X.env))) := by rfl) :
    PE X (.Call (.Attribute o m apos) [] [] pos) (ClX.tCMeth C sp E ta tNil) := by
  refine ⟨fun pins s σ H Q I h => ?_⟩
  refine PySem.W.methodCall_KW (pl := pl) (thn (he.run pins s σ H _ I h) fun u s1 ⟨x, H1, I1, rx, ex, q⟩ => ?_) ht
  subst ex
  obtain rfl : u = Value.ref C := rx
  refine ClX.getmethcm_ok I1 r c fun s2 I2 => ?_
  exact PySem.W.callWith_M0 ⟨ClX.pin_at I2, I2.kIn⟩ c.fi (ClX.run_cm F hr hx I2 .nil q)
/-- the i-th slot holds the class at C, which is called -/
def tMakeL (i : Nat) (C : Addr) (sp : Sp) (E : XK) (t : TA) : TE := fun σ H Q => σ[i]? = some (some (.ref C)) ∧ t σ H fun vs H1 => ∀ x dx, H1 x = none → H1 dx = none → dx ≠ x →
  sp (.ref x :: vs) (upd (upd H1 dx (.own x)) x (.ins C dx [])) (fun v H2 => v = .non ∧ Q (.ref x) H2) E
theorem pe_makeL (M : Mk X.K C f) (F : FnOk X.prog X.w X.K X.mg X.base CX k f fd ps sp) (hr : Room (k + 1) X.A) (hN : X.N[i]? = some x) (hv : Vis X.env.scope x) (hb : Binds X.K fd ps []) (hx : Passes CX X E) (ha : PA X (e :: es) t)
    (hdb : (x == ("__debug__" : Str)) = false := by decide) (hcd : (x == ("__classdict__" : Str)) = false := by decide)
    (he : starEach (e :: es) X.env = (false, eval e X.env) :: starEach es X.env := by rfl) (hpl : (backTo pos (starEach es X.env)).any (·.1) = false := by rfl) : PE X (.Call (.Name x q) (e :: es) [] pos) (tMakeL i C sp E t) := by
  refine ⟨fun pins s σ H Q I h => ?_⟩
  obtain ⟨hs, ht⟩ := h
  refine wpAny_Call_Name_kw (thn ((pe_var (pos := q) hN hv hdb hcd).run pins s σ H (fun v H1 => v = .ref C ∧ H1 = H) I ⟨.ref C, hs, rfl, rfl⟩) fun u s1 ⟨v, H1, I1, r1, q1⟩ => ?_)
  obtain ⟨rfl, rfl⟩ := q1
  cases r1
  refine PySem.W.callWith_K (h₀ := X.base) I.ok.mod.kin M.kp (thn (ha.run pos pins s1 σ _ _ I1 ht) fun us s2 ⟨vs, H2, I2, r, q⟩ => ⟨I2.kIn, ?_⟩) he hpl
  exact run_make M F hr hb .nil hx I2 r (fun x dx h1 h2 h3 => by
    rw [List.append_nil]
    exact q x dx h1 h2 h3)
end
end Fh
/-! for i, x in enumerate(t), t a tuple. -/
namespace Fh
open PySem PySem.Spec PyProof.Rows L2
open AutoSeq1 (wpAny_loadPart')
theorem enum_tup_meets (l : Addr) (items : Array Value) (n : Nat) (dct : Option Addr) (sl : Array (Option Value)) :
    Meets (Builtin.«enumerate.__new__» ⟨[.type "enumerate", .ref l], []⟩) (fun _ R s => s.heap.get? l = some { cls := .type "tuple", dict := dct, data := .seq items n, slots := sl } ∧
      R (.ok (.ret (.ref (s.heap.push { cls := .type "tuple_iterator", data := .fields #[.ref l, .int 0 0] }).objs.size)))
        { s with heap := (s.heap.push { cls := .type "tuple_iterator", data := .fields #[.ref l, .int 0 0] }).push { cls := .type "enumerate", data := .fields #[.none, .bool false, .ref s.heap.objs.size, rawInt 0, .none, .none] } }) :=
  .of_wp fun prog w A R s h => by
    obtain ⟨hp, g, d, tk, os⟩ := s; obtain ⟨hl, h⟩ := h
    have hsub := sub_enumerate
    have hL : Heap.IsTuple (Shared.heap ⟨hp, g, d, tk, os⟩) l items := ⟨_, hl, rfl, n, rfl⟩
    wp_walk using wpAny_loadPart' hl
    refine wpAny_stack_any fun st => wpAny_pure ?_
    split
    · rename_i c _ _ _ _ _
      cases (c == Value.type "enumerate")
      · wp_walk using wpAny_loadPart' hl, wpAny_pyIter_tuple hL
        exact ⟨_, rfl, h⟩
      · wp_walk using wpAny_loadPart' hl, wpAny_pyIter_tuple hL
        exact ⟨_, rfl, h⟩
    · wp_walk using wpAny_loadPart' hl, wpAny_pyIter_tuple hL
      exact ⟨_, rfl, h⟩
theorem call_enum_tup {prog : Program} {w : World} {A : Around} {E : Value → Shared → Prop} {s : Shared} {l : Addr} {items : Array Value} {Q : Value → Shared → Prop} (hL : s.heap.IsTuple l items)
    (h : ∀ h', IsEnum h' (s.heap.objs.size + 1) s.heap.objs.size 0 .none → h'.IsTupleIter s.heap.objs.size l 0 → h'.objs.size = s.heap.objs.size + 2 →
      (∀ b o, s.heap.get? b = some o → h'.get? b = some o) → Q (.ref (s.heap.objs.size + 1)) { s with heap := h' }) :
    wpAny (model prog w) A (call (.type "enumerate") [.ref l]) Q E s := by
  obtain ⟨⟨c, dct, dt, sl⟩, hl, hc, n, hd⟩ := hL
  replace hc : c = .type "tuple" := hc
  replace hd : dt = .seq items n := hd
  subst hc hd
  refine callType_new F.called_enumerate (by decide) (F.typeCall_enumerate_1 _) (F.newCall_enumerate_1 _) (fun obj => F.args_object_init_2 obj _) F.entry_enumerate_new
    (enum_tup_meets l items n dct sl) ⟨hl, ?_⟩
  have hz : (s.heap.push { cls := .type "tuple_iterator", data := .fields #[.ref l, .int 0 0] }).objs.size = s.heap.objs.size + 1 := Heap.size_push ..
  show _ ∧ _
  rw [hz]
  have he : IsEnum ((s.heap.push { cls := .type "tuple_iterator", data := .fields #[.ref l, .int 0 0] }).push
      { cls := .type "enumerate", data := .fields #[.none, .bool false, .ref s.heap.objs.size, rawInt 0, .none, .none] }) (s.heap.objs.size + 1) s.heap.objs.size 0 .none := by
    have := Heap.get?_push_size (s.heap.push { cls := .type "tuple_iterator", data := .fields #[.ref l, .int 0 0] })
      (o := { cls := .type "enumerate", data := .fields #[.none, .bool false, .ref s.heap.objs.size, rawInt 0, .none, .none] }) rfl
    rw [hz] at this; exact this
  refine ⟨⟨_, he, rfl⟩, h _ he ⟨_, Heap.get?_push_of_some _ (Heap.get?_push_size _ rfl), rfl, rfl⟩ (by rw [Heap.size_push, hz]) fun b o x => Heap.get?_push_of_some _ (Heap.get?_push_of_some _ x)⟩

/-- the tuple xs at a, each item in a new pair with its place -/
def Itet (K : PySem.W.Frag) (a : Addr) (xs : List V) : It :=
  ⟨fun i H => i < xs.length ∧ SqT K H a xs, fun i H v H' => ∃ T x, v = .ref T ∧ H T = none ∧ H' = upd H T (.tup [.int (i : Nat), x]) ∧ xs[i]? = some x, fun i H => SqT K H a xs ∧ xs.length ≤ i⟩
theorem turn_enumT {P : Program} {w : World} {K : PySem.W.Frag} {elts : List Expr} {kk : Nat} {tpos : Pos} (a e it : Addr) (xs : List V) (hae : a ≠ e) (hai : a ≠ it) :
    Turn P w K (.Tuple elts kk tpos) (Itet K a xs) [e, it] e (fun i h => i ≤ xs.length ∧ (∃ old, IsEnum h e it ((i : Nat) : Int) old) ∧ h.IsTupleIter it a i ∧ e ≠ it) where
  mem := by simp
  obj := fun i h st b hb => by
    obtain ⟨_, ⟨old, he⟩, ⟨o, ho, hc, hd⟩, _⟩ := st
    have e' : b = e ∨ b = it := by simpa using hb
    rcases e' with z | z
    · rw [z]; exact ⟨_, he, fun v q => nomatch q⟩
    · rw [z]; exact ⟨o, ho, fun v q => by rw [hd] at q; cases q⟩
  keep := fun i h h' st k => let ⟨hi0, ⟨old, he⟩, hi, hne⟩ := st; ⟨hi0, ⟨old, k e (by simp) _ he⟩, hi.at fun o q => k it (by simp) o q, hne⟩
  item := by
    intro X hP hw hK hc i pins s σ H E I hf st hg
    subst hP hw hK
    obtain ⟨hi0, ⟨old, he⟩, hit, hne⟩ := st
    obtain ⟨hi, hq⟩ := hg
    obtain ⟨its, rv, p, hz⟩ := I.tuple hq
    have hx : xs[i]? = some xs[i] := List.getElem?_eq_getElem hi
    obtain ⟨u, hu, ru⟩ := rv.get hx
    have hsz : its.toArray.size = xs.length := by rw [List.size_toArray]; exact rv.length.symm
    have hel : e < s.heap.objs.size := Heap.lt_size he
    have hil : it < s.heap.objs.size := by obtain ⟨_, q, _⟩ := hit; exact Heap.lt_size q
    have hh : X.A.in1.handled = none := I.ok.hd hc
    refine wpAny_pyNext_enum_itemD (Draws.tuple hh it a hai its.toArray) he ⟨hit, p⟩ (by rw [hsz]; exact hi) hne (by simp; exact ⟨hne, Ne.symm hae⟩) fun x h' tk hPx ho hst' hT hs2 hk => ?_
    obtain rfl : u = x := by
      have h1 : its.toArray[i]? = some u := by simpa using hu
      rw [h1] at hPx
      exact Option.some.inj hPx
    refine ⟨_, rfl, wpAny_letOwnedTupleGo_enum (s := { s with heap := h', toks := tk + 1 }) ho fun h'' he' sb => ?_⟩
    have hT2 : h''.get? s.heap.objs.size = some { cls := .type "tuple", data := .seq #[.int i tk, u] } := (sb.2 _ (Nat.ne_of_gt hel)).trans hT
    have new : ObjOk X.prog X.w (upd H s.heap.objs.size (.tup [.int (i : Nat), xs[i]])) h'' s.heap.objs.size (.tup [.int (i : Nat), xs[i]]) :=
      ⟨by show 2 ≤ sizeLine; decide, [.int i tk, u], .cons ⟨_, rfl⟩ (.cons ru .nil), ⟨_, hT2, rfl, _, rfl⟩⟩
    have I1 : L2.Inv X pins σ (upd H s.heap.objs.size (.tup [.int (i : Nat), xs[i]])) { s with heap := h'', toks := tk + 1 } :=
      I.turnedNew (ch := [e, it]) (fun b ob hb q => (sb.2 b (fun z => hb (by simp [z]))).trans (hk b ob (fun z => hb (by simp [z])) (fun z => hb (by simp [z])) q)) hf (Nat.le_refl _) new
    refine ⟨.ref s.heap.objs.size, _, I1, rfl, ⟨_, xs[i], rfl, I.hok.fresh (Nat.le_refl _), rfl, hx⟩, ⟨hi, ⟨u, ?_⟩, hst'.1.at fun o q => (sb.2 it (Ne.symm hne)).trans q, hne⟩, fun b hb => ?_⟩
    · have e1 : ((i + 1 : Nat) : Int) = (i : Int) + 1 := by omega
      rw [e1]; exact he'
    · have hb' : b < s.heap.objs.size := by
        have e' : b = e ∨ b = it := by simpa using hb
        rcases e' with z | z
        · rw [z]; exact hel
        · rw [z]; exact hil
      rw [upd_ne (Nat.ne_of_lt hb')]
      exact (hf b hb).1
  done := by
    intro X hP hw hK hc i pins s σ H E I hf st hg
    subst hP hw hK
    obtain ⟨hi0, ⟨old, he⟩, hit, hne⟩ := st
    obtain ⟨hq, hx⟩ := hg
    obtain rfl : i = xs.length := by omega
    obtain ⟨its, rv, p, hz⟩ := I.tuple hq
    obtain ⟨f0, f1, f2, f3, f4, f5⟩ := hf it (by simp)
    have hsz : its.toArray.size = xs.length := by rw [List.size_toArray]; exact rv.length.symm
    have hh : X.A.in1.handled = none := I.ok.hd hc
    rw [← hsz] at hit
    exact wpAny_pyNext_enum_endD (Draws.tuple hh it a hai its.toArray) he ⟨hit, p⟩ fun h' eb => ⟨rfl, I.turned (t' := s.toks) (fun b o hb q => eb b o hb q) f0 f1 f3 f4 f5⟩
  self := fun A i s Q E st h => let ⟨_, ⟨_, he⟩, _⟩ := st; wpAny_pyIter_enum he h
def iEnumT (K : PySem.W.Frag) (ta : TA) : TI := fun σ H R => ta σ H fun vs H1 => ∃ a xs, vs = [.ref a] ∧ SqT K H1 a xs ∧ R (Itet K a xs) H1
theorem pi_enumT {X : Cx} {e : Expr} {ta : TA} {p pos tpos : Pos} {elts : List Expr} {kk : Nat} (hg : Gl X "enumerate") (hm : X.mg "enumerate" = none) (ha : PA X [e] ta) (hs : starEach [e] X.env = [(false, eval e X.env)] := by rfl) :
    PI X (.Tuple elts kk tpos) (.Call (.Name "enumerate" p) [e] [] pos) (iEnumT X.K ta) := by
  refine ⟨fun pins s σ H R I h => ?_⟩
  refine Call_ (ld_blt I hg hm boot_enumerate (PyProof.Rows.callWith_type1 (thn (ha.run pos pins s σ H _ I h) fun us s1 ⟨vs, H1, I1, r1, q1⟩ => ?_) hs rfl))
  obtain ⟨a, xs, ex, hq, q⟩ := q1
  subst ex
  obtain rfl := Vals.ref1 r1
  obtain ⟨its, rv, p', hz⟩ := I1.tuple hq
  have hal : a < s1.heap.objs.size := p'.lt
  refine call_enum_tup p' fun h' he hit hsz hk => wpAny_pyIter_enum he ?_
  have I2 : L2.Inv X pins σ H1 { s1 with heap := h' } := I1.kept (t' := s1.toks) hk
  refine ⟨s1.heap.objs.size + 1, [s1.heap.objs.size + 1, s1.heap.objs.size], _, _, H1, rfl, I2, turn_enumT a (s1.heap.objs.size + 1) s1.heap.objs.size xs (Nat.ne_of_lt (Nat.lt_succ_of_lt hal)) (Nat.ne_of_lt hal), ⟨Nat.zero_le _, ⟨.none, he⟩, hit, Nat.succ_ne_self _⟩, fun b hb => ?_, q⟩
  have e' : b = s1.heap.objs.size + 1 ∨ b = s1.heap.objs.size := by simpa using hb
  have hle : s1.heap.objs.size ≤ b := by
    rcases e' with z | z
    · rw [z]; exact Nat.le_add_right _ _
    · rw [z]; exact Nat.le_refl _
  exact I1.fpOk hle (I1.hok.fresh hle)
theorem walk_enumT {K : PySem.W.Frag} {a : Addr} {xs : List V} : Walk (Itet K a xs) xs.length (fun H => SqT K H a xs) (YPair (fun i => some (.int (i : Nat))) (fun i => xs[i]?)) :=
  ⟨fun i H hi hG => ⟨hi, hG⟩, fun H hG => ⟨hG, Nat.le_refl _⟩, fun i H v H' hi hG ⟨T, x, e1, e2, e3, e4⟩ => ⟨T, _, x, e1, e2, e3, rfl, e4⟩⟩
end Fh
/-! Words that all laws share: the bag of draws, heaps that keep what stood. -/
namespace Fh
open PySem PySem.Spec PyProof.Rows L2
/-- the built-ins by name, none of them hidden by a name of the module -/
structure Bi (mg : Str → Option Value) : Prop where
  len : mg "len" = none
  abs : mg "abs" = none
  int : mg "int" = none
  range : mg "range" = none
  tuple : mg "tuple" = none
  sorted : mg "sorted" = none
  set : mg "set" = none
  bool : mg "bool" = none
  isinstance : mg "isinstance" = none
  all : mg "all" = none
  sum : mg "sum" = none
  max : mg "max" = none
  min : mg "min" = none
  enumerate : mg "enumerate" = none
  str : mg "str" = none
/-- all that stood stands -/
abbrev Ex (H H' : Hp) : Prop := ∀ a o, H a = some o → H' a = some o
/-- all that stood stands, but for b -/
def ExB (b : Addr) (H H' : Hp) : Prop := ∀ a o, a ≠ b → H a = some o → H' a = some o
theorem Ex.rfl {H : Hp} : Ex H H := fun _ _ h => h
theorem Ex.trans {H H1 H2 : Hp} (a : Ex H H1) (b : Ex H1 H2) : Ex H H2 := fun x o h => b x o (a x o h)
theorem Ex.new {H : Hp} {p : Addr} {o : HO} (h : H p = none) : Ex H (upd H p o) := fun a u e => by
  rw [upd_ne (ne_of_none e h)]
  exact e
theorem Ex.newer {H H1 : Hp} {p : Addr} {o : HO} (e : Ex H H1) (h : H1 p = none) : Ex H (upd H1 p o) := Ex.trans e (Ex.new h)
theorem Ex.fresh {H H1 : Hp} {p : Addr} (e : Ex H H1) (h : H1 p = none) : H p = none := by
  cases q : H p with
  | none => rfl
  | some o => rw [e p o q] at h; cases h
/-- what H does not know may change -/
theorem Ex.put {H H1 : Hp} {p : Addr} {o : HO} (e : Ex H H1) (h : H p = none) : Ex H (upd H1 p o) := fun a u ha => by
  rw [upd_ne (ne_of_none ha h)]
  exact e a u ha
theorem Ex.b {H H1 : Hp} {b : Addr} (e : Ex H H1) : ExB b H H1 := fun a o _ h => e a o h
theorem ExB.rfl {H : Hp} {b : Addr} : ExB b H H := fun _ _ _ h => h
theorem ExB.trans {H H1 H2 : Hp} {b : Addr} (a : ExB b H H1) (c : ExB b H1 H2) : ExB b H H2 := fun x o n h => c x o n (a x o n h)
theorem ExB.put {H H1 : Hp} {b : Addr} {o : HO} (e : ExB b H H1) : ExB b H (upd H1 b o) := fun a u n h => by
  rw [upd_ne n]
  exact e a u n h
theorem ExB.new {H H1 : Hp} {b p : Addr} {o : HO} (e : ExB b H H1) (h : H1 p = none) : ExB b H (upd H1 p o) := fun a u n z => by
  have q := e a u n z
  rw [upd_ne (ne_of_none q h)]
  exact q
/-- the bag of draws -/
def Bag (H : Hp) (b : Addr) : Prop := ∃ x0 x1 x2 : Int, H b = some (.lst [.int x0, .int x1, .int x2]) ∧ 0 ≤ x0
theorem Bag.ex {H H1 : Hp} {b : Addr} (B : Bag H b) (e : Ex H H1) : Bag H1 b := let ⟨x0, x1, x2, h, k⟩ := B; ⟨x0, x1, x2, e _ _ h, k⟩
theorem Bag.new {H : Hp} {b p : Addr} {o : HO} (B : Bag H b) (h : H p = none) : Bag (upd H p o) b := B.ex (Ex.new h)
theorem ex_rd {H H' : Hp} {a : Addr} {u : HO} (e : Ex H H') (h : Rd H a u) : Rd H' a u := by
  rcases h with h | ⟨o, h⟩
  · exact .inl (e a _ h)
  · exact .inr ⟨o, e a _ h⟩
theorem ex_l {K : PySem.W.Frag} {H H' : Hp} {a : Addr} {xs : List V} (e : Ex H H') (h : SqL K H a xs) : SqL K H' a xs := h.imp (ex_rd e) id
theorem ex_t {K : PySem.W.Frag} {H H' : Hp} {a : Addr} {xs : List V} (e : Ex H H') (h : SqT K H a xs) : SqT K H' a xs := h.imp (ex_rd e) id
/-- at b stands no tuple -/
def NT (H : Hp) (b : Addr) : Prop := (∀ xs, H b ≠ some (.tup xs)) ∧ ∀ o u, H b ≠ some (.frz o u)
theorem Bag.nt {H : Hp} {b : Addr} (B : Bag H b) : NT H b := by
  obtain ⟨x0, x1, x2, hb, _⟩ := B
  exact ⟨fun xs z => (by rw [hb] at z; cases z), fun o u z => (by rw [hb] at z; cases z)⟩
theorem NT.ins {H : Hp} {b C dx : Addr} {fs : List (Str × V)} (hb : H b = some (.ins C dx fs)) : NT H b := ⟨fun xs z => (by rw [hb] at z; cases z), fun o u z => (by rw [hb] at z; cases z)⟩
theorem NT.lst {H : Hp} {b : Addr} {xs : List V} (hb : H b = some (.lst xs)) : NT H b := ⟨fun xs z => (by rw [hb] at z; cases z), fun o u z => (by rw [hb] at z; cases z)⟩
/-- a tuple is not what changes -/
theorem exb_t {K : PySem.W.Frag} {H H' : Hp} {b a : Addr} {xs : List V} (B : NT H b) (e : ExB b H H') (h : SqT K H a xs) : SqT K H' a xs := by
  refine h.imp (fun r => ?_) id
  rcases r with r | ⟨o, r⟩
  · exact .inl (e a _ (fun z => B.1 xs (z ▸ r)) r)
  · exact .inr ⟨o, e a _ (fun z => B.2 _ _ (z ▸ r)) r⟩
mutual
/-- data without lists, no tuple too long -/
def noList : PyData → Bool
  | .tuple ds => decide (ds.length ≤ 100000) && noLists ds
  | .list _ => false
  | _ => true
def noLists : List PyData → Bool
  | [] => true
  | d :: ds => noList d && noLists ds
end
mutual
theorem Dp.ext {K : PySem.W.Frag} {H H' : Hp} (e : Ex H H') : ∀ {v : V} {d : PyData}, Dp K H v d → Dp K H' v d
  | _, _, .non => .non
  | _, _, .bl b => .bl b
  | _, _, .int i => .int i
  | _, _, .str x => .str x
  | _, _, .lst h k => .lst (ex_l e h) (DpAll.ext e k)
  | _, _, .tup h k => .tup (ex_t e h) (DpAll.ext e k)
theorem DpAll.ext {K : PySem.W.Frag} {H H' : Hp} (e : Ex H H') : ∀ {vs : List V} {ds : List PyData}, DpAll K H vs ds → DpAll K H' vs ds
  | _, _, .nil => .nil
  | _, _, .cons h k => .cons (Dp.ext e h) (DpAll.ext e k)
end
mutual
theorem Dp.exb {K : PySem.W.Frag} {H H' : Hp} {b : Addr} (B : NT H b) (e : ExB b H H') : ∀ {v : V} {d : PyData}, noList d = true → Dp K H v d → Dp K H' v d
  | _, _, _, .non => .non
  | _, _, _, .bl b => .bl b
  | _, _, _, .int i => .int i
  | _, _, _, .str x => .str x
  | _, _, z, .lst h k => by cases z
  | _, _, z, .tup h k => .tup (exb_t B e h) (DpAll.exb B e (Bool.and_eq_true_iff.mp z).2 k)
theorem DpAll.exb {K : PySem.W.Frag} {H H' : Hp} {b : Addr} (B : NT H b) (e : ExB b H H') : ∀ {vs : List V} {ds : List PyData}, noLists ds = true → DpAll K H vs ds → DpAll K H' vs ds
  | _, _, _, .nil => .nil
  | _, _, z, .cons h k => by
    obtain ⟨z1, z2⟩ := Bool.and_eq_true_iff.mp (show (noList _ && noLists _) = true from z)
    exact .cons (Dp.exb B e z1 h) (DpAll.exb B e z2 k)
end
theorem bt_len : bootBuiltins "len" = some (.builtin "len") := by decide +kernel
theorem bt_abs : bootBuiltins "abs" = some (.builtin "abs") := by decide +kernel
theorem bt_int : bootBuiltins "int" = some (.type "int") := by decide +kernel
theorem bt_tuple : bootBuiltins "tuple" = some (.type "tuple") := by decide +kernel
theorem bt_sorted : bootBuiltins "sorted" = some (.builtin "sorted") := by decide +kernel
theorem bt_set : bootBuiltins "set" = some (.type "set") := by decide +kernel
theorem bt_bool : bootBuiltins "bool" = some (.type "bool") := by decide +kernel
theorem bt_str : bootBuiltins "str" = some (.type "str") := by decide +kernel
theorem bt_isinstance : bootBuiltins "isinstance" = some (.builtin "isinstance") := by decide +kernel
theorem bt_all : bootBuiltins "all" = some (.builtin "all") := by decide +kernel
theorem bt_sum : bootBuiltins "sum" = some (.builtin "sum") := by decide +kernel
theorem bt_max : bootBuiltins "max" = some (.builtin "max") := by decide +kernel
theorem bt_min : bootBuiltins "min" = some (.builtin "min") := by decide +kernel
/-- a test that is known -/
theorem ifT {c : Prop} [Decidable c] {A B : Prop} (hc : c) (h : A) : if decide c = true then A else B := by
  rw [decide_eq_true hc]
  exact h
theorem ifF {c : Prop} [Decidable c] {A B : Prop} (hc : ¬ c) (h : B) : if decide c = true then A else B := by
  rw [decide_eq_false hc]
  exact h
theorem if2 {c : Prop} [Decidable c] {A B : Prop} (h1 : c → A) (h2 : ¬ c → B) : if decide c = true then A else B := by
  by_cases hc : c
  · exact ifT hc (h1 hc)
  · exact ifF hc (h2 hc)
/-- a def of the module, as its callers find it -/
structure At (K : PySem.W.Frag) (mg : Str → Option Value) (x : Str) (f : Addr) (fd : FuncData) (ps : List Str) : Prop where
  g : mg x = some (.ref f)
  k : PySem.W.keepIn K (.ref f) = true
  b : Binds K fd ps []
/-- a def without defaults -/
abbrev Fn (K : PySem.W.Frag) (x q : Str) (st : Stmt) (f : Addr) (fd : FuncData) : Prop := L2.Fun K x q st f fd
end Fh
/-! Names that are drawn. -/
namespace Fh
open PySem PySem.Spec PyProof.Rows L2
def lettersS : Str := "abcdefghijklmnopqrstuvwxyz"
def barredL : List Str := ["again", "as", "def", "else", "except", "fails", "finally", "from", "if", "in", "maybe", "new", "no", "none", "note", "outside", "pass", "raise", "repeat", "return", "stop", "try", "use", "well", "yes", "out"]
def sgn (c : Nat) : Str := ⟨#[c]⟩
/-- a name: one to eight letters, no kept word and not out -/
structure IsName (z : Str) : Prop where
  lo : 1 ≤ (TL.tl z).length
  hi : (TL.tl z).length ≤ 8
  ab : ∀ c ∈ TL.tl z, 97 ≤ c ∧ c ≤ 122
  free : z ∉ barredL
theorem letters_tl : TL.tl lettersS = (List.range 26).map (97 + ·) := by decide +kernel
def freshOf (n : Str) : List Str := ([n] ++ (TL.tl lettersS).map fun c => n ++ sgn c) ++ (TL.tl lettersS).map fun c => n ++ "q" ++ sgn c
theorem tl_len (z : Str) : (TL.tl z).length = z.length := by
  unfold TL.tl Str.length
  simp
theorem tl_sgn (c : Nat) : TL.tl (sgn c) = [c] := rfl
theorem tl_q : TL.tl ("q" : Str) = [113] := by decide +kernel
/-- more different things than places -/
theorem pigeons {α : Type} [BEq α] [LawfulBEq α] : ∀ (l D : List α), l.Nodup → (∀ x ∈ l, x ∈ D) → l.length ≤ D.length
  | [], _, _, _ => Nat.zero_le _
  | x :: l, D, hn, hs => by
    obtain ⟨h1, h2⟩ := List.nodup_cons.mp hn
    have hx : x ∈ D := hs x List.mem_cons_self
    have ih := pigeons l (D.erase x) h2 fun y hy => (List.mem_erase_of_ne (fun (e : y = x) => h1 (by rw [← e]; exact hy))).2 (hs y (List.mem_cons_of_mem _ hy))
    have e := List.length_erase_of_mem hx
    have hp : 0 < D.length := List.length_pos_of_mem hx
    rw [List.length_cons]
    omega
def codeOf (n : Nat) (z : Str) : Nat := if (TL.tl z).length = n then 0 else ((TL.tl z).length - n) * 1000 + (TL.tl z).getLast?.getD 0
theorem code_one (n : Str) (c : Nat) : codeOf (TL.tl n).length (n ++ sgn c) = 1000 + c := by
  unfold codeOf
  rw [TL.tl_append, tl_sgn, List.length_append]
  simp
theorem code_two (n : Str) (c : Nat) : codeOf (TL.tl n).length (n ++ "q" ++ sgn c) = 2000 + c := by
  unfold codeOf
  rw [TL.tl_append, TL.tl_append, tl_sgn, tl_q, List.length_append, List.length_append]
  generalize hL : (TL.tl n).length = L
  rw [if_neg (by simp only [List.length_cons, List.length_nil]; omega), List.getLast?_append]
  simp only [List.length_cons, List.length_nil, List.getLast?_singleton, Option.some_or, Option.getD_some]
  omega
theorem fresh_codes (n : Str) : (freshOf n).map (codeOf (TL.tl n).length) = 0 :: (((List.range 26).map fun i => 1097 + i) ++ (List.range 26).map fun i => 2097 + i) := by
  unfold freshOf
  rw [letters_tl, List.map_append, List.map_append, List.map_map, List.map_map, List.map_map, List.map_map]
  have h1 : (List.range 26).map ((codeOf (TL.tl n).length ∘ fun c => n ++ sgn c) ∘ fun x => 97 + x) = (List.range 26).map fun i => 1097 + i := List.map_congr_left fun i _ => by
    show codeOf (TL.tl n).length (n ++ sgn (97 + i)) = 1097 + i
    rw [code_one]
    omega
  have h2 : (List.range 26).map ((codeOf (TL.tl n).length ∘ fun c => n ++ "q" ++ sgn c) ∘ fun x => 97 + x) = (List.range 26).map fun i => 2097 + i := List.map_congr_left fun i _ => by
    show codeOf (TL.tl n).length (n ++ "q" ++ sgn (97 + i)) = 2097 + i
    rw [code_two]
    omega
  have h0 : [n].map (codeOf (TL.tl n).length) = [0] := by simp [codeOf]
  rw [h0, h1, h2]
  rfl
theorem fresh_nodup (n : Str) : (freshOf n).Nodup := by
  have h : ((freshOf n).map (codeOf (TL.tl n).length)).Nodup := by
    rw [fresh_codes]
    decide
  exact List.Pairwise.of_map (codeOf (TL.tl n).length) (fun a b z e => z (e ▸ rfl)) h
theorem fresh_len (n : Str) : (freshOf n).length = 53 := by
  have h := congrArg List.length (fresh_codes n)
  rw [List.length_map] at h
  rw [h]
  rfl
def okName (tk : List Str) (z : Str) : Bool := !decide (z ∈ barredL) && !decide (z ∈ tk)
theorem fresh_some (n : Str) (tk : List Str) (ht : tk.length ≤ 26) : (freshOf n).filter (okName tk) ≠ [] := by
  intro h
  have h2 : ∀ x ∈ freshOf n, x ∈ barredL ++ tk := fun x hx => by
    have q := List.filter_eq_nil_iff.mp h x hx
    unfold okName at q
    rw [List.mem_append]
    by_cases a : x ∈ barredL
    · exact .inl a
    · by_cases b : x ∈ tk
      · exact .inr b
      · exact absurd (by simp [a, b]) q
  have h3 := pigeons (freshOf n) (barredL ++ tk) (fresh_nodup n) h2
  rw [fresh_len, List.length_append] at h3
  have : barredL.length = 26 := rfl
  omega
theorem fresh_names {n : Str} {tk : List Str} (h1 : 1 ≤ (TL.tl n).length) (h6 : (TL.tl n).length ≤ 6) (hab : ∀ c ∈ TL.tl n, 97 ≤ c ∧ c ≤ 122) {z : Str} (hz : z ∈ (freshOf n).filter (okName tk)) : IsName z ∧ z ∉ tk := by
  obtain ⟨hm, ho⟩ := List.mem_filter.mp hz
  unfold okName at ho
  simp only [Bool.and_eq_true, Bool.not_eq_true', decide_eq_false_iff_not] at ho
  refine ⟨?_, ho.2⟩
  unfold freshOf at hm
  rw [List.mem_append, List.mem_append, List.mem_singleton, List.mem_map, List.mem_map] at hm
  have lt : ∀ c ∈ TL.tl lettersS, 97 ≤ c ∧ c ≤ 122 := by
    rw [letters_tl]
    intro c hc
    obtain ⟨i, hi, rfl⟩ := List.mem_map.mp hc
    have := List.mem_range.mp hi
    omega
  rcases hm with (e | ⟨c, hc, e⟩) | ⟨c, hc, e⟩
  · subst e
    exact ⟨h1, by omega, hab, ho.1⟩
  · have et : TL.tl z = TL.tl n ++ [c] := by rw [← e, TL.tl_append, tl_sgn]
    refine ⟨by rw [et, List.length_append]; simp, by rw [et, List.length_append]; simp only [List.length_cons, List.length_nil]; omega, fun d hd => ?_, ho.1⟩
    rw [et, List.mem_append, List.mem_singleton] at hd
    rcases hd with hd | rfl
    · exact hab d hd
    · exact lt d hc
  · have et : TL.tl z = TL.tl n ++ [113] ++ [c] := by rw [← e, TL.tl_append, TL.tl_append, tl_sgn, tl_q]
    refine ⟨by rw [et, List.length_append]; simp, by rw [et, List.length_append, List.length_append]; simp only [List.length_cons, List.length_nil]; omega, fun d hd => ?_, ho.1⟩
    rw [et, List.mem_append, List.mem_append, List.mem_singleton, List.mem_singleton] at hd
    rcases hd with (hd | rfl) | rfl
    · exact hab d hd
    · omega
    · exact lt d hc
/-- the texts of the letters joined -/
theorem join_sgns (cs : List Nat) : TL.tl (Txt.join ("" : Str) (cs.map sgn)) = cs := by
  rw [TL.join_eq, TL.tl_join]
  have e0 : TL.tl ("" : Str) = [] := by decide +kernel
  rw [e0]
  have : ∀ l : List Nat, TL.joinL [] ((l.map sgn).map TL.tl) = l := by
    intro l
    induction l with
    | nil => rfl
    | cons c r ih =>
      cases r with
      | nil => rfl
      | cons d r => 
        show [c] ++ ([] ++ TL.joinL [] (((d :: r).map sgn).map TL.tl)) = c :: d :: r
        rw [ih]
        rfl
  exact this cs
theorem eqV_str (y z : Str) : eqV (.str y) (.str z) = decide (y = z) := by
  first
    | rfl
    | simp [eqV]
theorem inV_strs (z : Str) (xs : List Str) : inV (.str z) (xs.map V.str) = decide (z ∈ xs) := by
  unfold inV
  rw [List.any_map, Bool.eq_iff_iff, List.any_eq_true, decide_eq_true_eq]
  constructor
  · rintro ⟨y, hy, e⟩
    have e2 : decide (y = z) = true := by rw [← eqV_str]; exact e
    rw [← of_decide_eq_true e2]
    exact hy
  · intro h
    exact ⟨z, h, by show eqV (.str z) (.str z) = true; rw [eqV_str]; simp⟩
theorem flat_strs (xs : List Str) : (xs.map V.str).all flatV = true := by
  rw [List.all_map, List.all_eq_true]
  intro x _
  rfl
/-- a comprehension's new item -/
theorem lc_leaf {H1 H H4 : Hp} {D : Addr} {acc : List V} {y : V} (hD : H1 D = none) (p : Ex H1 H ∧ H D = some (.lst acc)) (e : Ex H H4) (hl : acc.length < sizeLine) :
    ∃ acc', H4 D = some (.lst acc') ∧ acc'.length < sizeLine ∧ (Ex H1 (upd H4 D (.lst (acc' ++ [y]))) ∧ (upd H4 D (.lst (acc' ++ [y]))) D = some (.lst (acc ++ [y]))) :=
  ⟨acc, e D _ p.2, hl, Ex.put (Ex.trans p.1 e) hD, upd_same⟩
theorem ty_tup {K : PySem.W.Frag} {H : Hp} {a : Addr} {xs : List V} (h : SqT K H a xs) : TyX K H (.ref a) (.type "tuple") := by
  rcases h with h | ⟨o, its, n, e, c, _⟩
  · rcases h with h | ⟨o, h⟩
    · exact .base (.tup h)
    · exact .fTuple h
  · exact .kTuple e c
/-- a promise that is never asked -/
theorem fnOk_never {P : Program} {w : World} {K : PySem.W.Frag} {mg : Str → Option Value} {base : Heap} {CX : CXT} {f : Addr} {fd : FuncData} {ps : List Str} {k : Nat} : FnOk P w K mg base CX k f fd ps (fun _ _ _ _ => False) :=
  ⟨fun _ _ _ _ h => h.elim, fun _ _ _ _ _ _ _ _ _ _ _ _ _ h => h.elim⟩
theorem depth_mem {d : PyData} : ∀ {ds : List PyData}, d ∈ ds → d.depth ≤ PyData.depthAll ds
  | _ :: _, .head _ => by simp only [PyData.depthAll]; omega
  | _ :: _, .tail _ h => by
    have := depth_mem h
    simp only [PyData.depthAll]
    omega
theorem noLists_mem {d : PyData} : ∀ {ds : List PyData}, noLists ds = true → d ∈ ds → noList d = true
  | _ :: _, z, h => by
    obtain ⟨z1, z2⟩ := Bool.and_eq_true_iff.mp (show (noList _ && noLists _) = true from z)
    cases h with
    | head => exact z1
    | tail _ h => exact noLists_mem z2 h
theorem DpAll.length {K : PySem.W.Frag} {H : Hp} : ∀ {vs : List V} {ds : List PyData}, DpAll K H vs ds → vs.length = ds.length
  | _, _, .nil => rfl
  | _, _, .cons _ k => by rw [List.length_cons, List.length_cons, DpAll.length k]
theorem DpAll.get {K : PySem.W.Frag} {H : Hp} : ∀ {vs : List V} {ds : List PyData} {i : Nat} {d : PyData}, DpAll K H vs ds → ds[i]? = some d → ∃ v, vs[i]? = some v ∧ Dp K H v d
  | _, _, 0, _, .cons h _, e => by
    simp at e
    subst e
    exact ⟨_, rfl, h⟩
  | _, _, i + 1, d, .cons _ k, e => by
    obtain ⟨v, h1, h2⟩ := DpAll.get (i := i) (d := d) k (by simpa using e)
    exact ⟨v, by simpa using h1, h2⟩
/-- tuples and what is locked stand for good -/
def Keeps (H H' : Hp) : Prop := (∀ b xs, H b = some (.tup xs) → H' b = some (.tup xs)) ∧ ∀ b o u, H b = some (.frz o u) → H' b = some (.frz o u)
/-- behind any call -/
theorem FnOk.keeps {P : Program} {w : World} {K : PySem.W.Frag} {mg : Str → Option Value} {base : Heap} {CX : CXT} {k : Nat} {f : Addr} {fd : FuncData} {ps : List Str} {sp : Sp} (F : FnOk P w K mg base CX k f fd ps sp) :
    FnOk P w K mg base CX k f fd ps (fun vs H Q E => sp vs H (fun v H' => Keeps H H' → Q v H') E) :=
  ⟨fun vs H Q E h => F.len vs H _ E h, fun A outer s H args us vs Q E hr e0 hb hv h => codeAny_mono (F.run A outer s H args us vs (fun v H' => Keeps H H' → Q v H') E hr e0 hb hv h) fun r s' hq => by
    cases r with
    | error e => exact hq
    | ok fl =>
      cases fl with
      | ret u =>
        obtain ⟨v, H', os, bare, un, hok, rv, q⟩ := hq
        exact ⟨v, H', os, bare, un, hok, rv, q ⟨un.tups, un.frzs⟩⟩
      | next => exact hq
      | brk => exact hq
      | cont => exact hq⟩
/-- the script, which nobody changes -/
def Scr (K : PySem.W.Frag) (H : Hp) (a : Addr) (xs : List V) : Prop := (∃ o, H a = some (.frz o (.lst xs))) ∨ ∀ H', SqL K H' a xs
theorem Scr.sq {K : PySem.W.Frag} {H : Hp} {a : Addr} {xs : List V} (h : Scr K H a xs) : SqL K H a xs := by
  rcases h with ⟨o, h⟩ | h
  · exact .inl (.inr ⟨o, h⟩)
  · exact h H
theorem Scr.keep {K : PySem.W.Frag} {H H' : Hp} {a : Addr} {xs : List V} (h : Scr K H a xs) (k : Keeps H H') : Scr K H' a xs := by
  rcases h with ⟨o, h⟩ | h
  · exact .inl ⟨o, k.2 a o _ h⟩
  · exact .inr h
theorem Scr.of {K : PySem.W.Frag} {H : Hp} {a : Addr} {xs : List V} (hO : Only H) (h : SqL K H a xs) : Scr K H a xs := by
  rcases h with (h | ⟨o, h⟩) | h
  · rcases hO a with z | ⟨o, ys, z⟩
    · rw [h] at z; cases z
    · rw [h] at z; cases z
  · exact .inl ⟨o, h⟩
  · exact .inr fun _ => .inr h
end Fh
/-! Faults as plain data, and how they stand in the heap. -/
namespace Fh
open PySem PySem.Spec PyProof.Rows L2
/-! ### texts in order -/
def sLt (a b : Str) : Prop := TL.tl a < TL.tl b
instance (a b : Str) : Decidable (sLt a b) := inferInstanceAs (Decidable (TL.tl a < TL.tl b))
theorem tl_inj {a b : Str} (h : TL.tl a = TL.tl b) : a = b := by
  obtain ⟨x⟩ := a
  obtain ⟨y⟩ := b
  have h' : x.toList = y.toList := h
  have e : x = y := by
    rw [← Array.toArray_toList (xs := x), h']
  rw [e]
theorem sLt_irrefl (a : Str) : ¬ sLt a a := List.lt_irrefl _
theorem sLt_trans {a b c : Str} (h1 : sLt a b) (h2 : sLt b c) : sLt a c := List.lt_trans h1 h2
theorem sLt_tri {a b : Str} (h1 : ¬ sLt a b) (h2 : ¬ sLt b a) : a = b := tl_inj (List.le_antisymm (List.not_lt.mp h2) (List.not_lt.mp h1))
/-- put into its place, once -/
def insS (x : Str) : List Str → List Str
  | [] => [x]
  | y :: r => if sLt x y then x :: y :: r else if x = y then y :: r else y :: insS x r
/-- all of them once, ascending -/
def srt : List Str → List Str
  | [] => []
  | x :: r => insS x (srt r)
abbrev Asc (l : List Str) : Prop := l.Pairwise sLt
theorem mem_insS {x z : Str} : ∀ {l : List Str}, z ∈ insS x l ↔ z = x ∨ z ∈ l
  | [] => by simp [insS]
  | y :: r => by
    unfold insS
    split
    · simp
    · split
      · rename_i h
        subst h
        simp
      · rw [List.mem_cons, mem_insS (l := r), List.mem_cons]
        constructor
        · rintro (h | h | h)
          · exact .inr (.inl h)
          · exact .inl h
          · exact .inr (.inr h)
        · rintro (h | h | h)
          · exact .inr (.inl h)
          · exact .inl h
          · exact .inr (.inr h)
theorem asc_insS {x : Str} : ∀ {l : List Str}, Asc l → Asc (insS x l)
  | [], _ => by simp [insS, Asc]
  | y :: r, h => by
    obtain ⟨h1, h2⟩ := List.pairwise_cons.mp h
    unfold insS
    split
    · rename_i hx
      refine List.pairwise_cons.mpr ⟨fun z hz => ?_, h⟩
      rcases List.mem_cons.mp hz with e | e
      · rw [e]; exact hx
      · exact sLt_trans hx (h1 z e)
    · split
      · exact h
      · rename_i hn hne
        refine List.pairwise_cons.mpr ⟨fun z hz => ?_, asc_insS h2⟩
        rcases mem_insS.mp hz with e | e
        · rw [e]
          rcases Classical.em (sLt y x) with q | q
          · exact q
          · exact absurd (sLt_tri hn q) hne
        · exact h1 z e
theorem mem_srt {z : Str} : ∀ {l : List Str}, z ∈ srt l ↔ z ∈ l
  | [] => Iff.rfl
  | x :: r => by
    show z ∈ insS x (srt r) ↔ _
    rw [mem_insS, mem_srt (l := r), List.mem_cons]
theorem asc_srt : ∀ l : List Str, Asc (srt l)
  | [] => List.Pairwise.nil
  | x :: r => asc_insS (asc_srt r)
/-- two ascending lists with the same members are one -/
theorem asc_ext : ∀ {l m : List Str}, Asc l → Asc m → (∀ z, z ∈ l ↔ z ∈ m) → l = m
  | [], [], _, _, _ => rfl
  | [], y :: m, _, _, h => absurd ((h y).mpr List.mem_cons_self) List.not_mem_nil
  | x :: l, [], _, _, h => absurd ((h x).mp List.mem_cons_self) List.not_mem_nil
  | x :: l, y :: m, hl, hm, h => by
    obtain ⟨l1, l2⟩ := List.pairwise_cons.mp hl
    obtain ⟨m1, m2⟩ := List.pairwise_cons.mp hm
    have exy : x = y := by
      rcases List.mem_cons.mp ((h x).mp List.mem_cons_self) with e | e
      · exact e
      · rcases List.mem_cons.mp ((h y).mpr List.mem_cons_self) with e2 | e2
        · exact e2.symm
        · exact absurd (sLt_trans (m1 x e) (l1 y e2)) (sLt_irrefl _)
    subst exy
    have t : l = m := asc_ext l2 m2 fun z => by
      constructor
      · intro hz
        rcases List.mem_cons.mp ((h z).mp (List.mem_cons_of_mem _ hz)) with e | e
        · exact absurd (l1 z hz) (by rw [e]; exact sLt_irrefl _)
        · exact e
      · intro hz
        rcases List.mem_cons.mp ((h z).mpr (List.mem_cons_of_mem _ hz)) with e | e
        · exact absurd (m1 z hz) (by rw [e]; exact sLt_irrefl _)
        · exact e
    rw [t]
theorem rising_asc : ∀ {p : Str} {l : List Str}, risingS p l = true → (p :: l).Nodup → Asc (p :: l) ∧ ∀ q ∈ l, sLt p q
  | p, [], _, _ => ⟨List.pairwise_singleton _ _, fun q hq => by cases hq⟩
  | p, x :: r, h, nd => by
    obtain ⟨h1, h2⟩ := Bool.and_eq_true_iff.mp (show (!ltCps x.cps.toList p.cps.toList && risingS x r) = true from h)
    obtain ⟨n1, n2⟩ := List.nodup_cons.mp nd
    obtain ⟨a1, a2⟩ := rising_asc h2 n2
    have hpx : sLt p x := by
      rw [ltCps_eq] at h1
      rcases Classical.em (sLt p x) with q | q
      · exact q
      · have hn : ¬ sLt x p := fun z => by
          have : decide (x.cps.toList < p.cps.toList) = true := decide_eq_true z
          rw [this] at h1
          cases h1
        exact absurd (by rw [sLt_tri q hn]; exact List.mem_cons_self) n1
    have all : ∀ q ∈ x :: r, sLt p q := fun q hq => by
      rcases List.mem_cons.mp hq with e | e
      · rw [e]; exact hpx
      · exact sLt_trans hpx (a2 q e)
    exact ⟨List.pairwise_cons.mpr ⟨all, a1⟩, all⟩
theorem sorted_asc {l : List Str} (h : sortedS l = true) (nd : l.Nodup) : Asc l := by
  cases l with
  | nil => exact List.Pairwise.nil
  | cons p r => exact (rising_asc h nd).1
/-- what sorted(set(..)) gives -/
theorem sorted_is {l xs : List Str} (h : sortedS l = true) (nd : l.Nodup) (hm : ∀ k, k ∈ l ↔ decide (k ∈ xs) = true) : l = srt xs :=
  asc_ext (sorted_asc h nd) (asc_srt xs) fun z => by rw [hm z, decide_eq_true_eq, mem_srt]
theorem srt_nil : srt [] = [] := rfl
theorem srt_one (x : Str) : srt [x] = [x] := rfl
theorem len_insS (x : Str) : ∀ l : List Str, (insS x l).length ≤ l.length + 1
  | [] => by simp [insS]
  | y :: r => by
    unfold insS
    split
    · simp
    · split
      · simp
      · have := len_insS x r
        simp
        omega
theorem len_srt : ∀ l : List Str, (srt l).length ≤ l.length
  | [] => Nat.le_refl _
  | x :: r => by
    have h1 := len_insS x (srt r)
    have h2 := len_srt r
    show (insS x (srt r)).length ≤ r.length + 1
    omega
/-! ### faults -/
/-- the four parts of a fault -/
structure FM where
  row : List (Str × Int)
  counts : List Int
  layers : List Str
  core : List Str
  deriving DecidableEq
def FM.none : FM := ⟨[], [], [], []⟩
def FM.hap (w : Str) (n : Int) : FM := ⟨[(w, n)], [1], [], [w]⟩
def FM.wrap (w : Str) (m : FM) : FM := ⟨m.row, m.counts, w :: m.layers, m.core⟩
def FM.words (m : FM) : List Str := srt (m.core ++ m.layers)
def FM.inner (m : FM) : FM := if m.layers = [] then FM.none else ⟨m.row, m.counts, m.layers.drop 1, m.core⟩
def FM.truth (m : FM) : Bool := !m.layers.isEmpty || !m.core.isEmpty
def FM.hollow (m : FM) : Bool := !(m.layers ++ m.core).isEmpty && m.row.isEmpty
/-- sizes that the machine can bear -/
structure FM.Ok (m : FM) : Prop where
  row : m.row.length ≤ 1000
  counts : m.counts.length = m.row.length
  layers : m.layers.length ≤ 1000
  core : m.core.length ≤ 1000
  tRow : ∀ p ∈ m.row, PyData.strOk p.1 = true
  tLay : ∀ x ∈ m.layers, PyData.strOk x = true
  tCore : ∀ x ∈ m.core, PyData.strOk x = true
  rc : m.core = [] → m.row = []
theorem FM.hap_ok {z : Str} (n : Int) (hz : PyData.strOk z = true) : (FM.hap z n).Ok :=
  ⟨by show 1 ≤ 1000; decide, rfl, by show 0 ≤ 1000; decide, by show 1 ≤ 1000; decide, fun p hp => (by rw [List.mem_singleton.mp hp]; exact hz), fun x hx => (by cases hx), fun x hx => (by rw [List.mem_singleton.mp hx]; exact hz), fun h => (by cases h)⟩
theorem FM.none_ok : FM.none.Ok := ⟨by decide, rfl, by decide, by decide, fun p hp => (by cases hp), fun x hx => (by cases hx), fun x hx => (by cases hx), fun _ => rfl⟩
theorem IsName.strOk {z : Str} (h : IsName z) : PyData.strOk z = true := by
  unfold PyData.strOk
  rw [Array.all_eq_true_iff_forall_mem]
  intro c hc
  have := h.ab c (Array.mem_toList_iff.mpr hc)
  rw [decide_eq_true_eq]
  omega
def hapD (p : Str × Int) : PyData := .tuple [.str p.1, .int p.2]
def strD (x : Str) : PyData := .str x
def rowD (r : List (Str × Int)) : PyData := .tuple (r.map hapD)
def strsD (l : List Str) : PyData := .tuple (l.map PyData.str)
def intsD (l : List Int) : PyData := .tuple (l.map PyData.int)
/-- the four parts as a tuple -/
def FM.dat (m : FM) : PyData := .tuple [rowD m.row, intsD m.counts, strsD m.layers, strsD m.core]
section
variable {K : PySem.W.Frag} {H H' : Hp}
theorem dp_strs : ∀ {l : List Str}, DpAll K H (l.map V.str) (l.map PyData.str)
  | [] => .nil
  | x :: r => .cons (.str x) dp_strs
theorem dp_ints : ∀ {l : List Int}, DpAll K H (l.map V.int) (l.map PyData.int)
  | [] => .nil
  | x :: r => .cons (.int x) dp_ints
theorem strs_dp : ∀ {l : List Str} {vs : List V}, DpAll K H vs (l.map PyData.str) → vs = l.map V.str
  | [], _, .nil => rfl
  | x :: r, _, .cons (.str _) t => by rw [strs_dp t]; rfl
theorem ints_dp : ∀ {l : List Int} {vs : List V}, DpAll K H vs (l.map PyData.int) → vs = l.map V.int
  | [], _, .nil => rfl
  | x :: r, _, .cons (.int _) t => by rw [ints_dp t]; rfl
theorem Dp.strs {a : Addr} {l : List Str} (h : SqT K H a (l.map V.str)) : Dp K H (.ref a) (strsD l) := .tup h dp_strs
theorem Dp.ints {a : Addr} {l : List Int} (h : SqT K H a (l.map V.int)) : Dp K H (.ref a) (intsD l) := .tup h dp_ints
theorem sq_strs {v : V} {l : List Str} (h : Dp K H v (strsD l)) : ∃ a, v = .ref a ∧ SqT K H a (l.map V.str) := by
  cases h with
  | tup hs ha =>
    rw [strs_dp ha] at hs
    exact ⟨_, rfl, hs⟩
theorem sq_ints {v : V} {l : List Int} (h : Dp K H v (intsD l)) : ∃ a, v = .ref a ∧ SqT K H a (l.map V.int) := by
  cases h with
  | tup hs ha =>
    rw [ints_dp ha] at hs
    exact ⟨_, rfl, hs⟩
end
theorem noLists_strs : ∀ l : List Str, noLists (l.map PyData.str) = true
  | [] => rfl
  | x :: r => by
    show (noList (.str x) && noLists (r.map PyData.str)) = true
    rw [noLists_strs r]
    rfl
theorem noLists_ints : ∀ l : List Int, noLists (l.map PyData.int) = true
  | [] => rfl
  | x :: r => by
    show (noList (.int x) && noLists (r.map PyData.int)) = true
    rw [noLists_ints r]
    rfl
theorem noLists_row : ∀ l : List (Str × Int), noLists (l.map hapD) = true
  | [] => rfl
  | x :: r => by
    show (noList (hapD x) && noLists (r.map hapD)) = true
    rw [noLists_row r]
    rfl
theorem noList_strs {l : List Str} (h : l.length ≤ 100000) : noList (strsD l) = true := by
  show (decide ((l.map PyData.str).length ≤ 100000) && noLists (l.map PyData.str)) = true
  rw [noLists_strs, List.length_map, decide_eq_true h]
  rfl
theorem noList_ints {l : List Int} (h : l.length ≤ 100000) : noList (intsD l) = true := by
  show (decide ((l.map PyData.int).length ≤ 100000) && noLists (l.map PyData.int)) = true
  rw [noLists_ints, List.length_map, decide_eq_true h]
  rfl
theorem noList_row {l : List (Str × Int)} (h : l.length ≤ 100000) : noList (rowD l) = true := by
  show (decide ((l.map hapD).length ≤ 100000) && noLists (l.map hapD)) = true
  rw [noLists_row, List.length_map, decide_eq_true h]
  rfl
theorem FM.noList {m : FM} (ok : m.Ok) : Fh.noList m.dat = true := by
  have h1 := ok.row
  have h2 := ok.counts
  have h3 := ok.layers
  have h4 := ok.core
  show (decide (4 ≤ 100000) && (Fh.noList (rowD m.row) && (Fh.noList (intsD m.counts) && (Fh.noList (strsD m.layers) && (Fh.noList (strsD m.core) && true))))) = true
  rw [noList_row (by omega), noList_ints (by omega), noList_strs (by omega), noList_strs (by omega)]
  rfl
theorem depthAll_strs : ∀ l : List Str, PyData.depthAll (l.map PyData.str) = 0
  | [] => rfl
  | x :: r => by
    show max 0 (PyData.depthAll (r.map PyData.str)) = 0
    rw [depthAll_strs r]
    rfl
theorem depthAll_ints : ∀ l : List Int, PyData.depthAll (l.map PyData.int) = 0
  | [] => rfl
  | x :: r => by
    show max 0 (PyData.depthAll (r.map PyData.int)) = 0
    rw [depthAll_ints r]
    rfl
theorem depthAll_row : ∀ l : List (Str × Int), PyData.depthAll (l.map hapD) ≤ 1
  | [] => Nat.zero_le _
  | x :: r => by
    show max 1 (PyData.depthAll (r.map hapD)) ≤ 1
    have := depthAll_row r
    omega
theorem depth_strs (l : List Str) : (strsD l).depth = 1 := by
  show PyData.depthAll (l.map PyData.str) + 1 = 1
  rw [depthAll_strs]
theorem depth_ints (l : List Int) : (intsD l).depth = 1 := by
  show PyData.depthAll (l.map PyData.int) + 1 = 1
  rw [depthAll_ints]
theorem depth_row (l : List (Str × Int)) : (rowD l).depth ≤ 2 := by
  show PyData.depthAll (l.map hapD) + 1 ≤ 2
  have := depthAll_row l
  omega
theorem FM.depth (m : FM) : m.dat.depth ≤ 3 := by
  show max (rowD m.row).depth (max (intsD m.counts).depth (max (strsD m.layers).depth (max (strsD m.core).depth 0))) + 1 ≤ 3
  rw [depth_strs, depth_strs, depth_ints]
  have := depth_row m.row
  omega
/-! ### a fault in the heap -/
def flF (r c l o w : Addr) : List (Str × V) := [("row", .ref r), ("counts", .ref c), ("layers", .ref l), ("core", .ref o), ("words", .ref w)]
structure FaultAt (K : PySem.W.Frag) (C : Addr) (H : Hp) (p : Addr) (m : FM) (dx r c l o w : Addr) : Prop where
  ob : H p = some (.ins C dx (flF r c l o w))
  row : Dp K H (.ref r) (rowD m.row)
  counts : SqT K H c (m.counts.map V.int)
  layers : SqT K H l (m.layers.map V.str)
  core : SqT K H o (m.core.map V.str)
  words : SqT K H w (m.words.map V.str)
  ok : m.Ok
def Fault (K : PySem.W.Frag) (C : Addr) (H : Hp) (p : Addr) (m : FM) : Prop := ∃ dx r c l o w, FaultAt K C H p m dx r c l o w
theorem Fault.ext {K : PySem.W.Frag} {C : Addr} {H H' : Hp} {p : Addr} {m : FM} (e : Ex H H') (f : Fault K C H p m) : Fault K C H' p m :=
  let ⟨dx, r, c, l, o, w, z⟩ := f
  ⟨dx, r, c, l, o, w, ⟨e _ _ z.ob, Dp.ext e z.row, ex_t e z.counts, ex_t e z.layers, ex_t e z.core, ex_t e z.words, z.ok⟩⟩
theorem Fault.exb {K : PySem.W.Frag} {C : Addr} {H H' : Hp} {b p : Addr} {m : FM} (B : Bag H b) (e : ExB b H H') (f : Fault K C H p m) : Fault K C H' p m := by
  obtain ⟨dx, r, c, l, o, w, z⟩ := f
  have hne : p ≠ b := by
    obtain ⟨x0, x1, x2, hb, _⟩ := B
    exact ne_of z.ob hb (by intro q; cases q)
  have hrow : noList (rowD m.row) = true := noList_row (by have := z.ok.row; omega)
  exact ⟨dx, r, c, l, o, w, ⟨e _ _ hne z.ob, Dp.exb B.nt e hrow z.row, exb_t B.nt e z.counts, exb_t B.nt e z.layers, exb_t B.nt e z.core, exb_t B.nt e z.words, z.ok⟩⟩
theorem flF_row (r c l o w : Addr) : (flF r c l o w).lookup ("row" : Str) = some (.ref r) := by rfl
theorem flF_counts (r c l o w : Addr) : (flF r c l o w).lookup ("counts" : Str) = some (.ref c) := by rfl
theorem flF_layers (r c l o w : Addr) : (flF r c l o w).lookup ("layers" : Str) = some (.ref l) := by rfl
theorem flF_core (r c l o w : Addr) : (flF r c l o w).lookup ("core" : Str) = some (.ref o) := by rfl
theorem flF_words (r c l o w : Addr) : (flF r c l o w).lookup ("words" : Str) = some (.ref w) := by rfl
theorem flF_put (r c l o w : Addr) : putF "words" (.ref w) (putF "core" (.ref o) (putF "layers" (.ref l) (putF "counts" (.ref c) (putF "row" (.ref r) [])))) = flF r c l o w := by rfl
/-- tuple(a list | a tuple) -/
def rTupOf (K : PySem.W.Frag) : List V → Hp → VK → Prop := fun xs H Q => ∃ p ys, xs = [V.ref p] ∧ ((SqL K H p ys ∧ ∀ l, H l = Option.none → Q (V.ref l) (upd H l (.tup ys))) ∨ (SqT K H p ys ∧ Q (V.ref p) H))
theorem call_tupOf {X : Cx} : CallR X (.type "tuple") (rTupOf X.K) := call_tuple_of
theorem r_words0 {K : PySem.W.Frag} {w : World} {H : Hp} {a : Addr} {xs : List Str} {Q : VK} (hx : SqT K H a (xs.map V.str)) (hl : xs.length ≤ 3000)
    (k : ∀ t H3, Ex H H3 → H3 t = some (.tup ((srt xs).map V.str)) → Q (.ref t) H3) :
    rSetTx K w [.ref a] H (fun v H2 => rSortTx w [v] H2 fun v H3 => rTupOf K [v] H3 Q) := by
  refine ⟨a, xs, rfl, hx, ?_, fun s n hs hn => ?_⟩
  · have : scanBound = 4096 := by rfl
    omega
  refine ⟨s, _, n, rfl, upd_same, by rw [sizeLine_eq]; omega, fun ss p h1 h2 h3 h4 hp => ?_⟩
  have e := sorted_is h1 h2 h3
  subst e
  refine ⟨p, _, rfl, .inl ⟨SqL.of upd_same, fun t ht => ?_⟩⟩
  exact k t _ (Ex.trans (Ex.trans (Ex.new hs) (Ex.new hp)) (Ex.new ht)) upd_same
/-- tuple(sorted(set(x + y))) of two tuples of texts -/
theorem r_words {K : PySem.W.Frag} {w : World} {H : Hp} {a b : Addr} {xs ys : List Str} {Q : VK} (hx : SqT K H a (xs.map V.str)) (hy : SqT K H b (ys.map V.str)) (hl : xs.length + ys.length ≤ 3000)
    (k : ∀ t H3, Ex H H3 → H3 t = some (.tup ((srt (xs ++ ys)).map V.str)) → Q (.ref t) H3) :
    rCatA K (.ref a) (.ref b) H (fun v H1 => rSetTx K w [v] H1 fun v H2 => rSortTx w [v] H2 fun v H3 => rTupOf K [v] H3 Q) := by
  refine ⟨a, b, _, _, rfl, rfl, hx, hy, ?_, fun ex => ?_, fun ex ey => ?_, fun ex ey p hp => ?_⟩
  · rw [List.length_map, List.length_map, sizeLine_eq]
    omega
  · have ex : xs = [] := List.map_eq_nil_iff.mp ex
    subst ex
    exact r_words0 hy (by omega) k
  · have ey : ys = [] := List.map_eq_nil_iff.mp ey
    subst ey
    rw [List.append_nil] at k
    exact r_words0 hx (by omega) k
  · have e : SqT K (upd H p (.tup (xs.map V.str ++ ys.map V.str))) p ((xs ++ ys).map V.str) := by
      rw [List.map_append]
      exact .inl (.inl upd_same)
    exact r_words0 e (by rw [List.length_append]; omega) fun t H3 e3 h3 => k t H3 (Ex.trans (Ex.new hp) e3) h3
abbrev tWords (K : PySem.W.Frag) (w : World) (t : TE) : TE := tCB (rTupOf K) (tCons (tCB (rSortTx w) (tCons (tCB (rSetTx K w) (tCons t tNil)) tNil)) tNil)
theorem rd_words {K : PySem.W.Frag} {w : World} {H : Hp} {σ : L2.St} {ta tb : TE} {a b : Addr} {xs ys : List Str} {Q : VK} (hab : ∀ R : V → V → Hp → Prop, R (.ref a) (.ref b) H → ta σ H fun x H1 => tb σ H1 fun y H2 => R x y H2)
    (hx : SqT K H a (xs.map V.str)) (hy : SqT K H b (ys.map V.str)) (hl : xs.length + ys.length ≤ 3000)
    (k : ∀ t H3, Ex H H3 → H3 t = some (.tup ((srt (xs ++ ys)).map V.str)) → Q (.ref t) H3) : tWords K w (tOp (rCatA K) ta tb) σ H Q := hab _ (r_words (w := w) hx hy hl k)
/-- x in t, t a tuple of data -/
def rInDT (K : PySem.W.Frag) : R2 := fun x y H Q => ∃ d ds, Dp K H x d ∧ Dp K H y (.tuple ds) ∧ SeqAt.shaped d = true ∧ SeqAt.shaped (.tuple ds) = true ∧ Q (.bl (ds.any fun z => PyData.eqv z d)) H
theorem op_inDT {X : Cx} (hu : X.A.units + 65 < cLine) : OpR X (compareOp .In) (rInDT X.K) := by
  intro pins s σ H x y v u Q I rx ry h
  obtain ⟨d, ds, hd, he, sd, se, q⟩ := h
  obtain ⟨as, r1⟩ := Dp.reads I d x v hd rx
  obtain ⟨bs, r2⟩ := Dp.reads I (.tuple ds) y u he ry
  exact SeqAt.in_tuple_reads r2 r1 (SeqAt.canLay_of_shaped se) (SeqAt.canLay_of_shaped sd) (room_in_shaped sd hu) ⟨.bl _, H, I, rfl, q⟩
def rNotInDT (K : PySem.W.Frag) : R2 := fun x y H Q => ∃ d ds, Dp K H x d ∧ Dp K H y (.tuple ds) ∧ SeqAt.shaped d = true ∧ SeqAt.shaped (.tuple ds) = true ∧ Q (.bl (!ds.any fun z => PyData.eqv z d)) H
theorem op_notInDT {X : Cx} (hu : X.A.units + 65 < cLine) : OpR X (compareOp .NotIn) (rNotInDT X.K) := by
  intro pins s σ H x y v u Q I rx ry h
  obtain ⟨d, ds, hd, he, sd, se, q⟩ := h
  obtain ⟨as, r1⟩ := Dp.reads I d x v hd rx
  obtain ⟨bs, r2⟩ := Dp.reads I (.tuple ds) y u he ry
  exact SeqAt.notIn_tuple_reads r2 r1 (SeqAt.canLay_of_shaped se) (SeqAt.canLay_of_shaped sd) (room_in_shaped sd hu) ⟨.bl _, H, I, rfl, q⟩
theorem units65 {k : Nat} {A : Around} (r : Room (k + 1) A) : A.units + 65 < cLine := by
  have := r.un
  omega
theorem canLay_mem {d : PyData} : ∀ {ds : List PyData}, PyData.canLayAll0 ds = true → d ∈ ds → d.canLay0 = true
  | _ :: _, z, h => by
    obtain ⟨z1, z2⟩ := Bool.and_eq_true_iff.mp (show (PyData.canLay0 _ && PyData.canLayAll0 _) = true from z)
    cases h with
    | head => exact z1
    | tail _ h => exact canLay_mem z2 h
theorem shaped_mem {d : PyData} {ds : List PyData} (h : SeqAt.shaped (.tuple ds) = true) (hm : d ∈ ds) : SeqAt.shaped d = true := by
  have h1 : PyData.canLayAll0 ds = true := SeqAt.canLay_of_shaped h
  have h2 : PyData.depthAll ds + 1 ≤ 64 := SeqAt.depth_of_shaped h
  have h3 := depth_mem hm
  show (d.canLay0 && decide (d.depth ≤ 64)) = true
  rw [canLay_mem h1 hm, decide_eq_true (by omega)]
  rfl
/-- is the thing, a word or a happening, in it -/
def FM.has (m : FM) (d : PyData) : Bool := (m.words.map PyData.str).any (fun z => PyData.eqv z d) || (m.row.map hapD).any (fun z => PyData.eqv z d)
/-- how often it tells of a thing -/
def toldIn (d : PyData) : List (Str × Int) → List Int → Int
  | p :: r, n :: ns => if PyData.eqv (hapD p) d = true then n else toldIn d r ns
  | _, _ => 0
/-! ### equality of data -/
theorem eqv_strs : ∀ a b : List Str, PyData.eqvAll (a.map PyData.str) (b.map PyData.str) = decide (a = b)
  | [], [] => rfl
  | [], y :: b => rfl
  | x :: a, [] => rfl
  | x :: a, y :: b => by
    show ((x == y) && PyData.eqvAll (a.map PyData.str) (b.map PyData.str)) = _
    rw [eqv_strs a b, Bool.eq_iff_iff]
    simp only [Bool.and_eq_true, beq_iff_eq, decide_eq_true_eq, List.cons.injEq]
theorem eqv_ints : ∀ a b : List Int, PyData.eqvAll (a.map PyData.int) (b.map PyData.int) = decide (a = b)
  | [], [] => rfl
  | [], y :: b => rfl
  | x :: a, [] => rfl
  | x :: a, y :: b => by
    show ((x == y) && PyData.eqvAll (a.map PyData.int) (b.map PyData.int)) = _
    rw [eqv_ints a b, Bool.eq_iff_iff]
    simp only [Bool.and_eq_true, beq_iff_eq, decide_eq_true_eq, List.cons.injEq]
theorem eqv_hap (p q : Str × Int) : PyData.eqv (hapD p) (hapD q) = decide (p = q) := by
  obtain ⟨a, b⟩ := p
  obtain ⟨c, d⟩ := q
  show ((a == c) && ((b == d) && true)) = _
  rw [Bool.eq_iff_iff]
  simp only [Bool.and_eq_true, Bool.and_true, beq_iff_eq, decide_eq_true_eq, Prod.mk.injEq]
theorem eqv_row : ∀ a b : List (Str × Int), PyData.eqvAll (a.map hapD) (b.map hapD) = decide (a = b)
  | [], [] => rfl
  | [], y :: b => rfl
  | x :: a, [] => rfl
  | x :: a, y :: b => by
    show (PyData.eqv (hapD x) (hapD y) && PyData.eqvAll (a.map hapD) (b.map hapD)) = _
    rw [eqv_row a b, eqv_hap, Bool.eq_iff_iff]
    simp only [Bool.and_eq_true, decide_eq_true_eq, List.cons.injEq]
theorem FM.eqv (m n : FM) : PyData.eqv m.dat n.dat = decide (m = n) := by
  show (PyData.eqvAll (m.row.map hapD) (n.row.map hapD) && (PyData.eqvAll (m.counts.map PyData.int) (n.counts.map PyData.int) && (PyData.eqvAll (m.layers.map PyData.str) (n.layers.map PyData.str) && (PyData.eqvAll (m.core.map PyData.str) (n.core.map PyData.str) && true)))) = _
  rw [eqv_row, eqv_ints, eqv_strs, eqv_strs, Bool.eq_iff_iff]
  obtain ⟨a, b, c, d⟩ := m
  obtain ⟨a', b', c', d'⟩ := n
  simp only [Bool.and_eq_true, Bool.and_true, decide_eq_true_eq, FM.mk.injEq]
theorem canLay_strs : ∀ {l : List Str}, (∀ x ∈ l, PyData.strOk x = true) → PyData.canLayAll0 (l.map PyData.str) = true
  | [], _ => rfl
  | x :: r, h => by
    show (PyData.strOk x && PyData.canLayAll0 (r.map PyData.str)) = true
    rw [h x List.mem_cons_self, canLay_strs fun y hy => h y (List.mem_cons_of_mem _ hy)]
    rfl
theorem canLay_ints : ∀ l : List Int, PyData.canLayAll0 (l.map PyData.int) = true
  | [] => rfl
  | x :: r => by
    show (true && PyData.canLayAll0 (r.map PyData.int)) = true
    rw [canLay_ints r]
    rfl
theorem canLay_row : ∀ {l : List (Str × Int)}, (∀ p ∈ l, PyData.strOk p.1 = true) → PyData.canLayAll0 (l.map hapD) = true
  | [], _ => rfl
  | x :: r, h => by
    show ((PyData.strOk x.1 && (true && true)) && PyData.canLayAll0 (r.map hapD)) = true
    rw [h x List.mem_cons_self, canLay_row fun y hy => h y (List.mem_cons_of_mem _ hy)]
    rfl
theorem shaped_strs {l : List Str} (h : ∀ x ∈ l, PyData.strOk x = true) : SeqAt.shaped (strsD l) = true := by
  show (PyData.canLayAll0 (l.map PyData.str) && decide ((strsD l).depth ≤ 64)) = true
  rw [canLay_strs h, depth_strs]
  rfl
theorem shaped_row {l : List (Str × Int)} (h : ∀ p ∈ l, PyData.strOk p.1 = true) : SeqAt.shaped (rowD l) = true := by
  have := depth_row l
  show (PyData.canLayAll0 (l.map hapD) && decide ((rowD l).depth ≤ 64)) = true
  rw [canLay_row h, decide_eq_true (by omega)]
  rfl
theorem FM.shaped {m : FM} (ok : m.Ok) : SeqAt.shaped m.dat = true := by
  have := m.depth
  show ((PyData.canLayAll0 (m.row.map hapD) && (PyData.canLayAll0 (m.counts.map PyData.int) && (PyData.canLayAll0 (m.layers.map PyData.str) && (PyData.canLayAll0 (m.core.map PyData.str) && true)))) && decide (m.dat.depth ≤ 64)) = true
  rw [canLay_row ok.tRow, canLay_ints, canLay_strs ok.tLay, canLay_strs ok.tCore, decide_eq_true (by omega)]
  rfl
theorem FM.words_ok {m : FM} (ok : m.Ok) : ∀ x ∈ m.words, PyData.strOk x = true := fun x hx => by
  have hx := mem_srt.mp hx
  rcases List.mem_append.mp hx with h | h
  · exact ok.tCore x h
  · exact ok.tLay x h
theorem srt_comm (a b : List Str) : srt (a ++ b) = srt (b ++ a) := asc_ext (asc_srt _) (asc_srt _) fun z => by
  rw [mem_srt, mem_srt, List.mem_append, List.mem_append, Or.comm]
theorem FM.truth_eq {m : FM} (ok : m.Ok) : m.truth = !decide (m = FM.none) := by
  unfold FM.truth
  rw [Bool.eq_iff_iff]
  simp only [Bool.or_eq_true, Bool.not_eq_true', List.isEmpty_eq_false_iff, decide_eq_false_iff_not]
  constructor
  · rintro (h | h) e
    · exact h (by rw [e]; rfl)
    · exact h (by rw [e]; rfl)
  · intro h
    by_cases h1 : m.layers = []
    · by_cases h2 : m.core = []
      · have h3 := ok.rc h2
        have h4 : m.counts = [] := List.length_eq_zero_iff.mp (by rw [ok.counts, h3]; rfl)
        exact absurd (by obtain ⟨a, b, c, d⟩ := m; simp only at h1 h2 h3 h4; subst h1 h2 h3 h4; rfl) h
      · exact .inr h2
    · exact .inl h1
theorem FM.hollow_eq {m : FM} (ok : m.Ok) : m.hollow = (!decide (m = FM.none) && decide (m.row = [])) := by
  unfold FM.hollow
  by_cases hr : m.row = []
  · have e : m.row.isEmpty = true := by rw [hr]; rfl
    rw [e, decide_eq_true hr, Bool.and_true, Bool.and_true, ← FM.truth_eq ok]
    unfold FM.truth
    cases m.layers <;> cases m.core <;> rfl
  · have e : m.row.isEmpty = false := by
      cases q : m.row with
      | nil => exact absurd q hr
      | cons => rfl
    rw [e, decide_eq_false hr, Bool.and_false, Bool.and_false]
end Fh
/-! The head's facts: defs at any address, and one Bool. -/
namespace Fh
open PySem PySem.Spec PyProof.Rows L2
abbrev AlX : Type := Bool × List He.FnW
def obsX (ex : PySem.W.Frag → Bool) (fn : List He5.DefA) (K : PySem.W.Frag) : AlX := (ex K && fn.all fun d => d.ok K, fn.map fun d => He5.fnA K (d.at_ K))
def valX (fn : List He5.DefA) : AlX := (true, fn.map He5.DefA.val)
def SaysX (ex : PySem.W.Frag → Bool) (fn : List He5.DefA) (K : PySem.W.Frag) : Prop := obsX ex fn K = valX fn
def obsXG (n : Nat) (ex : PySem.W.Frag → Bool) (fn : List He5.DefA) (g : Addr → Option Obj) : AlX := obsX ex fn (He.frG g (He5.asA g n))
def hookX (n : Nat) (ex : PySem.W.Frag → Bool) (fn : List He5.DefA) : PySem.W.Hook where
  α := AlX
  obs := fun s => obsXG n ex fn s.heap.get?
  val := fun _ => valX fn
  says := fun _ h => ∃ K : PySem.W.Frag, K.In h ∧ SaysX ex fn K
  of := fun _ _ e => ⟨_, He.frG_in, e⟩
  keeps := fun _ _ _ ⟨K, hK, c⟩ k => ⟨K, PySem.W.Frag.In.keeps hK k, c⟩
theorem obsXG_eq {n : Nat} {ex : PySem.W.Frag → Bool} {fn : List He5.DefA} {g : Addr → Option Obj} {s : Shared} (h : ∀ a, g a = s.heap.get? a) : obsXG n ex fn g = (hookX n ex fn).obs s := by
  have e : g = s.heap.get? := funext h
  rw [e] <;> rfl
section
variable {ex : PySem.W.Frag → Bool} {fn : List He5.DefA} {K : PySem.W.Frag} {mg : Str → Option Value} {h : Heap}
theorem SaysX.ex_ (c : SaysX ex fn K) : ex K = true := (He.ba (show (ex K && fn.all fun d => d.ok K) = true from congrArg (fun z : AlX => z.1) c)).1
theorem SaysX.def_ (c : SaysX ex fn K) (i : Nat) {d : He5.DefA} (h : fn[i]? = some d := by rfl) : ∃ fd, L2.FunD K d.name d.qual d.params d.body d.scope (d.dvs K) (d.kws K) (d.at_ K) fd := by
  have c2 := (He.ba (show (ex K && fn.all fun d => d.ok K) = true from congrArg (fun z : AlX => z.1) c)).2
  have e : fn.map (fun d => He5.fnA K (d.at_ K)) = fn.map He5.DefA.val := congrArg (fun z : AlX => z.2) c
  have e2 : (fn.map fun d => He5.fnA K (d.at_ K))[i]? = (fn.map He5.DefA.val)[i]? := by rw [e]
  rw [List.getElem?_map, List.getElem?_map, h] at e2
  exact He5.DefA.funD (Option.some.inj e2) (List.all_eq_true.mp c2 d (List.mem_of_getElem? h))
/-- a def of the text: where it stands, its name, its qualified name -/
def defA (st : Stmt) (x q : Str) (at_ : PySem.W.Frag → Addr) : He5.DefA := ⟨at_, x, q, defArgs st, defBody st, defScope st, [], []⟩
theorem SaysX.fnAt (c : SaysX ex fn K) (i : Nat) {st : Stmt} {x q : Str} {a : PySem.W.Frag → Addr} (h : fn[i]? = some (defA st x q a) := by rfl) : ∃ fd, Fn K x q st (a K) fd := by
  obtain ⟨fd, F⟩ := c.def_ i h
  exact ⟨fd, He5.fun_of F⟩
theorem At.mk' {x : Str} {fd : FuncData} {q : Str} {st : Stmt} {ps : List Str} (X : K.In h) (G : h.Ns mainGlobals mg) (g : (He.Fa.glo x).ok K = true) (F : Fn K x q st (He.ga K x) fd) (b : Binds K fd ps []) : At K mg x (He.ga K x) fd ps := ⟨He.glo_ok X G g, F.kp, b⟩
/-- all the built-ins that are asked for -/
def biB (K : PySem.W.Frag) : Bool := (["len", "abs", "int", "range", "tuple", "sorted", "set", "bool", "isinstance", "all", "sum", "max", "min", "enumerate", "str"] : List Str).all fun x => (He.Fa.free x).ok K
theorem biB_ok (X : K.In h) (G : h.Ns mainGlobals mg) (c : biB K = true) : Bi mg := by
  have z := fun (x : Str) hx => He.free_ok X G (List.all_eq_true.mp c x hx)
  exact ⟨z _ (by simp), z _ (by simp), z _ (by simp), z _ (by simp), z _ (by simp), z _ (by simp), z _ (by simp), z _ (by simp), z _ (by simp), z _ (by simp), z _ (by simp), z _ (by simp), z _ (by simp), z _ (by simp), z _ (by simp)⟩
/-- what isinstance asks of an instance's class -/
def tyB (K : PySem.W.Frag) (C : Addr) : Bool := He.eqO (PySem.W.findIn K (.ref C) "__class__") (some (some (.builtin "object.__class__"))) && (He.eqO (PySem.W.specialIn K (.builtin "object.__class__") "__get__") (some (some (.builtin "getset_descriptor.__get__"))) &&
  (decide (PySem.W.takesIn K (.builtin "object.__class__") = some true) && decide (PySem.W.mroIn K C (.type "object") = some true)))
/-- attributes of the class itself are read as usual -/
def creadB (K : PySem.W.Frag) (C : Addr) : Bool := PySem.W.readsIn K C (.type "type") && He.eqO (PySem.W.specialIn K (.ref C) "__getattribute__") (some (some (.builtin "type.__getattribute__")))
theorem creadB_ok {C : Addr} (c : creadB K C = true) : ClX.CRead K C (.type "type") := let ⟨a, b⟩ := He.ba c; ⟨a, He.eqO_ok b⟩
/-- a classmethod: its def -/
abbrev cmA (K : PySem.W.Frag) (C : Addr) (m : Str) : Addr := He5.wf K C "classmethod" m
def cmB (K : PySem.W.Frag) (C : Addr) (m : Str) : Bool := He5.wrapB K C "classmethod" "classmethod.__get__" m && PySem.W.fnIn K (cmA K C m)
theorem cmB_ok {C : Addr} {m : Str} (c : cmB K C m = true) : ClX.CMet K C (.type "type") m (He.ma K C m) (cmA K C m) := let ⟨a, b⟩ := He.ba c; He5.cmet_of a b
/-- a property: its getter -/
def prA (K : PySem.W.Frag) (C : Addr) (m : Str) : Addr := match PySem.W.recIn K (He.ma K C m) "property" with
  | some (.ref f :: _) => f
  | _ => 0
def prB (K : PySem.W.Frag) (C : Addr) (m : Str) : Bool := He.eqO (PySem.W.findIn K (.ref C) m) (some (some (.ref (He.ma K C m)))) && (He.eqO (PySem.W.specialIn K (.ref (He.ma K C m)) "__get__") (some (some (.builtin "property.__get__"))) &&
  (decide (PySem.W.takesIn K (.ref (He.ma K C m)) = some true) && (match PySem.W.recIn K (He.ma K C m) "property" with
    | some (.ref _ :: _) => true
    | _ => false)))
theorem prB_ok {C : Addr} {m : Str} (c : prB K C m = true) : PropOf K C m (He.ma K C m) (prA K C m) := by
  obtain ⟨c1, c⟩ := He.ba c
  obtain ⟨c2, c⟩ := He.ba c
  obtain ⟨c3, c4⟩ := He.ba c
  refine ⟨He.eqO_ok c1, He.eqO_ok c2, of_decide_eq_true c3, ?_⟩
  unfold prA
  split at c4
  · rename_i f r e
    exact ⟨r, by rw [e]⟩
  · cases c4
/-- a method of a class -/
def meB (K : PySem.W.Frag) (C : Addr) (m : Str) : Bool := He.eqO (PySem.W.findIn K (.ref C) m) (some (some (.ref (He.ma K C m)))) && (PySem.W.isFn K (.ref (He.ma K C m)) && PySem.W.keepIn K (.ref (He.ma K C m)))
theorem meB_ok {C : Addr} {m : Str} (c : meB K C m = true) : Meth K C m (He.ma K C m) := by
  obtain ⟨c1, c⟩ := He.ba c
  obtain ⟨c2, c3⟩ := He.ba c
  exact ⟨He.eqO_ok c1, c2, c3⟩
end
end Fh
namespace Lw
open PySem PySem.Spec PyProof.Rows L2 Fh
def top (i : Nat) : Stmt := PySem.Challenge.pw_faultsheard_k01_happenings.main.body.getD i (.Pass ⟨0, 0, 0, 0⟩)
section
variable {P : Program} {w : World} {K : PySem.W.Frag} {mg : Str → Option Value} {base : Heap}
/-! ### the bag of draws -/
abbrev sBag : Stmt := (top 4)
theorem scBag : FnScope ["_law_script", "_law_at", "_law_cell"] ["_law_script", "_law_at"] (defScope sBag) := ⟨rfl, rfl, rfl, by decide +kernel, rfl, by decide +kernel, by decide +kernel⟩
def spBag (K : PySem.W.Frag) : Sp := fun vs H Q _ => ∃ (a : Addr) (ns : List Int) (n : Nat), vs = [.ref a, .int n] ∧ SqL K H a (ns.map V.int) ∧ ∀ (p : Addr) (x0 x1 : Int), H p = none → 0 ≤ x0 → Q (.ref p) (upd H p (.lst [.int x0, .int x1, .int 0]))
theorem okBag {f : Addr} {fd : FuncData} (F : Fn K "_law_bag" "_law_bag" sBag f fd) (T : Bi mg) : FnOk P w K mg base CX0 1 f fd ["_law_script", "_law_at"] (spBag K) := by
  refine F.ok scBag (fun vs H Q E h => ?_) (fun cdv A outer s H vs Q E hr h => ?_)
  · obtain ⟨a, ns, n, rfl, _⟩ := h
    rfl
  · obtain ⟨a, ns, n, rfl, hS, k⟩ := h
    refine ⟨_, pss_cons (ps_set (i := 2) scBag.nd rfl (Or.inl rfl) (pe_ifExp (pt_cmpR op_lt (pv 1) (pe_callB call_len (by rfl) T.len bt_len (pa_cons (pv 0) pa_nil)) (nomark _))
        (pe_callB call_abs (by rfl) T.abs bt_abs (pa_cons (pe_ix ix_list (pv 0) (pv 1) (fun _ _ => rfl)) pa_nil)) pe_int))
      (pss_one (ps_ret (pe_lst (pa_cons (pe_ifExp (pt_cmpR op_ge (pv 2) (pe_op op_pow pe_int pe_int) (nomark _)) (pv 2) pe_int)
        (pa_cons (pe_op op_add (pe_op op_add (pe_op op_mod (pe_callTy call_int1 (by rfl) T.int bt_int (pa_cons (pv 2) pa_nil)) pe_int) (pe_op op_mul pe_int (pv 1))) pe_int) (pa_cons pe_int pa_nil)))))), ?_⟩
    refine ⟨_, rfl, _, rfl, _, ns.length, rfl, Or.inl ⟨_, hS, by simp⟩, _, _, rfl, rfl, _, rfl, ?_⟩
    have rest : ∀ (c x0 : Int) (p : Addr), 0 ≤ x0 → H p = none → Q (.ref p) (upd H p (.lst [.int x0, .int (c % 1000000007 + 104729 * (n : Int) + 11), .int 0])) := fun c x0 p h0 hp => k p _ _ hp h0
    refine if2 (fun hlt => ?_) (fun hlt => ?_)
    · have hn : n < ns.length := by omega
      refine ⟨_, rfl, _, rfl, a, _, _, .int ns[n], rfl, rfl, hS, ?_, _, rfl, ?_⟩
      · exact atI_nat (by rw [List.getElem?_map, List.getElem?_eq_getElem hn]; rfl)
      · have hc : 0 ≤ (if ns[n] < 0 then -ns[n] else ns[n]) := by split <;> omega
        refine ⟨_, rfl, _, _, rfl, rfl, ⟨by decide, by decide, by decide⟩, _, _, rfl, rfl, _, rfl, if2 (fun hb => ?_) (fun hb => ?_)⟩
        · refine ⟨_, rfl, _, rfl, Or.inl ⟨_, rfl, _, _, rfl, rfl, (show (0 : Int) < 1000000007 by decide), _, rfl, _, _, rfl, rfl, Or.inl ⟨by decide, by decide⟩, _, _, rfl, rfl, _, _, rfl, rfl, ?_⟩⟩
          exact ⟨by show 3 ≤ sizeLine; decide, fun p hp => rest _ _ p hc hp⟩
        · refine ⟨_, rfl, Or.inl ⟨_, rfl, _, _, rfl, rfl, (show (0 : Int) < 1000000007 by decide), _, rfl, _, _, rfl, rfl, Or.inl ⟨by decide, by decide⟩, _, _, rfl, rfl, _, _, rfl, rfl, ?_⟩⟩
          exact ⟨by show 3 ≤ sizeLine; decide, fun p hp => rest _ _ p (by decide) hp⟩
    · refine ⟨_, rfl, _, _, rfl, rfl, ⟨by decide, by decide, by decide⟩, _, _, rfl, rfl, _, rfl, if2 (fun hb => ?_) (fun hb => ?_)⟩
      · exact absurd hb (by decide)
      · refine ⟨_, rfl, Or.inl ⟨_, rfl, _, _, rfl, rfl, (show (0 : Int) < 1000000007 by decide), _, rfl, _, _, rfl, rfl, Or.inl ⟨by decide, by decide⟩, _, _, rfl, rfl, _, _, rfl, rfl, ?_⟩⟩
        exact ⟨by show 3 ≤ sizeLine; decide, fun p hp => rest _ _ p (by decide) hp⟩
/-! ### one draw -/
abbrev sDraw : Stmt := (top 5)
theorem scDraw : FnScope ["_law_bag_here", "_law_many", "_law_digit", "_law_mixed"] ["_law_bag_here", "_law_many"] (defScope sDraw) := ⟨rfl, rfl, rfl, by decide +kernel, rfl, by decide +kernel, by decide +kernel⟩
/-- a number from 0 to below m -/
def spDraw : Sp := fun vs H Q _ => ∃ (b : Addr) (m : Int), vs = [.ref b, .int m] ∧ Bag H b ∧ 0 < m ∧ m.natAbs < 2 ^ 128 ∧ ∀ (r : Int) (H' : Hp), 0 ≤ r → r < m → Bag H' b → ExB b H H' → (∀ p, H' p = none → H p = none) → Q (.int r) H'
theorem okDraw {f : Addr} {fd : FuncData} (F : Fn K "_law_draw" "_law_draw" sDraw f fd) (T : Bi mg) : FnOk P w K mg base CX0 1 f fd ["_law_bag_here", "_law_many"] spDraw := by
  refine F.ok scDraw (fun vs H Q E h => ?_) (fun cdv A outer s H vs Q E hr h => ?_)
  · obtain ⟨b, m, rfl, _⟩ := h
    rfl
  · obtain ⟨b, m, rfl, B, hm, hm9, k⟩ := h
    refine ⟨_, pss_cons (ps_if (pt_cmpR op_gt (pe_ix ix_list (pv 0) pe_int (fun _ _ => rfl)) pe_int (nomark _))
        (pss_cons (ps_set (i := 2) scDraw.nd rfl (Or.inl rfl) (pe_op op_mod (pe_callTy call_int1 (by rfl) T.int bt_int (pa_cons (pe_ix ix_list (pv 0) pe_int (fun _ _ => rfl)) pa_nil)) (pv 1)))
        (pss_cons (ps_asg (pe_op op_fdivW (pe_ix ix_list (pv 0) pe_int (fun _ _ => rfl)) (pv 1)) (pg_sub (pv 0) pe_int set_list))
        (pss_one (ps_ret (pv 2))))) pss_nil)
      (pss_cons (ps_asg (pe_op op_add (pe_ix ix_list (pv 0) pe_int (fun _ _ => rfl)) pe_int) (pg_sub (pv 0) pe_int set_list))
      (pss_cons (ps_set (i := 3) scDraw.nd rfl (Or.inl rfl) (pe_op op_mod (pe_callTy call_int1 (by rfl) T.int bt_int (pa_cons (pe_op op_mul (pe_op op_add (pe_ix ix_list (pv 0) pe_int (fun _ _ => rfl)) (pe_op op_mul pe_int (pe_ix ix_list (pv 0) pe_int (fun _ _ => rfl)))) pe_int) pa_nil)) pe_int))
      (pss_cons (ps_set (i := 3) scDraw.nd rfl (Or.inl rfl) (pe_op op_mod (pe_callTy call_int1 (by rfl) T.int bt_int (pa_cons (pe_op op_add (pe_op op_mul (pv 3) (pv 3)) (pe_op op_mul pe_int (pe_ix ix_list (pv 0) pe_int (fun _ _ => rfl)))) pa_nil)) pe_int))
      (pss_one (ps_ret (pe_op op_mod (pe_callTy call_int1 (by rfl) T.int bt_int (pa_cons (pe_op op_fdiv (pv 3) pe_int) pa_nil)) (pv 1))))))), ?_⟩
    obtain ⟨x0, x1, x2, hb, h0⟩ := B
    refine ⟨_, rfl, b, _, _, .int x0, rfl, rfl, SqL.of hb, rfl, _, _, rfl, rfl, _, rfl, if2 (fun hp => ?_) (fun hp => ?_)⟩
    · refine ⟨_, rfl, b, _, _, .int x0, rfl, rfl, SqL.of hb, rfl, Or.inl ⟨_, rfl, _, rfl, _, _, rfl, rfl, hm, ?_⟩⟩
      refine ⟨_, rfl, b, _, _, .int x0, rfl, rfl, SqL.of hb, rfl, _, rfl, _, _, rfl, rfl, wide_div hm hm9 (by decide) (by decide), ?_⟩
      refine ⟨_, rfl, b, _, _, 0, rfl, rfl, hb, rfl, ?_⟩
      refine ⟨_, rfl, k (x0 % m) _ (Int.emod_nonneg _ (by omega)) (Int.emod_lt_of_pos _ hm) ⟨x0 / m, x1, x2, upd_same, Int.ediv_nonneg h0 (by omega)⟩ ExB.rfl.put fun p hp => ?_⟩
      by_cases e : p = b
      · rw [e, upd_same] at hp; cases hp
      · rw [upd_ne e] at hp; exact hp
    · refine ⟨_, rfl, b, _, _, .int x2, rfl, rfl, SqL.of hb, rfl, _, _, rfl, rfl, _, rfl, b, _, _, 2, rfl, rfl, hb, rfl, ?_⟩
      have hb2 : (upd H b (.lst [.int x0, .int x1, .int (x2 + 1)])) b = some (.lst [.int x0, .int x1, .int (x2 + 1)]) := upd_same
      refine ⟨_, rfl, b, _, _, .int x1, rfl, rfl, SqL.of hb2, rfl, _, rfl, b, _, _, .int (x2 + 1), rfl, rfl, SqL.of hb2, rfl, _, _, rfl, rfl, Or.inl ⟨by decide, by decide⟩, _, _, rfl, rfl, _, _, rfl, rfl, Or.inr ⟨by decide, by decide⟩, Or.inl ⟨_, rfl, _, _, rfl, rfl, (show (0 : Int) < 2147483647 by decide), ?_⟩⟩
      generalize hq : (x1 + 7919 * (x2 + 1)) * 48271 % 2147483647 = q
      have q0 : 0 ≤ q := by rw [← hq]; exact Int.emod_nonneg _ (by decide)
      have q1 : q < 2147483647 := by rw [← hq]; exact Int.emod_lt_of_pos _ (by decide)
      refine ⟨_, rfl, _, rfl, _, _, rfl, rfl, Or.inl ⟨by omega, by omega⟩, _, rfl, b, _, _, .int (x2 + 1), rfl, rfl, SqL.of hb2, rfl, _, _, rfl, rfl, Or.inl ⟨by decide, by decide⟩, _, _, rfl, rfl, Or.inl ⟨_, rfl, _, _, rfl, rfl, (show (0 : Int) < 2147483629 by decide), ?_⟩⟩
      generalize hz : (q * q + 65537 * (x2 + 1)) % 2147483629 = z
      refine ⟨_, rfl, _, _, rfl, rfl, ⟨by decide, by decide⟩, Or.inl ⟨_, rfl, _, rfl, _, _, rfl, rfl, hm, ?_⟩⟩
      refine k _ _ (Int.emod_nonneg _ (by omega)) (Int.emod_lt_of_pos _ hm) ⟨x0, x1, x2 + 1, upd_same, h0⟩ ExB.rfl.put fun p hp => ?_
      by_cases e : p = b
      · rw [e, upd_same] at hp; cases hp
      · rw [upd_ne e] at hp; exact hp
/-! ### one of some things -/
abbrev sOne : Stmt := (top 6)
theorem scOne : FnScope ["_law_bag_here", "_law_some"] ["_law_bag_here", "_law_some"] (defScope sOne) := ⟨rfl, rfl, rfl, by decide +kernel, rfl, by decide +kernel, by decide +kernel⟩
def spOne (K : PySem.W.Frag) : Sp := fun vs H Q _ => ∃ (b a : Addr) (xs : List V), vs = [.ref b, .ref a] ∧ Bag H b ∧ a ≠ b ∧ SqL K H a xs ∧ xs ≠ [] ∧ xs.length ≤ 100000 ∧ ∀ (v : V) (H' : Hp), v ∈ xs → Bag H' b → ExB b H H' → (∀ p, H' p = none → H p = none) → Q v H'
theorem okOne {f fD : Addr} {fd fdD : FuncData} (F : Fn K "_law_one" "_law_one" sOne f fd) (T : Bi mg) (GD : FnOk P w K mg base CX0 1 fD fdD ["_law_bag_here", "_law_many"] spDraw) (AD : At K mg "_law_draw" fD fdD ["_law_bag_here", "_law_many"]) :
    FnOk P w K mg base CX0 2 f fd ["_law_bag_here", "_law_some"] (spOne K) := by
  refine F.ok scOne (fun vs H Q E h => ?_) (fun cdv A outer s H vs Q E hr h => ?_)
  · obtain ⟨b, a, xs, rfl, _⟩ := h
    rfl
  · obtain ⟨b, a, xs, rfl, B, hab, hS, hne, hlen, k⟩ := h
    refine ⟨_, pss_one (ps_ret (pe_ix ix_list (pv 1) (pe_call GD hr rfl AD.g AD.k AD.b .nil pass0 (pa_cons (pv 0) (pa_cons (pe_callB call_len (by rfl) T.len bt_len (pa_cons (pv 1) pa_nil)) pa_nil))) (fun _ _ => rfl))), ?_⟩
    have hpos : 0 < xs.length := List.length_pos_iff.mpr hne
    refine ⟨_, rfl, _, rfl, _, rfl, _, xs.length, rfl, Or.inl ⟨_, hS, rfl⟩, b, (xs.length : Int), rfl, B, by omega, ?_, fun r H' r0 r1 B' e fr => ?_⟩
    · exact Nat.lt_of_le_of_lt (show (xs.length : Int).natAbs ≤ 100000 by omega) (by decide)
    · obtain ⟨j, rfl⟩ : ∃ j : Nat, r = (j : Int) := ⟨r.toNat, by omega⟩
      have hr' : j < xs.length := by omega
      have hS' : SqL K H' a xs := hS.imp (fun z => by
        rcases z with z | ⟨o, z⟩
        · exact .inl (e a _ hab z)
        · exact .inr ⟨o, e a _ hab z⟩) id
      exact ⟨a, xs, j, xs[j], rfl, rfl, hS', atI_nat (List.getElem?_eq_getElem hr'), k _ H' (List.getElem_mem hr') B' e fr⟩
/-! ### a name -/
abbrev sName : Stmt := (top 7)
abbrev nName : List Str := ["_law_bag_here", "_law_taken", "_law_text", "_law_barred", "_law_letters", "_law_name_here", "_law_fresh", "_law_turn", "_law_sign", "_law_one_here"]
theorem scName : FnScope nName ["_law_bag_here", "_law_taken"] (defScope sName) := ⟨rfl, rfl, rfl, by decide +kernel, rfl, by decide +kernel, by decide +kernel⟩
def spName (K : PySem.W.Frag) : Sp := fun vs H Q _ => ∃ (b a : Addr) (tk : List Str), vs = [.ref b, .ref a] ∧ Bag H b ∧ a ≠ b ∧ SqL K H a (tk.map V.str) ∧ tk.length ≤ 26 ∧ ∀ (z : Str) (H' : Hp), IsName z → z ∉ tk → Bag H' b → ExB b H H' → Q (.str z) H'
theorem okNameF {f fD : Addr} {fd fdD : FuncData} (F : Fn K "_law_name" "_law_name" sName f fd) (T : Bi mg) (GD : FnOk P w K mg base CX0 1 fD fdD ["_law_bag_here", "_law_many"] spDraw) (AD : At K mg "_law_draw" fD fdD ["_law_bag_here", "_law_many"]) :
    FnOk P w K mg base CX0 2 f fd ["_law_bag_here", "_law_taken"] (spName K) := by
  refine F.ok scName (fun vs H Q E h => ?_) (fun cdv A outer s H vs Q E hr h => ?_)
  · obtain ⟨b, a, xs, rfl, _⟩ := h
    rfl
  · obtain ⟨b, a, tk, rfl, B, hab, hS, hlen, k⟩ := h
    refine ⟨_, pss_cons (ps_set (i := 2) scName.nd rfl (Or.inl rfl) pe_str)
      (pss_cons (ps_set (i := 3) scName.nd rfl (Or.inr rfl) (pe_split (pe_op op_add_str (pv 2) pe_str) pe_str))
      (pss_cons (ps_set (i := 4) scName.nd rfl (Or.inr rfl) pe_str)
      (pss_cons (ps_set (i := 5) scName.nd rfl (Or.inr rfl) (pe_join pe_str (pe_lc (own := [("_law_turn", 7)]) (g := gName 7) (tt := tYes) (by rfl) scName.nd
          (pi_range1 (by rfl) T.range (pa_cons (pe_op op_add pe_int (pe_call GD hr rfl AD.g AD.k AD.b .nil pass0 (pa_cons (pv 0) (pa_cons pe_int pa_nil)))) pa_nil))
          (blkOk_by (own := [("_law_turn", 7)]) (N := nName) (sc := defScope sName) (by decide +kernel)) (fun _ _ _ _ _ => pg_name (i := 7) scName.nd rfl (Or.inl rfl)) (fun _ _ _ _ _ => pts_nil)
          (fun _ _ _ _ _ => pe_ix ix_str (pv 4) (pe_call GD hr rfl AD.g AD.k AD.b .nil pass0 (pa_cons (pv 0) (pa_cons pe_int pa_nil))) (fun _ _ => rfl)))))
      (pss_cons (ps_set (i := 6) scName.nd rfl (Or.inl rfl) (pe_op op_cat (pe_op op_cat (pe_lst (pa_cons (pv 5) pa_nil))
          (pe_lc (own := [("_law_sign", 8)]) (g := gName 8) (tt := tYes) (by rfl) scName.nd (pi_str (pv 4)) (blkOk_by (own := [("_law_sign", 8)]) (N := nName) (sc := defScope sName) (by decide +kernel))
            (fun _ _ _ _ _ => pg_name (i := 8) scName.nd rfl (Or.inl rfl)) (fun _ _ _ _ _ => pts_nil) (fun _ _ _ _ _ => pe_op op_add_str (pv 5) (pv 8))))
          (pe_lc (own := [("_law_sign", 8)]) (g := gName 8) (tt := tYes) (by rfl) scName.nd (pi_str (pv 4)) (blkOk_by (own := [("_law_sign", 8)]) (N := nName) (sc := defScope sName) (by decide +kernel))
            (fun _ _ _ _ _ => pg_name (i := 8) scName.nd rfl (Or.inl rfl)) (fun _ _ _ _ _ => pts_nil) (fun _ _ _ _ _ => pe_op op_add_str (pe_op op_add_str (pv 5) pe_str) (pv 8)))))
      (pss_one (ps_ret (pe_ix ix_list (pe_lc (own := [("_law_one_here", 9)]) (g := gName 9) (tt := tAnd (tTest (tOp (rIn K true) (tVar 9) (tVar 3))) (tTest (tOp (rIn K true) (tVar 9) (tVar 1)))) (te := tVar 9) (by rfl) scName.nd (pi_list (pv 6)) (blkOk_by (own := [("_law_one_here", 9)]) (N := nName) (sc := defScope sName) (by decide +kernel))
            (fun _ _ _ _ _ => pg_name (i := 9) scName.nd rfl (Or.inl rfl))
            (fun _ _ _ _ _ => pts_one (PW.pt (pw_and (pt_cmpR op_notIn_seq (pv 9) (pv 3) (by rfl)) (pw_and1 (pt_cmpR op_notIn_seq (pv 9) (pv 1) (by rfl)))))) (fun _ _ _ _ _ => pv 9)) pe_int (fun _ _ => rfl)))))))), ?_⟩
    have eB : Txt.split (("again as def else except fails finally from if in maybe new no none note outside" : Str) ++ " pass raise repeat return stop try use well yes out") " " = barredL := by decide +kernel
    refine ⟨_, rfl, _, _, rfl, rfl, (by decide +kernel), ⟨_, rfl⟩, _, _, rfl, rfl, (by decide +kernel), (by decide +kernel), ?_⟩
    rw [eB]
    intro p1 hp1
    have e1 : Ex H (upd H p1 (.lst (barredL.map V.str))) := Ex.new hp1
    have hb1 : (upd H p1 (.lst (barredL.map V.str))) p1 = some (.lst (barredL.map V.str)) := upd_same
    have B1 : Bag (upd H p1 (.lst (barredL.map V.str))) b := B.ex e1
    have n1 : p1 ≠ b := fun z => by obtain ⟨_, _, _, q, _⟩ := B; rw [← z, hp1] at q; cases q
    generalize (upd H p1 (.lst (barredL.map V.str))) = H1 at e1 hb1 B1
    refine ⟨⟨_, rfl⟩, _, rfl, b, 6, rfl, B1, by decide, by decide, fun r H2 r0 r1 B2 e2 _ => ?_⟩
    refine ⟨_, _, rfl, rfl, _, rfl, by omega, by omega, fun D hD => ?_⟩
    have nD : D ≠ b := fun z => by obtain ⟨_, _, _, q, _⟩ := B2; rw [← z, hD] at q; cases q
    refine lc_range (lo := 0) (n := (1 + r).toNat) (fun i H' => ∃ cs : List Nat, cs.length = i ∧ (∀ c ∈ cs, 97 ≤ c ∧ c ≤ 122) ∧ H' D = some (.lst ((cs.map sgn).map V.str)) ∧ Bag H' b ∧ ExB b H2 H') ?_ ?_ ?_
    · exact ⟨[], rfl, (fun c hc => by cases hc), upd_same, B2.new hD, ExB.rfl.new hD⟩
    · rintro i H3 hi ⟨cs, hl, hab', hD3, B3, e3⟩
      refine ⟨rfl, _, rfl, _, rfl, b, 26, rfl, B3, by decide, by decide, fun q H4 q0 q1 B4 e4 _ => ?_⟩
      have hq : atI (TL.tl lettersS) q = some (97 + q.toNat) := by
        obtain ⟨j, rfl⟩ : ∃ j : Nat, q = (j : Int) := ⟨q.toNat, by omega⟩
        refine atI_nat ?_
        rw [letters_tl, List.getElem?_map, List.getElem?_range (by omega)]
        rfl
      refine ⟨lettersS, q, 97 + q.toNat, rfl, rfl, (by decide +kernel), hq, _, e4 D _ nD hD3, ?_, cs ++ [97 + q.toNat], ?_, ?_, ?_, ?_, ?_⟩
      · rw [List.length_map, List.length_map, hl]
        exact Nat.lt_of_lt_of_le (show i < 10 by omega) (by decide)
      · rw [List.length_append, hl]
        rfl
      · intro c hc
        rcases List.mem_append.mp hc with z | z
        · exact hab' c z
        · rw [List.mem_singleton.mp z]
          omega
      · rw [upd_same, List.map_append, List.map_append]
        rfl
      · obtain ⟨x0, x1, x2, h, h0⟩ := B4
        exact ⟨x0, x1, x2, by rw [upd_ne (Ne.symm nD)]; exact h, h0⟩
      · intro x o nx hx
        have nxD : x ≠ D := ne_of_none hx hD
        rw [upd_ne nxD]
        exact e4 x o nx (e3 x o nx hx)
    · rintro H3 ⟨cs, hl, hab', hD3, B3, e3⟩
      have hl6 : cs.length ≤ 6 := by omega
      have hl1 : 1 ≤ cs.length := by omega
      refine ⟨_, D, cs.map sgn, rfl, rfl, Or.inl (SqL.of hD3), ?_, ?_⟩
      · have e0 : ("" : Str).length = 0 := by decide +kernel
        rw [e0, Nat.mul_zero, Nat.add_zero, List.map_map]
        have : (cs.map ((fun x : Str => x.length) ∘ sgn)).sum = cs.length := by
          clear hD3 hab' hl hl6 hl1
          induction cs with
          | nil => rfl
          | cons c r ih =>
            rw [List.map_cons, List.sum_cons, ih, List.length_cons]
            show 1 + r.length = r.length + 1
            omega
        rw [this]
        omega
      have et := join_sgns cs
      generalize hnm : Txt.join ("" : Str) (cs.map sgn) = nm at et
      have nl : nm.length ≤ 6 := by rw [← tl_len, et]; exact hl6
      -- the fresh ones
      have e13 : ExB b H1 H3 := e2.trans e3
      have hb3 : H3 p1 = some (.lst (barredL.map V.str)) := e13 p1 _ n1 hb1
      have hS3 : SqL K H3 a (tk.map V.str) := by
        have z1 := ex_l e1 hS
        exact z1.imp (fun r => by
          rcases r with r | ⟨o, r⟩
          · exact .inl (e13 a _ hab r)
          · exact .inr ⟨o, e13 a _ hab r⟩) id
      refine ⟨_, rfl, by show 1 ≤ sizeLine; decide, fun q1 hq1 => ?_⟩
      refine ⟨_, rfl, _, rfl, fun D1 hD1 => ?_⟩
      refine lc_it (walk_str (z := lettersS)) (fun i H' => Ex (upd H3 q1 (.lst [.str nm])) H' ∧ H' D1 = some (.lst (((TL.tl lettersS).take i).map fun c => V.str (nm ++ sgn c)))) ?_ (fun _ _ _ _ => trivial) ?_ ?_
      · exact ⟨Ex.new hD1, upd_same⟩
      · rintro i x H4 H4' hi p4 ⟨rfl, c, hc, rfl⟩
        refine ⟨rfl, _, rfl, _, rfl, nm, sgn c, rfl, rfl, ?_, ?_⟩
        · show nm.length + 1 ≤ sizeLine
          rw [sizeLine_eq]
          omega
        · have hz : (((TL.tl lettersS).take i).map fun c => V.str (nm ++ sgn c)).length < sizeLine := by
            rw [List.length_map]
            exact Nat.lt_of_le_of_lt (List.length_take_le' _ _) (by rw [letters_tl]; decide)
          obtain ⟨acc, h1, h2, h3, h4⟩ := lc_leaf (y := V.str (nm ++ sgn c)) hD1 p4 Ex.rfl hz
          refine ⟨acc, h1, h2, h3, ?_⟩
          rw [h4, List.take_add_one]
          have : (TL.tl lettersS)[i]? = some c := by
            unfold TL.tl
            rw [Array.getElem?_toList]
            exact hc
          rw [this, List.map_append]
          rfl
      · rintro H4 ⟨p4, q4⟩
        have et4 : (TL.tl lettersS).take lettersS.cps.size = TL.tl lettersS := by decide +kernel
        rw [et4] at q4
        have hq4 : H4 q1 = some (.lst [.str nm]) := p4 q1 _ upd_same
        refine ⟨q1, D1, _, _, rfl, rfl, hq4, q4, ?_, fun q5 hq5 => ?_⟩
        · rw [List.length_map, letters_tl]
          show 1 + 26 ≤ sizeLine
          decide
        have e35 : Ex H3 (upd H4 q5 (.lst ([V.str nm] ++ (TL.tl lettersS).map fun c => V.str (nm ++ sgn c)))) := Ex.trans (Ex.trans (Ex.new hq1) p4) (Ex.new hq5)
        have h5 : (upd H4 q5 (.lst ([V.str nm] ++ (TL.tl lettersS).map fun c => V.str (nm ++ sgn c)))) q5 = some (.lst ([V.str nm] ++ (TL.tl lettersS).map fun c => V.str (nm ++ sgn c))) := upd_same
        generalize (upd H4 q5 (.lst ([V.str nm] ++ (TL.tl lettersS).map fun c => V.str (nm ++ sgn c)))) = H5 at e35 h5
        refine ⟨_, rfl, _, rfl, fun D2 hD2 => ?_⟩
        refine lc_it (walk_str (z := lettersS)) (fun i H' => Ex H5 H' ∧ H' D2 = some (.lst (((TL.tl lettersS).take i).map fun c => V.str (nm ++ "q" ++ sgn c)))) ?_ (fun _ _ _ _ => trivial) ?_ ?_
        · exact ⟨Ex.new hD2, upd_same⟩
        · rintro i x H6 H6' hi p6 ⟨rfl, c, hc, rfl⟩
          have eq1 : ("q" : Str).length = 1 := by decide +kernel
          refine ⟨rfl, _, rfl, nm, _, rfl, rfl, ?_, _, rfl, nm ++ "q", sgn c, rfl, rfl, ?_, ?_⟩
          · rw [eq1, sizeLine_eq]
            omega
          · show (nm ++ "q").length + 1 ≤ sizeLine
            rw [← tl_len, TL.tl_append, List.length_append, tl_len, tl_q, sizeLine_eq]
            simp only [List.length_cons, List.length_nil]
            omega
          · have hz : (((TL.tl lettersS).take i).map fun c => V.str (nm ++ "q" ++ sgn c)).length < sizeLine := by
              rw [List.length_map]
              exact Nat.lt_of_le_of_lt (List.length_take_le' _ _) (by rw [letters_tl]; decide)
            obtain ⟨acc, h1, h2, h3, h4⟩ := lc_leaf (y := V.str (nm ++ "q" ++ sgn c)) hD2 p6 Ex.rfl hz
            refine ⟨acc, h1, h2, h3, ?_⟩
            rw [h4, List.take_add_one]
            have : (TL.tl lettersS)[i]? = some c := by
              unfold TL.tl
              rw [Array.getElem?_toList]
              exact hc
            rw [this, List.map_append]
            rfl
        · rintro H6 ⟨p6, q6⟩
          rw [et4] at q6
          refine ⟨q5, D2, _, _, rfl, rfl, (p6 q5 _ h5), q6, ?_, fun q7 hq7 => ?_⟩
          · rw [List.length_append, List.length_map, List.length_map, letters_tl]
            show 1 + 26 + 26 ≤ sizeLine
            decide
          have efr : ([V.str nm] ++ (TL.tl lettersS).map fun c => V.str (nm ++ sgn c)) ++ ((TL.tl lettersS).map fun c => V.str (nm ++ "q" ++ sgn c)) = (freshOf nm).map V.str := by
            unfold freshOf
            rw [List.map_append, List.map_append, List.map_map, List.map_map]
            rfl
          rw [efr]
          have e37 : Ex H3 (upd H6 q7 (.lst ((freshOf nm).map V.str))) := Ex.trans (Ex.trans e35 p6) (Ex.new hq7)
          have h7 : (upd H6 q7 (.lst ((freshOf nm).map V.str))) q7 = some (.lst ((freshOf nm).map V.str)) := upd_same
          generalize (upd H6 q7 (.lst ((freshOf nm).map V.str))) = H7 at e37 h7
          -- those that are free
          refine ⟨_, rfl, q7, rfl, ⟨_, SqL.of h7⟩, fun D3 hD3 => ?_⟩
          refine lc_it (walk_list (xs := (freshOf nm).map V.str)) (fun i H' => Ex H7 H' ∧ H' D3 = some (.lst ((((freshOf nm).take i).filter (okName tk)).map V.str))) ?_ (fun i H' _ p => SqL.of (p.1 q7 _ h7)) ?_ ?_
          · exact ⟨Ex.new hD3, upd_same⟩
          · rintro i x H9 H8 hi p8 ⟨rfl, hx⟩
            rw [List.getElem?_map] at hx
            obtain ⟨z, hz, rfl⟩ := Option.map_eq_some_iff.mp hx
            have hbr : SqL K H8 p1 (barredL.map V.str) := SqL.of (p8.1 p1 _ (e37 p1 _ hb3))
            have htk : SqL K H8 a (tk.map V.str) := ex_l p8.1 (ex_l e37 hS3)
            refine ⟨rfl, _, rfl, _, rfl, p1, _, rfl, Or.inl hbr, rfl, flat_strs _, !decide (z ∈ barredL), congrArg V.bl (congrArg (!·) (inV_strs z barredL)), ?_⟩
            have hlz : ((((freshOf nm).take i).filter (okName tk)).map V.str).length < sizeLine := by
              rw [List.length_map]
              exact Nat.lt_of_le_of_lt (Nat.le_trans (List.length_filter_le _ _) (List.length_take_le' _ _)) (by rw [fresh_len]; decide)
            have tail : ((freshOf nm).take (i + 1)).filter (okName tk) = ((freshOf nm).take i).filter (okName tk) ++ (if okName tk z = true then [z] else []) := by
              rw [List.take_add_one, hz, List.filter_append]
              congr 1
              show [z].filter (okName tk) = _
              by_cases q : okName tk z = true
              · rw [if_pos q]
                simp [q]
              · rw [if_neg q]
                simp [q]
            by_cases q1 : z ∈ barredL
            · have ok : okName tk z = false := by simp [okName, q1]
              rw [decide_eq_true q1]
              refine ⟨p8.1, ?_⟩
              rw [tail, ok]
              simpa using p8.2
            · rw [decide_eq_false q1]
              refine ⟨_, rfl, _, rfl, a, _, rfl, Or.inl htk, rfl, flat_strs _, !decide (z ∈ tk), congrArg V.bl (congrArg (!·) (inV_strs z tk)), ?_⟩
              by_cases q2 : z ∈ tk
              · have ok : okName tk z = false := by simp [okName, q2]
                rw [decide_eq_true q2]
                refine ⟨p8.1, ?_⟩
                rw [tail, ok]
                simpa using p8.2
              · have ok : okName tk z = true := by simp [okName, q1, q2]
                rw [decide_eq_false q2]
                refine ⟨_, rfl, ?_⟩
                obtain ⟨acc, h1, h2, h3, h4⟩ := lc_leaf (y := V.str z) hD3 p8 Ex.rfl hlz
                refine ⟨acc, h1, h2, h3, ?_⟩
                rw [h4, tail, ok, List.map_append]
                rfl
          · rintro H9 ⟨p9, q9⟩
            have ef : (freshOf nm).take ((freshOf nm).map V.str).length = freshOf nm := by
              rw [List.length_map]
              exact List.take_of_length_le (Nat.le_refl _)
            rw [ef] at q9
            have hne := fresh_some nm tk hlen
            have hnm := fun z => fresh_names (n := nm) (tk := tk) (z := z) (by rw [et]; exact hl1) (by rw [et]; exact hl6) (by rw [et]; exact hab')
            cases hfl : (freshOf nm).filter (okName tk) with
            | nil => exact absurd hfl hne
            | cons z rest =>
              rw [hfl] at q9
              obtain ⟨z1, z2⟩ := hnm z (by rw [hfl]; exact List.mem_cons_self)
              refine ⟨D3, _, 0, .str z, rfl, rfl, SqL.of q9, atI_nat (j := 0) rfl, k z H9 z1 z2 ?_ ?_⟩
              · exact B3.ex (Ex.trans e37 p9)
              · exact (e1.b.trans (e13.trans (Ex.trans e37 p9).b))
/-! ### the same value, with the same kinds throughout -/
abbrev sLike : Stmt := (top 8)
abbrev nLike : List Str := ["_law_actual", "_law_wanted", "_law_at"]
theorem scLike : FnScope nLike ["_law_actual", "_law_wanted"] (defScope sLike) := ⟨rfl, rfl, rfl, by decide +kernel, rfl, by decide +kernel, by decide +kernel⟩
def spLike (K : PySem.W.Frag) : Nat → Sp
  | 0 => fun _ _ _ _ => False
  | n + 1 => fun vs H Q _ => ∃ (x y : V) (d : PyData), vs = [x, y] ∧ Dp K H x d ∧ Dp K H y d ∧ noList d = true ∧ d.depth ≤ n ∧ ∀ H', Ex H H' → Q (.bl true) H'
theorem okLike {f : Addr} {fd : FuncData} (F : Fn K "_law_like" "_law_like" sLike f fd) (T : Bi mg) (AL : At K mg "_law_like" f fd ["_law_actual", "_law_wanted"]) : ∀ n, FnOk P w K mg base CX0 n f fd ["_law_actual", "_law_wanted"] (spLike K n)
  | 0 => fnOk_never
  | n + 1 => by
    have GL := okLike (f := f) (fd := fd) F T AL n
    refine F.ok scLike (fun vs H Q E h => ?_) (fun cdv A outer s H vs Q E hr h => ?_)
    · obtain ⟨x, y, d, rfl, _⟩ := h
      rfl
    · obtain ⟨x, y, d, rfl, hx, hy, hnl, hdp, k⟩ := h
      refine ⟨_, pss_cons (ps_if (pt_val (pe_callB call_isi (by rfl) T.isinstance bt_isinstance (pa_cons (pv 1) (pa_cons (pe_bltn (v := .ty "tuple") (by rfl) T.tuple bt_tuple rfl) pa_nil))))
          (pss_cons (ps_if (PW.pt (pw_or (pt_not (pt_val (pe_callB call_isi (by rfl) T.isinstance bt_isinstance (pa_cons (pv 0) (pa_cons (pe_bltn (v := .ty "tuple") (by rfl) T.tuple bt_tuple rfl) pa_nil)))))
              (pw_or1 (pt_cmpR op_ne (pe_callB call_len (by rfl) T.len bt_len (pa_cons (pv 0) pa_nil)) (pe_callB call_len (by rfl) T.len bt_len (pa_cons (pv 1) pa_nil)) (nomark _)))))
              (pss_one (ps_ret pe_bl)) pss_nil)
            (pss_one (ps_ret (pe_callB (cr_all (by rfl)) (by rfl) T.all bt_all (pa_cons (pe_lc (own := [("_law_at", 2)]) (g := gName 2) (tt := tYes)
              (te := tCall (spLike K n) [] E0 (tCons (tOp (rIxT K) (tVar 0) (tVar 2)) (tCons (tOp (rIxT K) (tVar 1) (tVar 2)) tNil))) (by rfl) scLike.nd
              (pi_range1 (by rfl) T.range (pa_cons (pe_callB call_len (by rfl) T.len bt_len (pa_cons (pv 1) pa_nil)) pa_nil)) (blkOk_by (own := [("_law_at", 2)]) (N := nLike) (sc := defScope sLike) (by decide +kernel))
              (fun _ _ _ _ _ => pg_name (i := 2) scLike.nd rfl (Or.inl rfl)) (fun _ _ _ _ _ => pts_nil)
              (fun _ _ _ _ _ => pe_call GL hr rfl AL.g AL.k AL.b .nil pass0 (pa_cons (pe_ix ix_tup (pv 0) (pv 2) (fun _ _ => rfl)) (pa_cons (pe_ix ix_tup (pv 1) (pv 2) (fun _ _ => rfl)) pa_nil)))) pa_nil))))) pss_nil)
        (pss_cons (ps_if (PW.pt (pw_or (pt_cmpR op_isN (pv 1) pe_non (nomark _)) (pw_or1 (pt_val (pe_callB call_isi (by rfl) T.isinstance bt_isinstance (pa_cons (pv 1) (pa_cons (pe_bltn (v := .ty "bool") (by rfl) T.bool bt_bool rfl) pa_nil)))))))
          (pss_one (ps_ret (pe_and (pe_cmpR op_eq (pe_callB call_isi (by rfl) T.isinstance bt_isinstance (pa_cons (pv 0) (pa_cons (pe_bltn (v := .ty "bool") (by rfl) T.bool bt_bool rfl) pa_nil)))
              (pe_callB call_isi (by rfl) T.isinstance bt_isinstance (pa_cons (pv 1) (pa_cons (pe_bltn (v := .ty "bool") (by rfl) T.bool bt_bool rfl) pa_nil))) (nomark _)) (pe_one (pe_cmpR op_eq (pv 0) (pv 1) (nomark _)))))) pss_nil)
        (pss_cons (ps_if (pt_val (pe_callB call_isi (by rfl) T.isinstance bt_isinstance (pa_cons (pv 1) (pa_cons (pe_bltn (v := .ty "int") (by rfl) T.int bt_int rfl) pa_nil))))
          (pss_one (ps_ret (pe_and (pe_callB call_isi (by rfl) T.isinstance bt_isinstance (pa_cons (pv 0) (pa_cons (pe_bltn (v := .ty "int") (by rfl) T.int bt_int rfl) pa_nil)))
              (pe_and (pe_not (pe_callB call_isi (by rfl) T.isinstance bt_isinstance (pa_cons (pv 0) (pa_cons (pe_bltn (v := .ty "bool") (by rfl) T.bool bt_bool rfl) pa_nil)))) (pe_one (pe_cmpR op_eq (pv 0) (pv 1) (nomark _))))))) pss_nil)
        (pss_one (ps_ret (pe_and (pe_callB call_isi (by rfl) T.isinstance bt_isinstance (pa_cons (pv 0) (pa_cons (pe_bltn (v := .ty "str") (by rfl) T.str bt_str rfl) pa_nil))) (pe_one (pe_cmpR op_eq (pv 0) (pv 1) (nomark _)))))))), ?_⟩
      cases hx with
      | lst h _ => cases hnl
      | non =>
        cases hy
        refine ⟨_, rfl, _, _, .type "NoneType", _, false, rfl, .ty _, .base .non, kit_ty (by decide +kernel), _, rfl, ?_⟩
        refine ⟨_, rfl, rfl, _, rfl, ?_⟩
        refine ⟨_, rfl, _, _, .type "NoneType", _, false, rfl, .ty _, .base .non, kit_ty (by decide +kernel), _, rfl, _, _, .type "NoneType", _, false, rfl, .ty _, .base .non, kit_ty (by decide +kernel), rfl, _, rfl, ?_⟩
        exact ⟨_, rfl, _, rfl, rfl, k H Ex.rfl⟩
      | bl b =>
        cases hy
        refine ⟨_, rfl, _, _, .type "bool", _, false, rfl, .ty _, .base (.bl b), kit_ty (by decide +kernel), _, rfl, ?_⟩
        refine ⟨_, rfl, rfl, _, rfl, ?_⟩
        refine ⟨_, rfl, _, _, .type "bool", _, true, rfl, .ty _, .base (.bl b), kit_ty (by decide +kernel), _, rfl, ?_⟩
        refine ⟨_, rfl, _, _, .type "bool", _, true, rfl, .ty _, .base (.bl b), kit_ty (by decide +kernel), _, rfl, _, _, .type "bool", _, true, rfl, .ty _, .base (.bl b), kit_ty (by decide +kernel), rfl, _, rfl, ?_⟩
        refine ⟨_, rfl, _, rfl, rfl, ?_⟩
        have e : decide (V.bl b = V.bl b) = true := decide_eq_true rfl
        rw [e]
        exact k H Ex.rfl
      | int i =>
        cases hy
        refine ⟨_, rfl, _, _, .type "int", _, false, rfl, .ty _, .base (.int i), kit_ty (by decide +kernel), _, rfl, ?_⟩
        refine ⟨_, rfl, rfl, _, rfl, ?_⟩
        refine ⟨_, rfl, _, _, .type "int", _, false, rfl, .ty _, .base (.int i), kit_ty (by decide +kernel), _, rfl, ?_⟩
        refine ⟨_, rfl, _, _, .type "int", _, true, rfl, .ty _, .base (.int i), kit_ty (by decide +kernel), _, rfl, ?_⟩
        refine ⟨_, rfl, _, _, .type "int", _, true, rfl, .ty _, .base (.int i), kit_ty (by decide +kernel), _, rfl, ?_⟩
        refine ⟨_, rfl, _, _, .type "int", _, false, rfl, .ty _, .base (.int i), kit_ty (by decide +kernel), _, rfl, _, rfl, ?_⟩
        refine ⟨_, rfl, _, rfl, rfl, ?_⟩
        have e : decide (V.int i = V.int i) = true := decide_eq_true rfl
        rw [e]
        exact k H Ex.rfl
      | str z =>
        cases hy
        refine ⟨_, rfl, _, _, .type "str", _, false, rfl, .ty _, .base (.str z), kit_ty (by decide +kernel), _, rfl, ?_⟩
        refine ⟨_, rfl, rfl, _, rfl, ?_⟩
        refine ⟨_, rfl, _, _, .type "str", _, false, rfl, .ty _, .base (.str z), kit_ty (by decide +kernel), _, rfl, ?_⟩
        refine ⟨_, rfl, _, _, .type "str", _, false, rfl, .ty _, .base (.str z), kit_ty (by decide +kernel), _, rfl, ?_⟩
        refine ⟨_, rfl, _, _, .type "str", _, true, rfl, .ty _, .base (.str z), kit_ty (by decide +kernel), _, rfl, ?_⟩
        refine ⟨_, rfl, _, rfl, rfl, ?_⟩
        have e : decide (V.str z = V.str z) = true := decide_eq_true rfl
        rw [e]
        exact k H Ex.rfl
      | @tup a xs ds hsx hdx =>
        cases hy with
        | @tup c ys _ hsy hdy =>
        have lx := DpAll.length hdx
        have ly := DpAll.length hdy
        refine ⟨_, rfl, _, _, .type "tuple", _, true, rfl, .ty _, ty_tup hsy, kit_ty (by decide +kernel), _, rfl, ?_⟩
        refine ⟨_, rfl, _, _, .type "tuple", _, true, rfl, .ty _, ty_tup hsx, kit_ty (by decide +kernel), _, rfl, ?_⟩
        refine ⟨_, rfl, _, xs.length, rfl, Or.inr ⟨_, hsx, rfl⟩, _, rfl, _, ys.length, rfl, Or.inr ⟨_, hsy, rfl⟩, rfl, ?_⟩
        have en : decide (V.int (xs.length : Int) = V.int (ys.length : Int)) = true := decide_eq_true (by rw [lx, ly])
        rw [en]
        obtain ⟨hsm, hnl2⟩ := Bool.and_eq_true_iff.mp (show (decide (ds.length ≤ 100000) && noLists ds) = true from hnl)
        have hsm := of_decide_eq_true hsm
        have hdp2 : PyData.depthAll ds + 1 ≤ n := hdp
        refine ⟨_, rfl, _, rfl, _, ys.length, rfl, Or.inr ⟨_, hsy, rfl⟩, _, rfl, by omega, by omega, fun D hD => ?_⟩
        refine lc_range (lo := 0) (n := (ys.length : Int).toNat) (fun i H' => Ex H H' ∧ H' D = some (.lst ((List.replicate i true).map V.bl))) ?_ ?_ ?_
        · exact ⟨Ex.new hD, upd_same⟩
        · rintro i H3 hi p3
          have hid : i < ds.length := by omega
          obtain ⟨v, hv, dv⟩ := DpAll.get hdx (List.getElem?_eq_getElem hid)
          obtain ⟨u, hu, du⟩ := DpAll.get hdy (List.getElem?_eq_getElem hid)
          have ei : (0 : Int) + (i : Nat) = (i : Nat) := by omega
          refine ⟨rfl, _, rfl, _, rfl, a, xs, _, v, rfl, rfl, ex_t p3.1 hsx, (by rw [ei]; exact atI_nat hv), _, rfl, _, rfl, c, ys, _, u, rfl, rfl, ex_t p3.1 hsy, (by rw [ei]; exact atI_nat hu), ?_⟩
          cases n with
          | zero => omega
          | succ m =>
            have hmem : ds[i] ∈ ds := List.getElem_mem hid
            refine ⟨v, u, ds[i], rfl, Dp.ext p3.1 dv, Dp.ext p3.1 du, noLists_mem hnl2 hmem, ?_, fun H4 e4 => ?_⟩
            · have := depth_mem hmem
              omega
            · have hz : ((List.replicate i true).map V.bl).length < sizeLine := by
                rw [List.length_map, List.length_replicate, sizeLine_eq]
                omega
              obtain ⟨acc, h1, h2, h3, h4⟩ := lc_leaf (y := V.bl true) hD p3 e4 hz
              refine ⟨acc, h1, h2, h3, ?_⟩
              rw [h4, List.replicate_succ', List.map_append]
              rfl
        · rintro H3 ⟨p3, q3⟩
          refine ⟨D, _, rfl, SqL.of q3, ?_⟩
          have e : (List.replicate ((ys.length : Int).toNat) true).all id = true := by
            rw [List.all_eq_true]
            intro x hx
            rw [List.eq_of_mem_replicate hx]
            rfl
          rw [e]
          exact k H3 p3
/-! ### Fault: made -/
/-- what the class is as the top has made it -/
structure FTxt (K : PySem.W.Frag) (mg : Str → Option Value) (C : Addr) : Prop where
  cl : Cls K C
  nR : NoAttr K C "row"
  nC : NoAttr K C "counts"
  nL : NoAttr K C "layers"
  nO : NoAttr K C "core"
  nW : NoAttr K C "words"
  mgC : mg "Fault" = some (.ref C)
  tA : PySem.W.findIn K (.ref C) "__class__" = some (some (.builtin "object.__class__"))
  tG : PySem.W.specialIn K (.builtin "object.__class__") "__get__" = some (some (.builtin "getset_descriptor.__get__"))
  tK : PySem.W.takesIn K (.builtin "object.__class__") = some true
  tO : PySem.W.mroIn K C (.type "object") = some true
theorem FTxt.ty {C : Addr} {H : Hp} {p dx : Addr} {fs : List (Str × V)} (T : FTxt K mg C) (h : H p = some (.ins C dx fs)) : TyX K H (.ref p) (.ref C) := .base (.ins h T.cl T.tA T.tG T.tK T.tO)
theorem kit_self (C : Addr) : PySem.W.kitOne K (.ref C) (.ref C) = some true := by
  unfold PySem.W.kitOne
  rw [if_pos (beq_self_eq_true _)]
abbrev sFInit : Stmt := (inClass (top 2) 0)
theorem scFInit : FnScope ["self", "row", "counts", "layers", "core"] ["self", "row", "counts", "layers", "core"] (defScope sFInit) := ⟨rfl, rfl, rfl, by decide +kernel, rfl, by decide +kernel, by decide +kernel⟩
def spFInit (K : PySem.W.Frag) (C : Addr) : Sp := fun vs H Q _ => ∃ (p dx r c l o : Addr) (m : FM), vs = [.ref p, .ref r, .ref c, .ref l, .ref o] ∧ H p = some (.ins C dx []) ∧ Dp K H (.ref r) (rowD m.row) ∧ SqT K H c (m.counts.map V.int) ∧
  SqT K H l (m.layers.map V.str) ∧ SqT K H o (m.core.map V.str) ∧ m.Ok ∧ ∀ H', Fault K C H' p m → ExB p H H' → Q .non H'
theorem okFInit {f C : Addr} {fd : FuncData} (F : Fn K "__init__" "Fault.__init__" sFInit f fd) (B : Bi mg) (T : FTxt K mg C) : FnOk P w K mg base CX0 1 f fd ["self", "row", "counts", "layers", "core"] (spFInit K C) := by
  refine F.ok scFInit (fun vs H Q E h => ?_) (fun cdv A outer s H vs Q E hr h => ?_)
  · obtain ⟨p, dx, r, c, l, o, m, rfl, _⟩ := h
    rfl
  · obtain ⟨p, dx, r, c, l, o, m, rfl, hp, hrow, hc, hl, ho, ok, k⟩ := h
    refine ⟨_, pss_cons (ps_fld (pv 0) (pv 1) rfl) (pss_cons (ps_fld (pv 0) (pv 2) rfl) (pss_cons (ps_fld (pv 0) (pv 3) rfl) (pss_cons (ps_fld (pv 0) (pv 4) rfl)
      (pss_one (ps_fld (pv 0) (pe_callTy call_tupOf (by rfl) B.tuple bt_tuple (pa_cons (pe_callB (cr_sortTx (by rfl)) (by rfl) B.sorted bt_sorted (pa_cons (pe_callTy (cr_setTx (by rfl)) (by rfl) B.set bt_set (pa_cons (pe_op op_catA (pv 4) (pv 3)) pa_nil)) pa_nil)) pa_nil)) rfl))))), ?_⟩
    refine ⟨_, rfl, _, rfl, p, C, dx, _, rfl, hp, T.cl, T.nR, (by show 0 < 1000; decide), ?_⟩
    refine ⟨_, rfl, _, rfl, p, C, dx, _, rfl, upd_same, T.cl, T.nC, (by show 1 < 1000; decide), ?_⟩
    refine ⟨_, rfl, _, rfl, p, C, dx, _, rfl, upd_same, T.cl, T.nL, (by show 2 < 1000; decide), ?_⟩
    refine ⟨_, rfl, _, rfl, p, C, dx, _, rfl, upd_same, T.cl, T.nO, (by show 3 < 1000; decide), ?_⟩
    rw [upd_upd, upd_upd, upd_upd]
    have e1 : ExB p H (upd H p (.ins C dx (putF "core" (.ref o) (putF "layers" (.ref l) (putF "counts" (.ref c) (putF "row" (.ref r) [])))))) := ExB.rfl.put
    have h1 : (upd H p (.ins C dx (putF "core" (.ref o) (putF "layers" (.ref l) (putF "counts" (.ref c) (putF "row" (.ref r) [])))))) p = some (.ins C dx (putF "core" (.ref o) (putF "layers" (.ref l) (putF "counts" (.ref c) (putF "row" (.ref r) []))))) := upd_same
    generalize (upd H p (.ins C dx (putF "core" (.ref o) (putF "layers" (.ref l) (putF "counts" (.ref c) (putF "row" (.ref r) [])))))) = H1 at e1 h1
    have nt : NT H p := NT.ins hp
    have hl1 := exb_t nt e1 hl
    have ho1 := exb_t nt e1 ho
    have lo := ok.layers
    have co := ok.core
    show tWords K w (tOp (rCatA K) (tVar 4) (tVar 3)) _ H1 _
    refine rd_words (w := w) (a := o) (b := l) (xs := m.core) (ys := m.layers) (fun R h => ⟨_, rfl, _, rfl, h⟩) ho1 hl1 (by omega) fun t H2 e2 ht => ?_
    refine ⟨_, rfl, p, C, dx, _, rfl, e2 p _ h1, T.cl, T.nW, (by show 4 < 1000; decide), ?_⟩
    have e3 : ExB p H (upd H2 p (.ins C dx (flF r c l o t))) := (e1.trans e2.b).put
    rw [flF_put]
    have hrow2 : noList (rowD m.row) = true := noList_row (by have := ok.row; omega)
    exact k _ ⟨dx, r, c, l, o, t, ⟨upd_same, Dp.exb nt e3 hrow2 hrow, exb_t nt e3 hc, exb_t nt e3 hl, exb_t nt e3 ho, .inl (.inl (by rw [upd_ne (fun z => by rw [z, e2 p _ h1] at ht; cases ht)]; exact ht)), ok⟩⟩ e3
/-! ### Fault.none(), Fault.happening(..) -/
/-- a new fault from its parts -/
theorem mkFault {C : Addr} {H : Hp} {Q : VK} {r c l o : Addr} (m : FM) (hr : Dp K H (.ref r) (rowD m.row)) (hc : SqT K H c (m.counts.map V.int)) (hl : SqT K H l (m.layers.map V.str)) (ho : SqT K H o (m.core.map V.str)) (ok : m.Ok)
    (k : ∀ p H', Ex H H' → Fault K C H' p m → H p = Option.none → Q (.ref p) H') :
    ∀ x dx, H x = Option.none → H dx = Option.none → dx ≠ x → spFInit K C (.ref x :: [.ref r, .ref c, .ref l, .ref o]) (upd (upd H dx (.own x)) x (.ins C dx [])) (fun v H2 => v = .non ∧ Q (.ref x) H2) E0 := by
  intro x dx hx hdx hne
  have e : Ex H (upd (upd H dx (.own x)) x (.ins C dx [])) := fun a u z => by
    rw [upd_ne (ne_of_none z hx), upd_ne (ne_of_none z hdx)]
    exact z
  refine ⟨x, dx, r, c, l, o, m, rfl, upd_same, Dp.ext e hr, ex_t e hc, ex_t e hl, ex_t e ho, ok, fun H' f e2 => ⟨rfl, k x H' (fun a u z => e2 a u (ne_of_none z hx) (e a u z)) f hx⟩⟩
abbrev sFNone : Stmt := (inClass (top 2) 1)
theorem scFNone : FnScope ["cls"] ["cls"] (defScope sFNone) := ⟨rfl, rfl, rfl, by decide +kernel, rfl, by decide +kernel, by decide +kernel⟩
def spFNone (K : PySem.W.Frag) (C : Addr) : Sp := fun vs H Q _ => vs = [.ref C] ∧ ∀ p H', Ex H H' → Fault K C H' p FM.none → H p = Option.none → Q (.ref p) H'
theorem okFNone {f fI C : Addr} {fd fdI : FuncData} (F : Fn K "none" "Fault.none" sFNone f fd) (M : Mk K C fI) (GI : FnOk P w K mg base CX0 1 fI fdI ["self", "row", "counts", "layers", "core"] (spFInit K C)) (bI : Binds K fdI ["self", "row", "counts", "layers", "core"] []) :
    FnOk P w K mg base CX0 3 f fd ["cls"] (spFNone K C) := by
  refine F.ok scFNone (fun vs H Q E h => ?_) (fun cdv A outer s H vs Q E hr h => ?_)
  · obtain ⟨rfl, _⟩ := h
    rfl
  · obtain ⟨rfl, k⟩ := h
    refine ⟨_, pss_one (ps_ret (pe_makeL (i := 0) M GI hr rfl (Or.inl rfl) bI pass0 (pa_cons (pe_tup pa_nil) (pa_cons (pe_tup pa_nil) (pa_cons (pe_tup pa_nil) (pa_cons (pe_tup pa_nil) pa_nil)))))), ?_⟩
    refine ⟨rfl, Nat.zero_le _, fun r hr0 => ⟨Nat.zero_le _, fun c hc0 => ⟨Nat.zero_le _, fun l hl0 => ⟨Nat.zero_le _, fun o ho0 => ?_⟩⟩⟩⟩
    have er : (upd H r (.tup [])) r = some (.tup []) := upd_same
    have e1 : Ex H (upd H r (.tup [])) := Ex.new hr0
    have e2 := Ex.new (o := .tup []) hc0
    have e3 := Ex.new (o := .tup []) hl0
    have e4 := Ex.new (o := .tup []) ho0
    refine mkFault FM.none (.tup (.inl (.inl (e4 r _ (e3 r _ (e2 r _ er))))) .nil) (.inl (.inl (e4 c _ (e3 c _ upd_same)))) (.inl (.inl (e4 l _ upd_same))) (.inl (.inl upd_same)) FM.none_ok fun p H' e f hp => ?_
    exact k p H' (Ex.trans e1 (Ex.trans e2 (Ex.trans e3 (Ex.trans e4 e)))) f (Ex.fresh (Ex.trans e1 (Ex.trans e2 (Ex.trans e3 e4))) hp)
abbrev sFHap : Stmt := (inClass (top 2) 2)
theorem scFHap : FnScope ["cls", "word", "number"] ["cls", "word", "number"] (defScope sFHap) := ⟨rfl, rfl, rfl, by decide +kernel, rfl, by decide +kernel, by decide +kernel⟩
def spFHap (K : PySem.W.Frag) (C : Addr) : Sp := fun vs H Q _ => ∃ (z : Str) (n : Int), vs = [.ref C, .str z, .int n] ∧ PyData.strOk z = true ∧ ∀ p H', Ex H H' → Fault K C H' p (FM.hap z n) → H p = Option.none → Q (.ref p) H'
theorem okFHap {f fI C : Addr} {fd fdI : FuncData} (F : Fn K "happening" "Fault.happening" sFHap f fd) (M : Mk K C fI) (GI : FnOk P w K mg base CX0 1 fI fdI ["self", "row", "counts", "layers", "core"] (spFInit K C)) (bI : Binds K fdI ["self", "row", "counts", "layers", "core"] []) :
    FnOk P w K mg base CX0 3 f fd ["cls", "word", "number"] (spFHap K C) := by
  refine F.ok scFHap (fun vs H Q E h => ?_) (fun cdv A outer s H vs Q E hr h => ?_)
  · obtain ⟨z, n, rfl, _⟩ := h
    rfl
  · obtain ⟨z, n, rfl, hz, k⟩ := h
    refine ⟨_, pss_one (ps_ret (pe_makeL (i := 0) M GI hr rfl (Or.inl rfl) bI pass0 (pa_cons (pe_tup (pa_cons (pe_tup (pa_cons (pv 1) (pa_cons (pv 2) pa_nil))) pa_nil)) (pa_cons (pe_tup (pa_cons pe_int pa_nil)) (pa_cons (pe_tup pa_nil) (pa_cons (pe_tup (pa_cons (pv 1) pa_nil)) pa_nil)))))), ?_⟩
    refine ⟨rfl, _, rfl, _, rfl, (by show 2 ≤ sizeLine; decide), fun q hq0 => ⟨(by show 1 ≤ sizeLine; decide), fun r hr0 => ⟨(by show 1 ≤ sizeLine; decide), fun c hc0 => ⟨Nat.zero_le _, fun l hl0 => ⟨_, rfl, (by show 1 ≤ sizeLine; decide), fun o ho0 => ?_⟩⟩⟩⟩⟩
    have e0 := Ex.new (o := .tup [V.str z, V.int n]) hq0
    have e1 := Ex.new (o := .tup [V.ref q]) hr0
    have e2 := Ex.new (o := .tup [V.int 1]) hc0
    have e3 := Ex.new (o := .tup []) hl0
    have e4 := Ex.new (o := .tup [V.str z]) ho0
    have e14 := Ex.trans e1 (Ex.trans e2 (Ex.trans e3 e4))
    refine mkFault (FM.hap z n) (.tup (.inl (.inl (e4 r _ (e3 r _ (e2 r _ upd_same))))) (.cons (.tup (.inl (.inl (e14 q _ upd_same))) (.cons (.str z) (.cons (.int n) .nil))) .nil)) (.inl (.inl (e4 c _ (e3 c _ upd_same)))) (.inl (.inl (e4 l _ upd_same))) (.inl (.inl upd_same)) (FM.hap_ok n hz) fun p H' e f hp => ?_
    exact k p H' (Ex.trans e0 (Ex.trans e14 e)) f (Ex.fresh (Ex.trans e0 e14) hp)
/-! ### Fault: read -/
abbrev sFBool : Stmt := (inClass (top 2) 3)
theorem scFBool : FnScope ["self"] ["self"] (defScope sFBool) := ⟨rfl, rfl, rfl, by decide +kernel, rfl, by decide +kernel, by decide +kernel⟩
def spFBool (K : PySem.W.Frag) (C : Addr) : Sp := fun vs H Q _ => ∃ (p : Addr) (m : FM), vs = [.ref p] ∧ Fault K C H p m ∧ Q (.bl m.truth) H
theorem okFBool {f C : Addr} {fd : FuncData} (F : Fn K "__bool__" "Fault.__bool__" sFBool f fd) (B : Bi mg) (T : FTxt K mg C) : FnOk P w K mg base CX0 1 f fd ["self"] (spFBool K C) := by
  refine F.ok scFBool (fun vs H Q E h => ?_) (fun cdv A outer s H vs Q E hr h => ?_)
  · obtain ⟨p, m, rfl, _⟩ := h
    rfl
  · obtain ⟨p, m, rfl, ⟨dx, r, c, l, o, ww, Z⟩, k⟩ := h
    refine ⟨_, pss_one (ps_ret (pe_or (pe_callTy call_boolT (by rfl) B.bool bt_bool (pa_cons (pe_fld (pv 0) rfl) pa_nil)) (pe_one (pe_callTy call_boolT (by rfl) B.bool bt_bool (pa_cons (pe_fld (pv 0) rfl) pa_nil))))), ?_⟩
    refine ⟨_, rfl, p, C, dx, _, _, rfl, Z.ob, T.cl, T.nL, flF_layers _ _ _ _ _, l, _, rfl, Z.layers, _, rfl, ?_⟩
    have e1 : (!(m.layers.map V.str).isEmpty) = !m.layers.isEmpty := by cases m.layers <;> rfl
    have e2 : (!(m.core.map V.str).isEmpty) = !m.core.isEmpty := by cases m.core <;> rfl
    rw [e1]
    have hk : Q (.bl (!m.layers.isEmpty || !m.core.isEmpty)) H := k
    cases q : !m.layers.isEmpty with
    | true =>
      rw [q] at hk
      exact hk
    | false =>
      rw [q] at hk
      refine ⟨_, rfl, p, C, dx, _, _, rfl, Z.ob, T.cl, T.nO, flF_core _ _ _ _ _, o, _, rfl, Z.core, ?_⟩
      rw [e2]
      exact hk
abbrev sFHol : Stmt := (inClass (top 2) 11)
theorem scFHol : FnScope ["self"] ["self"] (defScope sFHol) := ⟨rfl, rfl, rfl, by decide +kernel, rfl, by decide +kernel, by decide +kernel⟩
def spFHol (K : PySem.W.Frag) (C : Addr) : Sp := fun vs H Q _ => ∃ (p : Addr) (m : FM), vs = [.ref p] ∧ Fault K C H p m ∧ ∀ H', Ex H H' → Q (.bl m.hollow) H'
theorem okFHol {f C : Addr} {fd : FuncData} (F : Fn K "is_hollow" "Fault.is_hollow" sFHol f fd) (B : Bi mg) (T : FTxt K mg C) : FnOk P w K mg base CX0 1 f fd ["self"] (spFHol K C) := by
  refine F.ok scFHol (fun vs H Q E h => ?_) (fun cdv A outer s H vs Q E hr h => ?_)
  · obtain ⟨p, m, rfl, _⟩ := h
    rfl
  · obtain ⟨p, m, rfl, ⟨dx, r, c, l, o, ww, Z⟩, k⟩ := h
    refine ⟨_, pss_one (ps_ret (pe_and (pe_callTy call_boolT (by rfl) B.bool bt_bool (pa_cons (pe_op op_catA (pe_fld (pv 0) rfl) (pe_fld (pv 0) rfl)) pa_nil)) (pe_one (pe_notT (pe_fld (pv 0) rfl) )))), ?_⟩
    refine ⟨_, rfl, p, C, dx, _, _, rfl, Z.ob, T.cl, T.nL, flF_layers _ _ _ _ _, _, rfl, p, C, dx, _, _, rfl, Z.ob, T.cl, T.nO, flF_core _ _ _ _ _, ?_⟩
    have hk : ∀ H', Ex H H' → Q (.bl (!(m.layers ++ m.core).isEmpty && m.row.isEmpty)) H' := k
    have key : ∀ (b : Bool) (H2 : Hp), Ex H H2 → b = !(m.layers ++ m.core).isEmpty → (if b = true then tNotT K (tFld K (tVar 0) "row") (L2.start ["self"] [V.ref p]) H2 Q else Q (V.bl false) H2) := fun b H2 e hb => by
      cases b with
      | false =>
        rw [← hb] at hk
        exact hk H2 e
      | true =>
        rw [← hb] at hk
        cases Dp.ext e Z.row with
        | @tup _ rs _ hs ha =>
          refine ⟨_, rfl, p, C, dx, _, _, rfl, e p _ Z.ob, T.cl, T.nR, flF_row _ _ _ _ _, _, Or.inr (Or.inl ⟨_, hs, rfl⟩), ?_⟩
          have el := DpAll.length ha
          have ee : (!(!rs.isEmpty)) = m.row.isEmpty := by
            rw [Bool.not_not, Bool.eq_iff_iff, List.isEmpty_iff_length_eq_zero, List.isEmpty_iff_length_eq_zero, el, List.length_map]
          rw [ee]
          exact hk H2 e
    refine ⟨l, o, _, _, rfl, rfl, Z.layers, Z.core, ?_, fun ex => ?_, fun ex ey => ?_, fun ex ey q hq => ?_⟩
    · have h1 := Z.ok.layers
      have h2 := Z.ok.core
      rw [List.length_map, List.length_map, sizeLine_eq]
      omega
    · refine ⟨o, _, rfl, Z.core, _, rfl, key _ H Ex.rfl ?_⟩
      rw [List.map_eq_nil_iff.mp ex]
      cases m.core <;> rfl
    · refine ⟨l, _, rfl, Z.layers, _, rfl, key _ H Ex.rfl ?_⟩
      rw [List.map_eq_nil_iff.mp ey, List.append_nil]
      cases m.layers <;> rfl
    · refine ⟨q, _, rfl, .inl (.inl upd_same), _, rfl, key _ _ (Ex.new hq) ?_⟩
      cases q : m.layers with
      | nil => exact absurd (by rw [q]; rfl) ex
      | cons => rfl
abbrev sFHas : Stmt := (inClass (top 2) 6)
theorem scFHas : FnScope ["self", "thing"] ["self", "thing"] (defScope sFHas) := ⟨rfl, rfl, rfl, by decide +kernel, rfl, by decide +kernel, by decide +kernel⟩
def spFHas (K : PySem.W.Frag) (C : Addr) : Sp := fun vs H Q _ => ∃ (p : Addr) (m : FM) (x : V) (d : PyData), vs = [.ref p, x] ∧ Fault K C H p m ∧ Dp K H x d ∧ SeqAt.shaped d = true ∧ SeqAt.shaped (strsD m.words) = true ∧ SeqAt.shaped (rowD m.row) = true ∧ Q (.bl (m.has d)) H
theorem okFHas {f C : Addr} {fd : FuncData} (F : Fn K "__contains__" "Fault.__contains__" sFHas f fd) (B : Bi mg) (T : FTxt K mg C) : FnOk P w K mg base CX0 3 f fd ["self", "thing"] (spFHas K C) := by
  refine F.ok scFHas (fun vs H Q E h => ?_) (fun cdv A outer s H vs Q E hr h => ?_)
  · obtain ⟨p, m, x, d, rfl, _⟩ := h
    rfl
  · obtain ⟨p, m, x, d, rfl, ⟨dx, r, c, l, o, ww, Z⟩, hx, sd, sw, sr, k⟩ := h
    have hu := units65 hr
    refine ⟨_, pss_one (ps_ret (pe_or (pe_cmpR (op_inDT hu) (pv 1) (pe_fld (pv 0) rfl) (by rfl)) (pe_one (pe_cmpR (op_inDT hu) (pv 1) (pe_fld (pv 0) rfl) (by rfl))))), ?_⟩
    refine ⟨_, rfl, _, rfl, p, C, dx, _, _, rfl, Z.ob, T.cl, T.nW, flF_words _ _ _ _ _, d, _, hx, Dp.strs Z.words, sd, sw, _, rfl, ?_⟩
    have hk : Q (.bl ((m.words.map PyData.str).any (fun z => PyData.eqv z d) || (m.row.map hapD).any (fun z => PyData.eqv z d))) H := k
    cases q : (m.words.map PyData.str).any (fun z => PyData.eqv z d) with
    | true =>
      rw [q] at hk
      exact hk
    | false =>
      rw [q] at hk
      exact ⟨_, rfl, _, rfl, p, C, dx, _, _, rfl, Z.ob, T.cl, T.nR, flF_row _ _ _ _ _, d, _, hx, Z.row, sd, sr, hk⟩
abbrev sFTold : Stmt := (inClass (top 2) 9)
theorem scFTold : FnScope ["self", "happening", "at", "one"] ["self", "happening"] (defScope sFTold) := ⟨rfl, rfl, rfl, by decide +kernel, rfl, by decide +kernel, by decide +kernel⟩
def spFTold (K : PySem.W.Frag) (C : Addr) : Sp := fun vs H Q _ => ∃ (p : Addr) (m : FM) (x : V) (d : PyData), vs = [.ref p, x] ∧ Fault K C H p m ∧ Dp K H x d ∧ SeqAt.shaped d = true ∧ SeqAt.shaped (rowD m.row) = true ∧ ∀ H', Ex H H' → Q (.int (toldIn d m.row m.counts)) H'
theorem okFTold {f C : Addr} {fd : FuncData} (F : Fn K "told" "Fault.told" sFTold f fd) (B : Bi mg) (T : FTxt K mg C) : FnOk P w K mg base CX0 3 f fd ["self", "happening"] (spFTold K C) := by
  refine F.ok scFTold (fun vs H Q E h => ?_) (fun cdv A outer s H vs Q E hr h => ?_)
  · obtain ⟨p, m, x, d, rfl, _⟩ := h
    rfl
  · obtain ⟨p, m, x, d, rfl, ⟨dx, r, c, l, o, ww, Z⟩, hx, sd, sr, k⟩ := h
    refine ⟨_, pss_cons (ps_for PassesOwn.never rfl (pi_enumT (by rfl) B.enumerate (pa_cons (pe_fld (pv 0) rfl) pa_nil)) (pg_tup rfl (pgs_cons (pg_name (i := 2) scFTold.nd rfl (.inl rfl)) (pgs_cons (pg_name (i := 3) scFTold.nd rfl (.inl rfl)) pgs_nil)))
        (pss_one (ps_if (pt_cmpR (op_eqD hr.units) (pv 3) (pv 1) (nomark _)) (pss_one (ps_ret (pe_ix ix_tup (pe_fld (pv 0) rfl) (pv 2) (fun _ _ => rfl)))) pss_nil)))
      (pss_one (ps_ret pe_int)), ?_⟩
    cases Z.row with
    | @tup _ vs _ hs ha =>
    refine ⟨_, rfl, p, C, dx, _, _, rfl, Z.ob, T.cl, T.nR, flF_row _ _ _ _ _, r, vs, rfl, hs, ?_⟩
    have el := DpAll.length ha
    rw [List.length_map] at el
    refine for_it (walk_enumT (K := K) (a := r) (xs := vs)) (fun i σ H' => Ex H H' ∧ σ[0]? = some (some (.ref p)) ∧ σ[1]? = some (some x) ∧ σ.length = 4 ∧ toldIn d m.row m.counts = toldIn d (m.row.drop i) (m.counts.drop i)) ?_ ?_ ?_ ?_
    · exact ⟨Ex.rfl, rfl, rfl, rfl, rfl⟩
    · rintro i σ H' _ ⟨e, _⟩
      exact ex_t e hs
    · rintro i y σ H' H'' hi ⟨e, s0, s1, sl, hd⟩ ⟨t, y1, y2, rfl, ht, rfl, e1, e2⟩
      obtain rfl : V.int (i : Nat) = y1 := Option.some.inj e1
      have hir : i < m.row.length := by omega
      have hic : i < m.counts.length := by rw [Z.ok.counts]; exact hir
      have e' : Ex H (upd H' t (.tup [.int (i : Nat), y2])) := Ex.newer e ht
      obtain ⟨u, hu2, du⟩ := DpAll.get ha (i := i) (d := hapD m.row[i]) (by rw [List.getElem?_map, List.getElem?_eq_getElem hir]; rfl)
      replace e2 : vs[i]? = some y2 := e2
      rw [hu2] at e2
      obtain rfl : u = y2 := Option.some.inj e2
      have step : toldIn d (m.row.drop i) (m.counts.drop i) = if PyData.eqv (hapD m.row[i]) d = true then m.counts[i] else toldIn d (m.row.drop (i + 1)) (m.counts.drop (i + 1)) := by
        rw [List.drop_eq_getElem_cons hir, List.drop_eq_getElem_cons hic]
        rfl
      refine ⟨t, _, rfl, .inl (.inl upd_same), rfl, _, _, rfl, _, _, rfl, rfl, ?_⟩
      have z0 : ((σ.set 2 (some (.int (i : Nat)))).set 3 (some u))[0]? = some (some (.ref p)) := by simp [s0]
      have z1 : ((σ.set 2 (some (.int (i : Nat)))).set 3 (some u))[1]? = some (some x) := by simp [s1]
      have z2 : ((σ.set 2 (some (.int (i : Nat)))).set 3 (some u))[2]? = some (some (.int (i : Nat))) := by simp [sl]
      have z3 : ((σ.set 2 (some (.int (i : Nat)))).set 3 (some u))[3]? = some (some u) := by simp [sl]
      have shp : SeqAt.shaped (hapD m.row[i]) = true := shaped_mem sr (List.mem_map.mpr ⟨_, List.getElem_mem hir, rfl⟩)
      refine ⟨_, z3, _, z1, hapD m.row[i], d, Dp.ext e' du, Dp.ext e' hx, shp, sd, _, rfl, ?_⟩
      cases q : PyData.eqv (hapD m.row[i]) d with
      | true =>
        rw [q, if_pos rfl] at step
        refine ⟨_, z0, p, C, dx, _, _, rfl, e' p _ Z.ob, T.cl, T.nC, flF_counts _ _ _ _ _, _, z2, c, _, _, .int m.counts[i], rfl, rfl, ex_t e' Z.counts, ?_, ?_⟩
        · exact atI_nat (by rw [List.getElem?_map, List.getElem?_eq_getElem hic]; rfl)
        · have := k _ e'
          rw [hd, step] at this
          exact this
      | false =>
        rw [q, if_neg (by decide)] at step
        exact ⟨e', z0, z1, by simp [sl], by rw [hd, step]⟩
    · rintro σ H' ⟨e, s0, s1, sl, hd⟩
      have := k H' e
      rw [hd, el, List.drop_of_length_le (Nat.le_refl _)] at this
      exact this
/-! ### the law's own models, and whether a fault is as its model -/
abbrev sLNone : Stmt := (top 9)
theorem scLNone : FnScope [] [] (defScope sLNone) := ⟨rfl, rfl, rfl, by decide +kernel, rfl, by decide +kernel, by decide +kernel⟩
def spLNone (K : PySem.W.Frag) : Sp := fun vs H Q _ => vs = [] ∧ ∀ p H', Ex H H' → Dp K H' (.ref p) FM.none.dat → Q (.ref p) H'
theorem okLNone {f : Addr} {fd : FuncData} (F : Fn K "_law_none" "_law_none" sLNone f fd) : FnOk P w K mg base CX0 1 f fd [] (spLNone K) := by
  refine F.ok scLNone (fun vs H Q E h => ?_) (fun cdv A outer s H vs Q E hr h => ?_)
  · obtain ⟨rfl, _⟩ := h
    rfl
  · obtain ⟨rfl, k⟩ := h
    refine ⟨_, pss_one (ps_ret (pe_tup (pa_cons (pe_tup pa_nil) (pa_cons (pe_tup pa_nil) (pa_cons (pe_tup pa_nil) (pa_cons (pe_tup pa_nil) pa_nil)))))), ?_⟩
    refine ⟨Nat.zero_le _, fun r hr0 => ⟨Nat.zero_le _, fun c hc0 => ⟨Nat.zero_le _, fun l hl0 => ⟨Nat.zero_le _, fun o ho0 => ⟨(by show 4 ≤ sizeLine; decide), fun t ht0 => ?_⟩⟩⟩⟩⟩
    have e1 := Ex.new (o := .tup []) hr0
    have e2 := Ex.new (o := .tup []) hc0
    have e3 := Ex.new (o := .tup []) hl0
    have e4 := Ex.new (o := .tup []) ho0
    have e5 := Ex.new (o := .tup [V.ref r, V.ref c, V.ref l, V.ref o]) ht0
    refine k t _ (Ex.trans e1 (Ex.trans e2 (Ex.trans e3 (Ex.trans e4 e5)))) (.tup (.inl (.inl upd_same)) (.cons (.tup (.inl (.inl (e5 r _ (e4 r _ (e3 r _ (e2 r _ upd_same)))))) .nil) (.cons (.tup (.inl (.inl (e5 c _ (e4 c _ (e3 c _ upd_same))))) .nil) (.cons (.tup (.inl (.inl (e5 l _ (e4 l _ upd_same)))) .nil) (.cons (.tup (.inl (.inl (e5 o _ upd_same))) .nil) .nil)))))
abbrev sLHap : Stmt := (top 10)
theorem scLHap : FnScope ["_law_word", "_law_number_here"] ["_law_word", "_law_number_here"] (defScope sLHap) := ⟨rfl, rfl, rfl, by decide +kernel, rfl, by decide +kernel, by decide +kernel⟩
def spLHap (K : PySem.W.Frag) : Sp := fun vs H Q _ => ∃ (z : Str) (n : Int), vs = [.str z, .int n] ∧ ∀ p H', Ex H H' → Dp K H' (.ref p) (FM.hap z n).dat → Q (.ref p) H'
theorem okLHap {f : Addr} {fd : FuncData} (F : Fn K "_law_happens" "_law_happens" sLHap f fd) : FnOk P w K mg base CX0 1 f fd ["_law_word", "_law_number_here"] (spLHap K) := by
  refine F.ok scLHap (fun vs H Q E h => ?_) (fun cdv A outer s H vs Q E hr h => ?_)
  · obtain ⟨z, n, rfl, _⟩ := h
    rfl
  · obtain ⟨z, n, rfl, k⟩ := h
    refine ⟨_, pss_one (ps_ret (pe_tup (pa_cons (pe_tup (pa_cons (pe_tup (pa_cons (pv 0) (pa_cons (pv 1) pa_nil))) pa_nil)) (pa_cons (pe_tup (pa_cons pe_int pa_nil)) (pa_cons (pe_tup pa_nil) (pa_cons (pe_tup (pa_cons (pv 0) pa_nil)) pa_nil)))))), ?_⟩
    refine ⟨_, rfl, _, rfl, (by show 2 ≤ sizeLine; decide), fun q hq0 => ⟨(by show 1 ≤ sizeLine; decide), fun r hr0 => ⟨(by show 1 ≤ sizeLine; decide), fun c hc0 => ⟨Nat.zero_le _, fun l hl0 => ⟨_, rfl, (by show 1 ≤ sizeLine; decide), fun o ho0 => ⟨(by show 4 ≤ sizeLine; decide), fun t ht0 => ?_⟩⟩⟩⟩⟩⟩
    have e0 := Ex.new (o := .tup [V.str z, V.int n]) hq0
    have e1 := Ex.new (o := .tup [V.ref q]) hr0
    have e2 := Ex.new (o := .tup [V.int 1]) hc0
    have e3 := Ex.new (o := .tup []) hl0
    have e4 := Ex.new (o := .tup [V.str z]) ho0
    have e5 := Ex.new (o := .tup [V.ref r, V.ref c, V.ref l, V.ref o]) ht0
    have e15 := Ex.trans e1 (Ex.trans e2 (Ex.trans e3 (Ex.trans e4 e5)))
    refine k t _ (Ex.trans e0 e15) (.tup (.inl (.inl upd_same)) (.cons (.tup (.inl (.inl (e5 r _ (e4 r _ (e3 r _ (e2 r _ upd_same)))))) (.cons (.tup (.inl (.inl (e15 q _ upd_same))) (.cons (.str z) (.cons (.int n) .nil))) .nil))
      (.cons (.tup (.inl (.inl (e5 c _ (e4 c _ (e3 c _ upd_same))))) (.cons (.int 1) .nil)) (.cons (.tup (.inl (.inl (e5 l _ (e4 l _ upd_same)))) .nil) (.cons (.tup (.inl (.inl (e5 o _ upd_same))) (.cons (.str z) .nil)) .nil)))))
/-- a model's parts -/
theorem dat_parts {H : Hp} {q : Addr} {m : FM} (h : Dp K H (.ref q) m.dat) : ∃ r c l o, SqT K H q [.ref r, .ref c, .ref l, .ref o] ∧ Dp K H (.ref r) (rowD m.row) ∧ SqT K H c (m.counts.map V.int) ∧ SqT K H l (m.layers.map V.str) ∧ SqT K H o (m.core.map V.str) := by
  cases h with
  | tup hs ha =>
    cases ha with
    | cons d1 a1 =>
      cases a1 with
      | cons d2 a2 =>
        cases a2 with
        | cons d3 a3 =>
          cases a3 with
          | cons d4 a4 =>
            cases a4
            obtain ⟨c, rfl, h2⟩ := sq_ints d2
            obtain ⟨l, rfl, h3⟩ := sq_strs d3
            obtain ⟨o, rfl, h4⟩ := sq_strs d4
            have d1' := d1
            cases d1 with
            | @tup r _ _ _ _ => exact ⟨r, c, l, o, hs, d1', h2, h3, h4⟩
abbrev sIs : Stmt := (top 14)
theorem scIs : FnScope ["_law_fault", "_law_model"] ["_law_fault", "_law_model"] (defScope sIs) := ⟨rfl, rfl, rfl, by decide +kernel, rfl, by decide +kernel, by decide +kernel⟩
def spIs (K : PySem.W.Frag) (C : Addr) : Sp := fun vs H Q _ => ∃ (p q : Addr) (m : FM), vs = [.ref p, .ref q] ∧ Fault K C H p m ∧ Dp K H (.ref q) m.dat ∧ ∀ H', Ex H H' → Q (.bl true) H'
theorem okIs {f fL fN fB fH C pH : Addr} {fd fdL fdN fdB fdH : FuncData} (F : Fn K "_law_is" "_law_is" sIs f fd) (B : Bi mg) (T : FTxt K mg C)
    (GL : FnOk P w K mg base CX0 4 fL fdL ["_law_actual", "_law_wanted"] (spLike K 4)) (AL : At K mg "_law_like" fL fdL ["_law_actual", "_law_wanted"])
    (GN : FnOk P w K mg base CX0 1 fN fdN [] (spLNone K)) (AN : At K mg "_law_none" fN fdN [])
    (GB : FnOk P w K mg base CX0 1 fB fdB ["self"] (spFBool K C)) (mB : Meth K C "__bool__" fB) (bB : Binds K fdB ["self"] [])
    (GH : FnOk P w K mg base CX0 1 fH fdH ["self"] (spFHol K C)) (pP : PropOf K C "is_hollow" pH fH) (bH : Binds K fdH ["self"] []) :
    FnOk P w K mg base CX0 5 f fd ["_law_fault", "_law_model"] (spIs K C) := by
  refine F.ok scIs (fun vs H Q E h => ?_) (fun cdv A outer s H vs Q E hr h => ?_)
  · obtain ⟨p, q, m, rfl, _⟩ := h
    rfl
  · obtain ⟨p, q, m, rfl, ft, hq, k⟩ := h
    have hr1 : Room 1 _ := hr.mono (by decide)
    refine ⟨_, pss_cons (ps_if (PW.pt (pw_or (pt_not (pt_val (pe_callB call_isi (by rfl) B.isinstance bt_isinstance (pa_cons (pv 0) (pa_cons (pe_glob (v := .ref C) (by rfl) T.mgC rfl) pa_nil)))))
          (pw_or1 (pt_not (pt_val (pe_call GL hr rfl AL.g AL.k AL.b .nil pass0 (pa_cons (pe_tup (pa_cons (pe_fld (pv 0) rfl) (pa_cons (pe_fld (pv 0) rfl) (pa_cons (pe_fld (pv 0) rfl) (pa_cons (pe_fld (pv 0) rfl) pa_nil))))) (pa_cons (pv 1) pa_nil))))))))
          (pss_one (ps_ret pe_bl)) pss_nil)
      (pss_cons (ps_if (pt_not (pt_val (pe_call GL hr rfl AL.g AL.k AL.b .nil pass0 (pa_cons (pe_fld (pv 0) rfl) (pa_cons (pe_callTy call_tupOf (by rfl) B.tuple bt_tuple (pa_cons (pe_callB (cr_sortTx (by rfl)) (by rfl) B.sorted bt_sorted
            (pa_cons (pe_callTy (cr_setTx (by rfl)) (by rfl) B.set bt_set (pa_cons (pe_op op_catA (pe_ix ix_tup (pv 1) pe_int (fun _ _ => rfl)) (pe_ix ix_tup (pv 1) pe_int (fun _ _ => rfl))) pa_nil)) pa_nil)) pa_nil)) pa_nil)))))
          (pss_one (ps_ret pe_bl)) pss_nil)
      (pss_cons (ps_if (pt_not (pt_val (pe_call GL hr rfl AL.g AL.k AL.b .nil pass0 (pa_cons (pe_prop (pv 0) T.cl pP GH (hr.mono (by decide)) bH .nil pass0 rfl)
            (pa_cons (pe_and (pe_cmpR (op_neD hr.units) (pv 1) (pe_call0 GN hr1 rfl AN.g AN.k AN.b .nil pass0) (nomark _)) (pe_one (pe_cmpR (op_eqD hr.units) (pe_ix ix_tup (pv 1) pe_int (fun _ _ => rfl)) (pe_tup pa_nil) (nomark _)))) pa_nil)))))
          (pss_one (ps_ret pe_bl)) pss_nil)
      (pss_one (ps_ret (pe_cmpR op_eq (pe_callTy (call_boolO mB GB (hr.mono (by decide)) bB pass0) (by rfl) B.bool bt_bool (pa_cons (pv 0) pa_nil)) (pe_cmpR (op_neD hr.units) (pv 1) (pe_call0 GN hr1 rfl AN.g AN.k AN.b .nil pass0) (nomark _)) (nomark _)))))), ?_⟩
    obtain ⟨dx, r, c, l, o, ww, Z⟩ := id ft
    have ok := Z.ok
    refine ⟨_, rfl, _, _, .ref C, _, true, rfl, .own C, T.ty Z.ob, kit_self C, _, rfl, ?_⟩
    refine ⟨_, rfl, p, C, dx, _, _, rfl, Z.ob, T.cl, T.nR, flF_row _ _ _ _ _, _, rfl, p, C, dx, _, _, rfl, Z.ob, T.cl, T.nC, flF_counts _ _ _ _ _, _, rfl, p, C, dx, _, _, rfl, Z.ob, T.cl, T.nL, flF_layers _ _ _ _ _, _, rfl, p, C, dx, _, _, rfl, Z.ob, T.cl, T.nO, flF_core _ _ _ _ _, (by show 4 ≤ sizeLine; decide), fun t ht => ?_⟩
    have e1 := Ex.new (o := .tup [V.ref r, V.ref c, V.ref l, V.ref o]) ht
    refine ⟨_, rfl, .ref t, .ref q, m.dat, rfl, .tup (.inl (.inl upd_same)) (.cons (Dp.ext e1 Z.row) (.cons (Dp.ext e1 (Dp.ints Z.counts)) (.cons (Dp.ext e1 (Dp.strs Z.layers)) (.cons (Dp.ext e1 (Dp.strs Z.core)) .nil)))), Dp.ext e1 hq, FM.noList ok, m.depth, fun H1 e1' => ⟨_, rfl, ?_⟩⟩
    have f1 : Ex H H1 := Ex.trans e1 e1'
    clear e1 e1' ht
    obtain ⟨r', c', l', o', hs, hrow', hc', hl', ho'⟩ := dat_parts hq
    have lo := ok.layers
    have co := ok.core
    -- the words
    refine ⟨_, rfl, p, C, dx, _, _, rfl, f1 p _ Z.ob, T.cl, T.nW, flF_words _ _ _ _ _, ?_⟩
    show tWords K w (tOp (rCatA K) (tOp (rIxT K) (tVar 1) (tC (.int 2))) (tOp (rIxT K) (tVar 1) (tC (.int 3)))) _ H1 _
    refine rd_words (w := w) (a := l') (b := o') (xs := m.layers) (ys := m.core) (fun R h => ⟨_, rfl, q, _, _, _, rfl, rfl, ex_t f1 hs, rfl, _, rfl, q, _, _, _, rfl, rfl, ex_t f1 hs, rfl, h⟩) (ex_t f1 hl') (ex_t f1 ho') (by omega) fun t H2 e2 ht => ?_
    have f2 : Ex H H2 := Ex.trans f1 e2
    refine ⟨.ref ww, .ref t, strsD m.words, rfl, Dp.strs (ex_t f2 Z.words), Dp.strs (.inl (.inl (by rw [ht, srt_comm]; rfl))), noList_strs ?_, ?_, fun H3 e3 => ⟨_, rfl, ?_⟩⟩
    · have := len_srt (m.core ++ m.layers)
      rw [List.length_append] at this
      show (srt (m.core ++ m.layers)).length ≤ 100000
      omega
    · rw [depth_strs]
      decide
    have f3 : Ex H H3 := Ex.trans f2 e3
    -- hollow or not
    refine ⟨_, rfl, p, dx, _, rfl, f3 p _ Z.ob, p, m, rfl, ft.ext f3, fun H4 e4 => ?_⟩
    have f4 : Ex H H4 := Ex.trans f3 e4
    refine ⟨_, rfl, rfl, fun n H5 e5 hn => ?_⟩
    have f5 : Ex H H5 := Ex.trans f4 e5
    refine ⟨m.dat, FM.none.dat, Dp.ext f5 hq, hn, FM.shaped ok, FM.shaped FM.none_ok, _, rfl, ?_⟩
    rw [FM.eqv]
    have last : ∀ H6, Ex H H6 → tOp rEq (tCB (rBoolO C (spFBool K C) E0) (tCons (tVar 0) tNil)) (tOp (rNeD K) (tVar 1) (tCall (spLNone K) [] E0 tNil)) (L2.start ["_law_fault", "_law_model"] [V.ref p, V.ref q]) H6 Q := fun H6 f6 => by
      refine ⟨_, rfl, p, dx, _, rfl, f6 p _ Z.ob, p, m, rfl, ft.ext f6, _, rfl, _, rfl, rfl, fun n H7 e7 hn => ?_⟩
      have f7 : Ex H H7 := Ex.trans f6 e7
      refine ⟨m.dat, FM.none.dat, Dp.ext f7 hq, hn, FM.shaped ok, FM.shaped FM.none_ok, rfl, ?_⟩
      rw [FM.eqv, FM.truth_eq ok, decide_eq_true rfl]
      exact k H7 f7
    have hol := FM.hollow_eq ok
    by_cases hmn : m = FM.none
    · rw [decide_eq_true hmn] at hol ⊢
      refine ⟨.bl m.hollow, .bl false, .bool m.hollow, rfl, .bl _, (by rw [hol]; exact .bl _), rfl, (by show 0 ≤ 3; decide), fun H6 e6 => ⟨_, rfl, ?_⟩⟩
      exact last H6 (Ex.trans f5 e6)
    · rw [decide_eq_false hmn] at hol ⊢
      refine ⟨_, rfl, q, _, _, .ref r', rfl, rfl, ex_t f5 hs, rfl, Nat.zero_le _, fun t ht => ?_⟩
      have e6 := Ex.new (o := .tup []) ht
      have f6 : Ex H (upd H5 t (.tup [])) := Ex.trans f5 e6
      refine ⟨rowD m.row, .tuple [], Dp.ext f6 hrow', .tup (.inl (.inl upd_same)) .nil, shaped_row ok.tRow, rfl, ?_⟩
      have ee : PyData.eqv (rowD m.row) (.tuple []) = decide (m.row = []) := eqv_row m.row []
      rw [ee]
      refine ⟨.bl m.hollow, .bl (decide (m.row = [])), .bool m.hollow, rfl, .bl _, (by rw [hol]; exact .bl _), rfl, (by show 0 ≤ 3; decide), fun H7 e7 => ⟨_, rfl, ?_⟩⟩
      exact last H7 (Ex.trans f6 e7)
/-! ### a number -/
abbrev sNum : Stmt := (top 15)
theorem scNum : FnScope ["_law_bag_here"] ["_law_bag_here"] (defScope sNum) := ⟨rfl, rfl, rfl, by decide +kernel, rfl, by decide +kernel, by decide +kernel⟩
def spNum : Sp := fun vs H Q _ => ∃ (b : Addr), vs = [.ref b] ∧ Bag H b ∧ ∀ (r : Int) (H' : Hp), 0 ≤ r → Bag H' b → ExB b H H' → Q (.int r) H'
theorem okNum {f fD : Addr} {fd fdD : FuncData} (F : Fn K "_law_number" "_law_number" sNum f fd) (T : Bi mg) (GD : FnOk P w K mg base CX0 1 fD fdD ["_law_bag_here", "_law_many"] spDraw) (AD : At K mg "_law_draw" fD fdD ["_law_bag_here", "_law_many"]) :
    FnOk P w K mg base CX0 2 f fd ["_law_bag_here"] spNum := by
  refine F.ok scNum (fun vs H Q E h => ?_) (fun cdv A outer s H vs Q E hr h => ?_)
  · obtain ⟨b, rfl, _⟩ := h
    rfl
  · obtain ⟨b, rfl, B, k⟩ := h
    refine ⟨_, pss_one (ps_ret (pe_call GD hr rfl AD.g AD.k AD.b .nil pass0 (pa_cons (pv 0) (pa_cons (pe_ix ix_list (pe_lst (pa_cons pe_int (pa_cons (pe_op op_pow pe_int pe_int) pa_nil)))
      (pe_call GD hr rfl AD.g AD.k AD.b .nil pass0 (pa_cons (pv 0) (pa_cons pe_int pa_nil))) (fun _ _ => rfl)) pa_nil)))), ?_⟩
    refine ⟨_, rfl, _, _, rfl, rfl, ⟨by decide, by decide, by decide⟩, (by show 2 ≤ sizeLine; decide), fun l hl => ?_⟩
    have B1 := B.new (o := .lst [.int 1000, .int (10 ^ (30 : Int).toNat)]) hl
    have nl : l ≠ b := fun z => by obtain ⟨_, _, _, q, _⟩ := B; rw [← z, hl] at q; cases q
    refine ⟨_, rfl, b, 2, rfl, B1, by decide, by decide, fun r H' r0 r1 B2 e2 _ => ?_⟩
    have hl2 : H' l = some (.lst [.int 1000, .int (10 ^ (30 : Int).toNat)]) := e2 l _ nl upd_same
    have f2 : ExB b H H' := (Ex.new hl).b.trans e2
    have two : r = 0 ∨ r = 1 := by omega
    rcases two with rfl | rfl
    · exact ⟨l, _, _, .int 1000, rfl, rfl, SqL.of hl2, atI_nat (j := 0) rfl, b, 1000, rfl, B2, by decide, by decide, fun z H3 z0 _ B3 e3 _ => k z H3 z0 B3 (f2.trans e3)⟩
    · exact ⟨l, _, _, .int (10 ^ (30 : Int).toNat), rfl, rfl, SqL.of hl2, atI_nat (j := 1) rfl, b, 10 ^ (30 : Int).toNat, rfl, B2, by decide, by decide, fun z H3 z0 _ B3 e3 _ => k z H3 z0 B3 (f2.trans e3)⟩
/-! ### one cell -/
theorem hap_has_str (z x : Str) (n : Int) : (FM.hap z n).has (.str x) = decide (x = z) := by
  show ((z == x) || false || (false || false)) = _
  rw [Bool.or_false, Bool.or_false, Bool.or_false, Bool.eq_iff_iff]
  simp only [beq_iff_eq, decide_eq_true_eq]
  exact eq_comm
theorem hap_has_hap (z x : Str) (n k : Int) : (FM.hap z n).has (hapD (x, k)) = decide ((x, k) = (z, n)) := by
  have e : (FM.hap z n).has (hapD (x, k)) = ((false || false) || (PyData.eqv (hapD (z, n)) (hapD (x, k)) || false)) := rfl
  rw [e, eqv_hap, Bool.or_false, Bool.or_false, Bool.false_or, Bool.eq_iff_iff]
  simp only [decide_eq_true_eq]
  exact eq_comm
theorem none_has (d : PyData) : FM.none.has d = false := rfl
theorem hap_told (z x : Str) (n k : Int) : toldIn (hapD (x, k)) (FM.hap z n).row (FM.hap z n).counts = if (x, k) = (z, n) then 1 else 0 := by
  show (if PyData.eqv (hapD (z, n)) (hapD (x, k)) = true then (1 : Int) else 0) = _
  rw [eqv_hap]
  by_cases h : (x, k) = (z, n)
  · rw [if_pos h, h]
    simp
  · rw [if_neg h, if_neg]
    intro q
    exact h (of_decide_eq_true q).symm
theorem shaped_hap {x : Str} (k : Int) (h : PyData.strOk x = true) : SeqAt.shaped (hapD (x, k)) = true := by
  show ((PyData.strOk x && (true && true)) && true) = true
  rw [h]
  rfl
theorem shaped_str {x : Str} (h : PyData.strOk x = true) : SeqAt.shaped (.str x) = true := by
  show (PyData.strOk x && true) = true
  rw [h]
  rfl
theorem bl_eq (a b : Bool) : decide (V.bl a = V.bl b) = (a == b) := by
  cases a <;> cases b <;> rfl
theorem ne_same {a b : Bool} (h : a = b) : V.bl (!decide (V.bl a = V.bl b)) = V.bl false := by
  rw [h, decide_eq_true rfl]
  rfl
theorem str_eq (x z : Str) : decide (V.str x = V.str z) = decide (x = z) := by
  rw [Bool.eq_iff_iff]
  simp only [decide_eq_true_eq, V.str.injEq]
abbrev sRight : Stmt := (top 16)
abbrev nRight : List Str := ["_law_bag_here", "_law_word", "_law_number_here", "_law_other", "_law_further", "_law_fault", "_law_none_here", "_law_pair"]
theorem scRight : FnScope nRight ["_law_bag_here"] (defScope sRight) := ⟨rfl, rfl, rfl, by decide +kernel, rfl, by decide +kernel, by decide +kernel⟩
def spRight : Sp := fun vs H Q _ => ∃ (b : Addr), vs = [.ref b] ∧ Bag H b ∧ ∀ H', Q (.bl true) H'
theorem okRight {f fN fU fO fS fLN fLH fL fFN fFH fH fT C pN pH : Addr} {fd fdN fdU fdO fdS fdLN fdLH fdL fdFN fdFH fdH fdT : FuncData} (F : Fn K "_law_right" "_law_right" sRight f fd) (B : Bi mg) (T : FTxt K mg C)
    (GN : FnOk P w K mg base CX0 2 fN fdN ["_law_bag_here", "_law_taken"] (spName K)) (AN : At K mg "_law_name" fN fdN ["_law_bag_here", "_law_taken"])
    (GU : FnOk P w K mg base CX0 2 fU fdU ["_law_bag_here"] spNum) (AU : At K mg "_law_number" fU fdU ["_law_bag_here"])
    (GO : FnOk P w K mg base CX0 2 fO fdO ["_law_bag_here", "_law_some"] (spOne K)) (AO : At K mg "_law_one" fO fdO ["_law_bag_here", "_law_some"])
    (GS : FnOk P w K mg base CX0 5 fS fdS ["_law_fault", "_law_model"] (spIs K C)) (AS : At K mg "_law_is" fS fdS ["_law_fault", "_law_model"])
    (GLN : FnOk P w K mg base CX0 1 fLN fdLN [] (spLNone K)) (ALN : At K mg "_law_none" fLN fdLN [])
    (GLH : FnOk P w K mg base CX0 1 fLH fdLH ["_law_word", "_law_number_here"] (spLHap K)) (ALH : At K mg "_law_happens" fLH fdLH ["_law_word", "_law_number_here"])
    (GL : FnOk P w K mg base CX0 4 fL fdL ["_law_actual", "_law_wanted"] (spLike K 4)) (AL : At K mg "_law_like" fL fdL ["_law_actual", "_law_wanted"])
    (rC : ClX.CRead K C (.type "type")) (cN : ClX.CMet K C (.type "type") "none" pN fFN) (GFN : FnOk P w K mg base CX0 3 fFN fdFN ["cls"] (spFNone K C)) (bFN : Binds K fdFN ["cls"] [])
    (cH : ClX.CMet K C (.type "type") "happening" pH fFH) (GFH : FnOk P w K mg base CX0 3 fFH fdFH ["cls", "word", "number"] (spFHap K C)) (bFH : Binds K fdFH ["cls", "word", "number"] [])
    (mH : Meth K C "__contains__" fH) (GH : FnOk P w K mg base CX0 3 fH fdH ["self", "thing"] (spFHas K C)) (bH : Binds K fdH ["self", "thing"] [])
    (mT : Meth K C "told" fT) (GT : FnOk P w K mg base CX0 3 fT fdT ["self", "happening"] (spFTold K C)) (bT : Binds K fdT ["self", "happening"] []) :
    FnOk P w K mg base CX0 6 f fd ["_law_bag_here"] spRight := by
  refine F.ok scRight (fun vs H Q E h => ?_) (fun cdv A outer s H vs Q E hr h => ?_)
  · obtain ⟨b, rfl, _⟩ := h
    rfl
  · obtain ⟨b, rfl, Bg, k⟩ := h
    have hr1 : Room 1 _ := hr.mono (by decide)
    have hr2 : Room 2 _ := hr.mono (by decide)
    have hr3 : Room 3 _ := hr.mono (by decide)
    have hr4 : Room 4 _ := hr.mono (by decide)
    refine ⟨_, pss_cons (ps_par (i := 1) (j := 2) (by rfl) scRight.nd rfl rfl (by decide) rfl rfl (pa_cons (pe_call GN hr2 rfl AN.g AN.k AN.b .nil pass0 (pa_cons (pv 0) (pa_cons (pe_lst pa_nil) pa_nil))) (pa_cons (pe_call GU hr2 rfl AU.g AU.k AU.b .nil pass0 (pa_cons (pv 0) pa_nil)) pa_nil)) (by rfl))
      (pss_cons (ps_set (i := 3) scRight.nd rfl (Or.inl rfl) (pe_call GO hr2 rfl AO.g AO.k AO.b .nil pass0 (pa_cons (pv 0) (pa_cons (pe_lst (pa_cons (pv 1) (pa_cons (pe_call GN hr2 rfl AN.g AN.k AN.b .nil pass0 (pa_cons (pv 0) (pa_cons (pe_lst pa_nil) pa_nil))) pa_nil))) pa_nil))))
      (pss_cons (ps_set (i := 4) scRight.nd rfl (Or.inl rfl) (pe_call GO hr2 rfl AO.g AO.k AO.b .nil pass0 (pa_cons (pv 0) (pa_cons (pe_lst (pa_cons (pv 2) (pa_cons (pe_op op_add (pv 2) pe_int) (pa_cons (pe_call GU hr2 rfl AU.g AU.k AU.b .nil pass0 (pa_cons (pv 0) pa_nil)) pa_nil)))) pa_nil))))
      (pss_cons (ps_par (i := 5) (j := 6) (by rfl) scRight.nd rfl rfl (by decide) rfl rfl (pa_cons (ClX.pe_cmeth (pe_glob (v := .ref C) (by rfl) T.mgC rfl) rC cH (GFH.raw bFH .nil) hr3 pass0 (pa_cons (pv 1) (pa_cons (pv 2) pa_nil)))
          (pa_cons (pe_cmeth0 (pe_glob (v := .ref C) (by rfl) T.mgC rfl) rC cN (GFN.raw bFN .nil) hr3 pass0) pa_nil)) (by rfl))
      (pss_cons (ps_if (PW.pt (pw_or (pt_not (pt_val (pe_call GS hr rfl AS.g AS.k AS.b .nil pass0 (pa_cons (pv 5) (pa_cons (pe_call GLH hr1 rfl ALH.g ALH.k ALH.b .nil pass0 (pa_cons (pv 1) (pa_cons (pv 2) pa_nil))) pa_nil)))))
          (pw_or1 (pt_not (pt_val (pe_call GS hr rfl AS.g AS.k AS.b .nil pass0 (pa_cons (pv 6) (pa_cons (pe_call0 GLN hr1 rfl ALN.g ALN.k ALN.b .nil pass0) pa_nil))))))))
          (pss_one (ps_ret pe_bl)) pss_nil)
      (pss_cons (ps_if (PW.pt (pw_or (pt_cmpR (op_hasnt mH GH hr3 bH pass0) (pv 1) (pv 5) (by rfl)) (pw_or1 (pt_cmpR (op_hasnt mH GH hr3 bH pass0) (pe_tup (pa_cons (pv 1) (pa_cons (pv 2) pa_nil))) (pv 5) (by rfl))))) (pss_one (ps_ret pe_bl)) pss_nil)
      (pss_cons (ps_if (pt_cmpR op_ne (pe_cmpR (op_has mH GH hr3 bH pass0) (pv 3) (pv 5) (by rfl)) (pe_cmpR op_eq (pv 3) (pv 1) (nomark _)) (nomark _)) (pss_one (ps_ret pe_bl)) pss_nil)
      (pss_cons (ps_set (i := 7) scRight.nd rfl (Or.inl rfl) (pe_tup (pa_cons (pv 3) (pa_cons (pv 4) pa_nil))))
      (pss_cons (ps_if (pt_cmpR op_ne (pe_cmpR (op_has mH GH hr3 bH pass0) (pv 7) (pv 5) (by rfl)) (pe_cmpR (op_eqD hr.units) (pv 7) (pe_tup (pa_cons (pv 1) (pa_cons (pv 2) pa_nil))) (nomark _)) (nomark _)) (pss_one (ps_ret pe_bl)) pss_nil)
      (pss_cons (ps_if (PW.pt (pw_or (pt_cmpR (op_has mH GH hr3 bH pass0) (pv 1) (pv 6) (by rfl)) (pw_or1 (pt_cmpR (op_has mH GH hr3 bH pass0) (pe_tup (pa_cons (pv 1) (pa_cons (pv 2) pa_nil))) (pv 6) (by rfl))))) (pss_one (ps_ret pe_bl)) pss_nil)
      (pss_cons (ps_if (PW.pt (pw_or (pt_not (pt_val (pe_call GL hr4 rfl AL.g AL.k AL.b .nil pass0 (pa_cons (pe_meth (pv 5) T.cl mT GT hr3 bT .nil pass0 (pa_cons (pe_tup (pa_cons (pv 1) (pa_cons (pv 2) pa_nil))) pa_nil)) (pa_cons pe_int pa_nil)))))
          (pw_or1 (pt_not (pt_val (pe_call GL hr4 rfl AL.g AL.k AL.b .nil pass0 (pa_cons (pe_meth (pv 6) T.cl mT GT hr3 bT .nil pass0 (pa_cons (pe_tup (pa_cons (pv 1) (pa_cons (pv 2) pa_nil))) pa_nil)) (pa_cons pe_int pa_nil)))))))) (pss_one (ps_ret pe_bl)) pss_nil)
      (pss_one (ps_ret (pe_call GL hr4 rfl AL.g AL.k AL.b .nil pass0 (pa_cons (pe_meth (pv 5) T.cl mT GT hr3 bT .nil pass0 (pa_cons (pv 7) pa_nil))
        (pa_cons (pe_callTy call_int1 (by rfl) B.int bt_int (pa_cons (pe_cmpR (op_eqD hr.units) (pv 7) (pe_tup (pa_cons (pv 1) (pa_cons (pv 2) pa_nil))) (nomark _)) pa_nil)) pa_nil))))))))))))))), ?_⟩
    -- the draws
    have ne_bag : ∀ {H : Hp} {l : Addr}, Bag H b → H l = none → l ≠ b := fun {H l} Bx hl z => by obtain ⟨_, _, _, q, _⟩ := Bx; rw [← z, hl] at q; cases q
    refine ⟨_, rfl, Nat.zero_le _, fun l0 hl0 => ?_⟩
    refine ⟨b, l0, [], rfl, Bg.new hl0, ne_bag Bg hl0, SqL.of upd_same, by decide, fun z H1 hz _ B1 e1 => ?_⟩
    refine ⟨_, rfl, b, rfl, B1, fun n H2 n0 B2 e2 => ?_⟩
    refine ⟨_, _, rfl, ?_⟩
    have hzo := hz.strOk
    refine ⟨_, rfl, _, rfl, _, rfl, Nat.zero_le _, fun l1 hl1 => ?_⟩
    refine ⟨b, l1, [], rfl, B2.new hl1, ne_bag B2 hl1, SqL.of upd_same, by decide, fun z2 H3 hz2 _ B3 e3 => ?_⟩
    refine ⟨(by show 2 ≤ sizeLine; decide), fun l2 hl2 => ?_⟩
    refine ⟨b, l2, _, rfl, B3.new hl2, ne_bag B3 hl2, SqL.of upd_same, (by simp), (by show 2 ≤ 100000; decide), fun v H4 hv B4 e4 _ => ?_⟩
    obtain ⟨x, hxo, rfl⟩ : ∃ x, PyData.strOk x = true ∧ v = .str x := by
      rcases List.mem_cons.mp hv with e | e
      · exact ⟨z, hzo, e⟩
      · exact ⟨z2, hz2.strOk, List.mem_singleton.mp e⟩
    clear hv
    refine ⟨_, rfl, _, rfl, _, rfl, _, _, rfl, rfl, _, rfl, b, rfl, B4, fun n2 H5 _ B5 e5 => ?_⟩
    refine ⟨(by show 3 ≤ sizeLine; decide), fun l3 hl3 => ?_⟩
    refine ⟨b, l3, _, rfl, B5.new hl3, ne_bag B5 hl3, SqL.of upd_same, (by simp), (by show 3 ≤ 100000; decide), fun v H6 hv B6 e6 _ => ?_⟩
    obtain ⟨y, rfl⟩ : ∃ y : Int, v = .int y := by
      rcases List.mem_cons.mp hv with e | e
      · exact ⟨_, e⟩
      · rcases List.mem_cons.mp e with e | e
        · exact ⟨_, e⟩
        · exact ⟨_, List.mem_singleton.mp e⟩
    clear hv e1 e2 e3 e4 e5 e6 B1 B2 B3 B4 B5 hl0 hl1 hl2 hl3 n0 hz2
    -- the two faults
    refine ⟨rfl, _, rfl, _, rfl, z, n, rfl, hzo, fun p H7 e7 fp _ => ?_⟩
    refine ⟨rfl, rfl, fun q H8 e8 fq _ => ?_⟩
    refine ⟨_, _, rfl, ?_⟩
    have fp := fp.ext e8
    clear e7 e8 B6
    refine ⟨_, rfl, _, rfl, _, rfl, z, n, rfl, fun t H9 e9 ht => ?_⟩
    refine ⟨p, t, _, rfl, fp.ext e9, ht, fun H10 e10 => ⟨_, rfl, ?_⟩⟩
    refine ⟨_, rfl, rfl, fun t2 H11 e11 ht2 => ?_⟩
    refine ⟨q, t2, _, rfl, fq.ext (Ex.trans e9 (Ex.trans e10 e11)), ht2, fun H12 e12 => ⟨_, rfl, ?_⟩⟩
    have eA : Ex H8 H12 := Ex.trans e9 (Ex.trans e10 (Ex.trans e11 e12))
    have fp := fp.ext eA
    have fq := fq.ext eA
    clear e9 e10 e11 e12 ht ht2 eA
    have okp : (FM.hap z n).Ok := FM.hap_ok n hzo
    have wp : SeqAt.shaped (strsD (FM.hap z n).words) = true := shaped_strs (FM.words_ok okp)
    have rp : SeqAt.shaped (rowD (FM.hap z n).row) = true := shaped_row okp.tRow
    have wq : SeqAt.shaped (strsD FM.none.words) = true := shaped_strs (FM.words_ok FM.none_ok)
    have rq : SeqAt.shaped (rowD FM.none.row) = true := shaped_row FM.none_ok.tRow
    have inP : ∀ {H : Hp}, Fault K C H p (FM.hap z n) → ∃ dx fs, H p = some (.ins C dx fs) ∧ fs.lookup ("told" : Str) = none := fun ⟨dx, r, c, l, o, w, Z⟩ => ⟨dx, _, Z.ob, rfl⟩
    have inQ : ∀ {H : Hp}, Fault K C H q FM.none → ∃ dx fs, H q = some (.ins C dx fs) ∧ fs.lookup ("told" : Str) = none := fun ⟨dx, r, c, l, o, w, Z⟩ => ⟨dx, _, Z.ob, rfl⟩
    -- the word and the happening are in it
    obtain ⟨dx, fs, op, no⟩ := inP fp
    refine ⟨_, rfl, _, rfl, p, dx, fs, rfl, op, p, _, .str z, .str z, rfl, fp, .str z, shaped_str hzo, wp, rp, _, rfl, _, rfl, ?_⟩
    rw [hap_has_str, decide_eq_true rfl]
    refine ⟨_, rfl, _, rfl, (by show 2 ≤ sizeLine; decide), fun t ht => ?_⟩
    have e1 := Ex.new (o := .tup [V.str z, V.int n]) ht
    have dt : Dp K (upd H12 t (.tup [V.str z, V.int n])) (.ref t) (hapD (z, n)) := .tup (.inl (.inl upd_same)) (.cons (.str z) (.cons (.int n) .nil))
    have fp := fp.ext e1
    have fq := fq.ext e1
    obtain ⟨dx, fs, op, no⟩ := inP fp
    refine ⟨_, rfl, p, dx, fs, rfl, op, p, _, .ref t, hapD (z, n), rfl, fp, dt, shaped_hap n hzo, wp, rp, _, rfl, _, rfl, ?_⟩
    rw [hap_has_hap, decide_eq_true rfl]
    clear dt e1 ht
    generalize (upd H12 t (.tup [V.str z, V.int n])) = H13 at fp fq op
    -- the other word
    refine ⟨_, rfl, _, rfl, p, dx, fs, rfl, op, p, _, .str x, .str x, rfl, fp, .str x, shaped_str hxo, wp, rp, _, rfl, _, rfl, _, rfl, rfl, rfl, ?_⟩
    refine ⟨false, ne_same (by show (FM.hap z n).has (.str x) = _; rw [hap_has_str, str_eq]), ?_⟩
    -- the other pair
    refine ⟨_, rfl, _, rfl, (by show 2 ≤ sizeLine; decide), fun t ht => ?_⟩
    have e1 := Ex.new (o := .tup [V.str x, V.int y]) ht
    have dt : Dp K (upd H13 t (.tup [V.str x, V.int y])) (.ref t) (hapD (x, y)) := .tup (.inl (.inl upd_same)) (.cons (.str x) (.cons (.int y) .nil))
    have fp := fp.ext e1
    have fq := fq.ext e1
    clear e1 ht op
    generalize (upd H13 t (.tup [V.str x, V.int y])) = H14 at fp fq dt
    obtain ⟨dx, fs, op, no⟩ := inP fp
    refine ⟨_, rfl, _, rfl, p, dx, fs, rfl, op, p, _, .ref t, hapD (x, y), rfl, fp, dt, shaped_hap y hxo, wp, rp, _, rfl, _, rfl, _, rfl, _, rfl, (by show 2 ≤ sizeLine; decide), fun t2 ht2 => ?_⟩
    have e2 := Ex.new (o := .tup [V.str z, V.int n]) ht2
    have dt2 : Dp K (upd H14 t2 (.tup [V.str z, V.int n])) (.ref t2) (hapD (z, n)) := .tup (.inl (.inl upd_same)) (.cons (.str z) (.cons (.int n) .nil))
    refine ⟨hapD (x, y), hapD (z, n), Dp.ext e2 dt, dt2, shaped_hap y hxo, shaped_hap n hzo, rfl, false, ne_same (by show (FM.hap z n).has (hapD (x, y)) = _; rw [hap_has_hap, eqv_hap]), ?_⟩
    have fp := fp.ext e2
    have fq := fq.ext e2
    have dt := Dp.ext e2 dt
    clear e2 dt2 ht2 op
    generalize (upd H14 t2 (.tup [V.str z, V.int n])) = H15 at fp fq dt
    -- nothing is in no fault
    obtain ⟨dx, fs, oq, no⟩ := inQ fq
    refine ⟨_, rfl, _, rfl, q, dx, fs, rfl, oq, q, _, .str z, .str z, rfl, fq, .str z, shaped_str hzo, wq, rq, _, rfl, _, rfl, ?_⟩
    refine ⟨_, rfl, _, rfl, (by show 2 ≤ sizeLine; decide), fun t2 ht2 => ?_⟩
    have e2 := Ex.new (o := .tup [V.str z, V.int n]) ht2
    have dt2 : Dp K (upd H15 t2 (.tup [V.str z, V.int n])) (.ref t2) (hapD (z, n)) := .tup (.inl (.inl upd_same)) (.cons (.str z) (.cons (.int n) .nil))
    have fp := fp.ext e2
    have fq := fq.ext e2
    have dt := Dp.ext e2 dt
    clear e2 ht2 oq
    generalize (upd H15 t2 (.tup [V.str z, V.int n])) = H16 at fp fq dt dt2
    obtain ⟨dx, fs, oq, no⟩ := inQ fq
    refine ⟨_, rfl, q, dx, fs, rfl, oq, q, _, .ref t2, hapD (z, n), rfl, fq, dt2, shaped_hap n hzo, wq, rq, _, rfl, _, rfl, ?_⟩
    clear dt2 oq
    -- how often it tells of it
    obtain ⟨dx, fs, op, no⟩ := inP fp
    refine ⟨_, rfl, p, dx, fs, rfl, op, no, _, rfl, _, rfl, (by show 2 ≤ sizeLine; decide), fun t2 ht2 => ?_⟩
    have e2 := Ex.new (o := .tup [V.str z, V.int n]) ht2
    have dt2 : Dp K (upd H16 t2 (.tup [V.str z, V.int n])) (.ref t2) (hapD (z, n)) := .tup (.inl (.inl upd_same)) (.cons (.str z) (.cons (.int n) .nil))
    refine ⟨p, _, .ref t2, hapD (z, n), rfl, fp.ext e2, dt2, shaped_hap n hzo, rp, fun H17 e17 => ?_⟩
    rw [hap_told, if_pos rfl]
    refine ⟨.int 1, .int 1, .int 1, rfl, .int 1, .int 1, rfl, (by show 0 ≤ 3; decide), fun H18 e18 => ⟨_, rfl, ?_⟩⟩
    have eA : Ex H16 H18 := Ex.trans e2 (Ex.trans e17 e18)
    have fp := fp.ext eA
    have fq := fq.ext eA
    have dt := Dp.ext eA dt
    clear eA e2 e17 e18 dt2 ht2 op
    obtain ⟨dx, fs, oq, no⟩ := inQ fq
    refine ⟨_, rfl, q, dx, fs, rfl, oq, no, _, rfl, _, rfl, (by show 2 ≤ sizeLine; decide), fun t2 ht2 => ?_⟩
    have e2 := Ex.new (o := .tup [V.str z, V.int n]) ht2
    have dt2 : Dp K (upd H18 t2 (.tup [V.str z, V.int n])) (.ref t2) (hapD (z, n)) := .tup (.inl (.inl upd_same)) (.cons (.str z) (.cons (.int n) .nil))
    refine ⟨q, _, .ref t2, hapD (z, n), rfl, fq.ext e2, dt2, shaped_hap n hzo, rq, fun H19 e19 => ?_⟩
    refine ⟨.int 0, .int 0, .int 0, rfl, .int 0, .int 0, rfl, (by show 0 ≤ 3; decide), fun H20 e20 => ⟨_, rfl, ?_⟩⟩
    have eA : Ex H18 H20 := Ex.trans e2 (Ex.trans e19 e20)
    have fp := fp.ext eA
    have dt := Dp.ext eA dt
    clear eA e2 e19 e20 dt2 ht2 oq
    obtain ⟨dx, fs, op, no⟩ := inP fp
    refine ⟨_, rfl, p, dx, fs, rfl, op, no, _, rfl, p, _, .ref t, hapD (x, y), rfl, fp, dt, shaped_hap y hxo, rp, fun H21 e21 => ?_⟩
    refine ⟨_, rfl, _, rfl, _, rfl, (by show 2 ≤ sizeLine; decide), fun t2 ht2 => ?_⟩
    have e2 := Ex.new (o := .tup [V.str z, V.int n]) ht2
    have dt2 : Dp K (upd H21 t2 (.tup [V.str z, V.int n])) (.ref t2) (hapD (z, n)) := .tup (.inl (.inl upd_same)) (.cons (.str z) (.cons (.int n) .nil))
    refine ⟨hapD (x, y), hapD (z, n), Dp.ext (Ex.trans e21 e2) dt, dt2, shaped_hap y hxo, shaped_hap n hzo, Or.inr ⟨_, rfl, ?_⟩⟩
    rw [hap_told, eqv_hap]
    by_cases hq : (x, y) = (z, n)
    · rw [if_pos hq, decide_eq_true hq]
      exact ⟨.int 1, .int 1, .int 1, rfl, .int 1, .int 1, rfl, (by show 0 ≤ 3; decide), fun H22 _ => k H22⟩
    · rw [if_neg hq, decide_eq_false hq]
      exact ⟨.int 0, .int 0, .int 0, rfl, .int 0, .int 0, rfl, (by show 0 ≤ 3; decide), fun H22 _ => k H22⟩
/-! ### the law -/
abbrev sLaw : Stmt := (top 17)
theorem scLaw : FnScope ["_law_script", "_law_at"] ["_law_script"] (defScope sLaw) := ⟨rfl, rfl, rfl, by decide +kernel, rfl, by decide +kernel, by decide +kernel⟩
def spLaw (K : PySem.W.Frag) : Sp := fun vs H Q _ => ∃ (a : Addr) (ns : List Int), vs = [.ref a] ∧ Scr K H a (ns.map V.int) ∧ ns.length ≤ 63 ∧ ∀ H', Q (.bl true) H'
theorem okLaw {f fB fR : Addr} {fd fdB fdR : FuncData} (F : Fn K "law" "law" sLaw f fd) (B : Bi mg) (GB : FnOk P w K mg base CX0 1 fB fdB ["_law_script", "_law_at"] (spBag K)) (AB : At K mg "_law_bag" fB fdB ["_law_script", "_law_at"])
    (GR : FnOk P w K mg base CX0 6 fR fdR ["_law_bag_here"] spRight) (AR : At K mg "_law_right" fR fdR ["_law_bag_here"]) : FnOk P w K mg base CX0 (6 + 1) f fd ["_law_script"] (spLaw K) := by
  refine F.ok scLaw (fun vs H Q E h => ?_) (fun cdv A outer s H vs Q E hr h => ?_)
  · obtain ⟨a, ns, rfl, _⟩ := h
    rfl
  · obtain ⟨a, ns, rfl, hS, hlen, k⟩ := h
    refine ⟨_, pss_cons (ps_for PassesOwn.never rfl (pi_range1 (by rfl) B.range (pa_cons (pe_callB (call_max2 (by rfl)) (by rfl) B.max bt_max (pa_cons pe_int (pa_cons (pe_callB (call_min2 (by rfl)) (by rfl) B.min bt_min
          (pa_cons pe_int (pa_cons (pe_callB call_len (by rfl) B.len bt_len (pa_cons (pv 0) pa_nil)) pa_nil))) pa_nil))) pa_nil)) (pg_name (i := 1) scLaw.nd rfl (Or.inl rfl))
        (pss_one (ps_if (pt_not (pt_val (pe_call (FnOk.keeps GR) hr rfl AR.g AR.k AR.b .nil pass0 (pa_cons (pe_call (FnOk.keeps GB) (hr.mono (by decide)) rfl AB.g AB.k AB.b .nil pass0 (pa_cons (pv 0) (pa_cons (pv 1) pa_nil))) pa_nil)))) (pss_one (ps_ret pe_bl)) pss_nil)))
      (pss_one (ps_ret pe_bl)), ?_⟩
    refine ⟨_, rfl, _, ns.length, rfl, Or.inl ⟨_, hS.sq, by simp⟩, _, _, rfl, _, _, rfl, ?_⟩
    generalize hn : (if (if (ns.length : Int) < 5 then (ns.length : Int) else 5) > 1 then (if (ns.length : Int) < 5 then (ns.length : Int) else 5) else 1) = n
    have n0 : 1 ≤ n ∧ n ≤ 5 := by
      rw [← hn]
      split <;> split <;> omega
    refine ⟨n, rfl, by omega, by omega, ?_⟩
    refine for_range (lo := 0) (n := n.toNat) (fun i σ H' => Scr K H' a (ns.map V.int) ∧ σ[0]? = some (some (.ref a)) ∧ σ.length = 2) ⟨hS, rfl, rfl⟩ ?_ ?_
    · rintro i σ H' hi ⟨h1, h2, h3⟩
      have z0 : (σ.set 1 (some (.int (0 + (i : Nat)))))[0]? = some (some (.ref a)) := by simp [h2]
      have z1 : (σ.set 1 (some (.int (0 + (i : Nat)))))[1]? = some (some (.int (0 + (i : Nat)))) := by simp [h3]
      have ei : (0 : Int) + (i : Nat) = (i : Nat) := by omega
      refine ⟨_, z0, _, z1, a, ns, i, (by rw [ei]; rfl), h1.sq, fun p x0 x1 hp h0 kp => ?_⟩
      refine ⟨p, rfl, ⟨x0, x1, 0, upd_same, h0⟩, fun H2 k2 => ⟨_, rfl, ?_⟩⟩
      exact ⟨(h1.keep kp).keep k2, z0, by simp [h3]⟩
    · rintro σ H' _
      exact k H'
/-! ### the class Fault as the top has made it -/
def ftB (K : PySem.W.Frag) : Bool := (He.Fa.cls "Fault").ok K && ((He.Fa.mkr "Fault").ok K && ((He.Fa.glo "Fault").ok K && (tyB K (He.ga K "Fault") && (creadB K (He.ga K "Fault") && ((["row", "counts", "layers", "core", "words"] : List Str).all fun x => (He.Fa.noat "Fault" x).ok K)))))
structure FFacts (K : PySem.W.Frag) (mg : Str → Option Value) : Prop where
  t : FTxt K mg (He.ga K "Fault")
  maker : Mk K (He.ga K "Fault") (He.ma K (He.ga K "Fault") "__init__")
  rd : ClX.CRead K (He.ga K "Fault") (.type "type")
theorem ftB_ok {h : Heap} (X : K.In h) (G : h.Ns mainGlobals mg) (c : ftB K = true) : FFacts K mg := by
  obtain ⟨c1, c⟩ := He.ba c
  obtain ⟨c2, c⟩ := He.ba c
  obtain ⟨c3, c⟩ := He.ba c
  obtain ⟨c4, c⟩ := He.ba c
  obtain ⟨c5, c6⟩ := He.ba c
  obtain ⟨t1, t⟩ := He.ba c4
  obtain ⟨t2, t⟩ := He.ba t
  obtain ⟨t3, t4⟩ := He.ba t
  have z := fun (x : Str) hx => He.noat_ok (List.all_eq_true.mp c6 x hx)
  exact ⟨⟨He.cls_ok c1, z _ (by simp), z _ (by simp), z _ (by simp), z _ (by simp), z _ (by simp), He.glo_ok X G c3, He.eqO_ok t1, He.eqO_ok t2, of_decide_eq_true t3, of_decide_eq_true t4⟩, He.mkr_ok c2, creadB_ok c5⟩
/-! ### the head: facts by names, the run -/
abbrev cF (K : PySem.W.Frag) : Addr := He.ga K "Fault"
def fns : List He5.DefA := [defA sBag "_law_bag" "_law_bag" (He.ga · "_law_bag"), defA sDraw "_law_draw" "_law_draw" (He.ga · "_law_draw"), defA sOne "_law_one" "_law_one" (He.ga · "_law_one"), defA sName "_law_name" "_law_name" (He.ga · "_law_name"),
  defA sLike "_law_like" "_law_like" (He.ga · "_law_like"), defA sLNone "_law_none" "_law_none" (He.ga · "_law_none"), defA sLHap "_law_happens" "_law_happens" (He.ga · "_law_happens"), defA sIs "_law_is" "_law_is" (He.ga · "_law_is"),
  defA sNum "_law_number" "_law_number" (He.ga · "_law_number"), defA sRight "_law_right" "_law_right" (He.ga · "_law_right"), defA sLaw "law" "law" (He.ga · "law"),
  defA sFInit "__init__" "Fault.__init__" (fun K => He.ma K (cF K) "__init__"), defA sFNone "none" "Fault.none" (fun K => cmA K (cF K) "none"), defA sFHap "happening" "Fault.happening" (fun K => cmA K (cF K) "happening"),
  defA sFBool "__bool__" "Fault.__bool__" (fun K => He.ma K (cF K) "__bool__"), defA sFHas "__contains__" "Fault.__contains__" (fun K => He.ma K (cF K) "__contains__"), defA sFTold "told" "Fault.told" (fun K => He.ma K (cF K) "told"),
  defA sFHol "is_hollow" "Fault.is_hollow" (fun K => prA K (cF K) "is_hollow")]
def globs : List Str := ["_law_bag", "_law_draw", "_law_one", "_law_name", "_law_like", "_law_none", "_law_happens", "_law_is", "_law_number", "_law_right", "law"]
def exB (K : PySem.W.Frag) : Bool := biB K && (ftB K && ((globs.all fun x => (He.Fa.glo x).ok K) && (cmB K (cF K) "none" && (cmB K (cF K) "happening" && (meB K (cF K) "__bool__" && (meB K (cF K) "__contains__" && (meB K (cF K) "told" && prB K (cF K) "is_hollow")))))))
abbrev R : PySem.W.OpenRow := PySem.W.OpenLaw.row PySem.Challenge.rw_faultsheard_k01_happenings
abbrev hk : PySem.W.Hook := hookX 6 exB fns
def ob (s : PySem.W.SharedT) : AlX := obsXG 6 exB fns (HandSHeadRun.getT s)
theorem ob_eq (s : PySem.W.SharedT) : ob s = hk.obs s.abs := obsXG_eq (HandSHeadRun.getT_eq s)
def loose : List PySem.Str := ["_wall", "Fault", "_law_bag", "_law_draw", "_law_one", "_law_name", "_law_like", "_law_none", "_law_happens", "_law_wraps", "_law_tells", "_law_joins", "_law_is", "_law_number", "_law_right"]
theorem run (w : World) : HandSHeadRun.RunEq R (PySem.W.view R.prog [17]) hk ob 4000 loose w := by
  intro os
  kernel_rfl
theorem facts {P : Program} {w : World} {K : PySem.W.Frag} {h : Heap} {mg : Str → Option Value} {f : Addr} (X : K.In h) (G : h.Ns mainGlobals mg) (hfa : mg ("law" : Str) = some (.ref f)) (c : SaysX exB fns K) :
    ∃ fd : FuncData, (∀ (s : Shared) (v : Value), BindsTo s fd ⟨[v], []⟩ [("_law_script", v)]) ∧ ∀ base : Heap, K.In base → base.Ns mainGlobals mg → FnOk P w K mg base CX0 7 f fd ["_law_script"] (spLaw K) := by
  obtain ⟨e1, e⟩ := He.ba c.ex_
  obtain ⟨e2, e⟩ := He.ba e
  obtain ⟨e3, e⟩ := He.ba e
  obtain ⟨e4, e⟩ := He.ba e
  obtain ⟨e5, e⟩ := He.ba e
  obtain ⟨e6, e⟩ := He.ba e
  obtain ⟨e7, e⟩ := He.ba e
  obtain ⟨e8, e9⟩ := He.ba e
  have B : Bi mg := biB_ok X G e1
  have FT := ftB_ok X G e2
  have gl := fun (x : Str) (hx : x ∈ globs) => List.all_eq_true.mp e3 x hx
  have ge := hfa.symm.trans (He.glo_ok X G (gl "law" (by simp [globs])))
  cases ge
  obtain ⟨d0, F0⟩ := c.fnAt 0 (st := sBag)
  obtain ⟨d1, F1⟩ := c.fnAt 1 (st := sDraw)
  obtain ⟨d2, F2⟩ := c.fnAt 2 (st := sOne)
  obtain ⟨d3, F3⟩ := c.fnAt 3 (st := sName)
  obtain ⟨d4, F4⟩ := c.fnAt 4 (st := sLike)
  obtain ⟨d5, F5⟩ := c.fnAt 5 (st := sLNone)
  obtain ⟨d6, F6⟩ := c.fnAt 6 (st := sLHap)
  obtain ⟨d7, F7⟩ := c.fnAt 7 (st := sIs)
  obtain ⟨d8, F8⟩ := c.fnAt 8 (st := sNum)
  obtain ⟨d9, F9⟩ := c.fnAt 9 (st := sRight)
  obtain ⟨d10, FD⟩ := c.def_ 10 (d := defA sLaw "law" "law" (He.ga · "law"))
  have F10 : Fn K "law" "law" sLaw (He.ga K "law") d10 := He5.fun_of FD
  obtain ⟨d11, F11⟩ := c.fnAt 11 (st := sFInit)
  obtain ⟨d12, F12⟩ := c.fnAt 12 (st := sFNone)
  obtain ⟨d13, F13⟩ := c.fnAt 13 (st := sFHap)
  obtain ⟨d14, F14⟩ := c.fnAt 14 (st := sFBool)
  obtain ⟨d15, F15⟩ := c.fnAt 15 (st := sFHas)
  obtain ⟨d16, F16⟩ := c.fnAt 16 (st := sFTold)
  obtain ⟨d17, F17⟩ := c.fnAt 17 (st := sFHol)
  have A0 := At.mk' X G (gl "_law_bag" (by simp [globs])) F0 (F0.binds (ps := ["_law_script", "_law_at"]) fun _ _ _ _ _ _ us hl => match us, hl with | [_, _], _ => rfl)
  have A1 := At.mk' X G (gl "_law_draw" (by simp [globs])) F1 (F1.binds (ps := ["_law_bag_here", "_law_many"]) fun _ _ _ _ _ _ us hl => match us, hl with | [_, _], _ => rfl)
  have A2 := At.mk' X G (gl "_law_one" (by simp [globs])) F2 (F2.binds (ps := ["_law_bag_here", "_law_some"]) fun _ _ _ _ _ _ us hl => match us, hl with | [_, _], _ => rfl)
  have A3 := At.mk' X G (gl "_law_name" (by simp [globs])) F3 (F3.binds (ps := ["_law_bag_here", "_law_taken"]) fun _ _ _ _ _ _ us hl => match us, hl with | [_, _], _ => rfl)
  have A4 := At.mk' X G (gl "_law_like" (by simp [globs])) F4 (F4.binds (ps := ["_law_actual", "_law_wanted"]) fun _ _ _ _ _ _ us hl => match us, hl with | [_, _], _ => rfl)
  have A5 := At.mk' X G (gl "_law_none" (by simp [globs])) F5 (F5.binds (ps := []) fun _ _ _ _ _ _ us hl => match us, hl with | [], _ => rfl)
  have A6 := At.mk' X G (gl "_law_happens" (by simp [globs])) F6 (F6.binds (ps := ["_law_word", "_law_number_here"]) fun _ _ _ _ _ _ us hl => match us, hl with | [_, _], _ => rfl)
  have A7 := At.mk' X G (gl "_law_is" (by simp [globs])) F7 (F7.binds (ps := ["_law_fault", "_law_model"]) fun _ _ _ _ _ _ us hl => match us, hl with | [_, _], _ => rfl)
  have A8 := At.mk' X G (gl "_law_number" (by simp [globs])) F8 (F8.binds (ps := ["_law_bag_here"]) fun _ _ _ _ _ _ us hl => match us, hl with | [_], _ => rfl)
  have A9 := At.mk' X G (gl "_law_right" (by simp [globs])) F9 (F9.binds (ps := ["_law_bag_here"]) fun _ _ _ _ _ _ us hl => match us, hl with | [_], _ => rfl)
  have b10 := FunD.bindsA (ps := ["_law_script"]) FD fun _ _ _ _ _ _ us hl => match us, hl with | [_], _ => rfl
  have b11 := F11.binds (ps := ["self", "row", "counts", "layers", "core"]) fun _ _ _ _ _ _ us hl => match us, hl with | [_, _, _, _, _], _ => rfl
  have b12 := F12.binds (ps := ["cls"]) fun _ _ _ _ _ _ us hl => match us, hl with | [_], _ => rfl
  have b13 := F13.binds (ps := ["cls", "word", "number"]) fun _ _ _ _ _ _ us hl => match us, hl with | [_, _, _], _ => rfl
  have b14 := F14.binds (ps := ["self"]) fun _ _ _ _ _ _ us hl => match us, hl with | [_], _ => rfl
  have b15 := F15.binds (ps := ["self", "thing"]) fun _ _ _ _ _ _ us hl => match us, hl with | [_, _], _ => rfl
  have b16 := F16.binds (ps := ["self", "happening"]) fun _ _ _ _ _ _ us hl => match us, hl with | [_, _], _ => rfl
  have b17 := F17.binds (ps := ["self"]) fun _ _ _ _ _ _ us hl => match us, hl with | [_], _ => rfl
  refine ⟨d10, fun s v => b10 s [v] rfl, fun base _ _ => ?_⟩
  have GD := okDraw (P := P) (w := w) (base := base) F1 B
  have GI := okFInit (P := P) (w := w) (base := base) F11 B FT.t
  have GL := okLike (P := P) (w := w) (base := base) F4 B A4
  have GLN := okLNone (P := P) (w := w) (mg := mg) (base := base) F5
  have GB := okFBool (P := P) (w := w) (base := base) F14 B FT.t
  have GH := okFHol (P := P) (w := w) (base := base) F17 B FT.t
  have GS := okIs F7 B FT.t (GL 4) A4 GLN A5 GB (meB_ok e6) b14 GH (prB_ok e9) b17
  have GR := okRight F9 B FT.t (okNameF F3 B GD A1) A3 (okNum F8 B GD A1) A8 (okOne F2 B GD A1) A2 GS A7 GLN A5 (okLHap F6) A6 (GL 4) A4 FT.rd (cmB_ok e4) (okFNone F12 FT.maker GI b11) b12 (cmB_ok e5) (okFHap F13 FT.maker GI b11) b13 (meB_ok e7) (okFHas F15 B FT.t) b15 (meB_ok e8) (okFTold F16 B FT.t) b16
  exact okLaw F10 B (okBag F0 B) A0 GR A9
end
end Lw
open PySem PySem.W PySem.Calls PyProof.Rows
set_option maxRecDepth 100000 in
set_option maxHeartbeats 0 in
theorem PySem.Challenge.cw_faultsheard_k01_happenings_holds : PySem.Challenge.rw_faultsheard_k01_happenings.Holds := by
  w_on; o_law
  refine HandSHeadRun.head_any (r := OpenLaw.row PySem.Challenge.rw_faultsheard_k01_happenings) (q := view (OpenLaw.row PySem.Challenge.rw_faultsheard_k01_happenings).prog [17]) (H := Lw.hk) (ob := Lw.ob) (M := 4000) (loose := Lw.loose) (d := HandSHeadRun.topDef (OpenLaw.row PySem.Challenge.rw_faultsheard_k01_happenings).prog 17) (kwd := []) Lw.ob_eq
    (by kernel_rfl) (fun s => by kernel_rfl) Lw.run (by kernel_rfl) (by kernel_rfl) (by kernel_rfl) (by rfl) (by first | assumption | decide +kernel) (by decide +kernel) ⟨rfl, rfl, rfl, rfl, rfl, by decide +kernel⟩ ?hw ?hc
  case hw => w_witness2
  case hc =>
    refine L2.walk_ofE (l := PySem.Challenge.rw_faultsheard_k01_happenings) (n := 63) (k := 7) (x := "_law_script") (CX := L2.CX0) rfl (by decide) (by kernel_rfl) ⟨rfl, by decide, by decide⟩ ?F (fun _ _ _ _ z => z)
    intro w mg fa h Y G hmg0
    obtain ⟨K, KX, c⟩ := Y
    have hmg : mg ("law" : PySem.Str) = some (.ref fa) := by
      have e : (HandSHeadRun.topDef (OpenLaw.row PySem.Challenge.rw_faultsheard_k01_happenings).prog 17).name = ("law" : PySem.Str) := by kernel_rfl
      rw [← e]
      exact hmg0
    obtain ⟨fd, hb, hF⟩ := Lw.facts (P := (PySem.Challenge.rw_faultsheard_k01_happenings).prog) (w := w) KX G hmg c
    exact ⟨K, fd, Lw.spLaw K, KX, hb, fun H a ns hl hO hS => ⟨a, ns, rfl, Fh.Scr.of hO hS, hl, fun _ => rfl⟩, hF⟩
