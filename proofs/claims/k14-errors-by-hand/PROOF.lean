import PyProof.Rows.All
import Wide.All
import OpenK.AllK
import Wide.FinOn
import PyProof.Rows.SortShellAny
import HandS.ForMost
import HandS.More
import HandS.Set
import HandS.SetFor
import KE.KOpsOwn
import HandS.OwnEq
import HandS.ClsMeth
import HandS.TupAny
import KE.GoesMore
import KE.GoesEnum
import HandS.Walk
import HandS.IsInst
import HandS.Property
import HandS.Deep
import HandS.Flow
import HandS.Small
import HandS.Wide
import HandS.Defaults
import HandS.HeadHook1
import HandS.HeadHook2
import HandS.HeadNt
import KE.KDictZip
import KE.KeyNested
import KE.KTurns
import HandS.Zip
import HandS.Dict
import HandS.ExcInit
import HandS.WordsExc
import HandS.Comp
import HandS.Records
import HandS.Text
import HandS.StrMore
import HandS.Iter
import HandS.Style
import HandS.Star
import HandS.NoneIn
import HandS.MakeKw
import HandS.MakeKwOnly
import HandS.Exc
import HandS.ExcOwn
import HandS.ExcField
import HandS.ExcIs
import KE.KExcIs
import HandS.ExcValue
import KE.KStateDown
import HandS.Ends
import HandS.Head0
import HandS.Head1
import HandS.Head2
import HandS.HeadEnd
import PySem.Challenge.RW_faultsheard_k14_errors_by_hand
set_option Elab.async false
set_option linter.all false
set_option maxRecDepth 100000
set_option maxHeartbeats 4000000
/-! Sets of texts: made of a tuple of texts, sorted. -/
namespace Fh
open PySem PySem.Spec PyProof.Rows L2

def tKey (e : Int × Value) : Str := match e.2 with | .str x _ => x | _ => Str.empty
def TGood (w : World) (e : Int × Value) : Prop := ∃ x tk, e.2 = Value.str x tk ∧ e.1 = hashStr w x
/-- a set of texts stands at a -/
structure TSet (w : World) (h : Heap) (a : Addr) (S : Str → Bool) (n : Nat) (o : Obj) (es : Array (Int × Value)) (ep : Nat) (t : SetTable) : Prop where
  ob : h.get? a = some o
  ex : o.ExactSet
  dt : o.data = .set es ep t
  gd : ∀ e ∈ es.toList, TGood w e
  nd : (es.toList.map tKey).Nodup
  mem : ∀ k, S k = true ↔ k ∈ es.toList.map tKey
  bd : es.size < scanBound
  ft : t.fits es.size = true
  sz : es.size = n
  rs : Ris t.place.toList
  ld : w.params.followText "set-order" = true ∨ t.led = true
def TxR (w : World) (h : Heap) (a : Addr) (S : Str → Bool) (n : Nat) : Prop := ∃ o es ep t, TSet w h a S n o es ep t

section
variable {P : Program} {w : World} {h h' : Heap} {a : Addr} {S : Str → Bool} {n : Nat}
theorem TxR.at (R : TxR w h a S n) (k : ∀ o, h.get? a = some o → h'.get? a = some o) : TxR w h' a S n :=
  let ⟨o, es, ep, t, z⟩ := R
  ⟨o, es, ep, t, { z with ob := k o z.ob }⟩
theorem TxR.congr {S' : Str → Bool} (R : TxR w h a S n) (e : ∀ k, S' k = S k) : TxR w h a S' n := by
  obtain rfl : S' = S := funext e
  exact R
theorem tgood_elems {l : List (Int × Value)} (g : ∀ e ∈ l, TGood w e) : ElemsOf (strKind P w) l := fun e he => by
  obtain ⟨x, tk, h1, h2⟩ := g e he
  refine ⟨⟨x, ?_, h2⟩, by rw [h1] <;> rfl⟩
  rw [h1]
  show Value.isStrOf x (.str x tk) = true
  simp [Value.isStrOf]
theorem tgood_is {e : Int × Value} (g : TGood w e) (k : Str) : (strKind P w).is k e.2 = true ↔ tKey e = k := by
  obtain ⟨x, tk, h1, _⟩ := g
  unfold tKey
  rw [h1]
  show Value.isStrOf k (.str x tk) = true ↔ x = k
  simp [Value.isStrOf]
theorem tgood_mem {l : List (Int × Value)} (g : ∀ e ∈ l, TGood w e) (k : Str) : k ∈ l.map tKey ↔ ∃ e ∈ l, (strKind P w).is k e.2 = true := by
  constructor
  · intro hk
    obtain ⟨e, he, q⟩ := List.mem_map.mp hk
    exact ⟨e, he, (tgood_is (g e he) k).2 q⟩
  · rintro ⟨e, he, q⟩
    exact List.mem_map.mpr ⟨e, he, (tgood_is (g e he) k).1 q⟩
theorem isStr_self (x : Str) (t : Tok) : (strKind P w).is x (.str x t) = true := by
  show Value.isStrOf x (.str x t) = true
  simp [Value.isStrOf]
end

section
variable {P : Program} {w : World} {A : Around} {E : Value → Shared → Prop} {s : Shared} {a : Addr} {S : Str → Bool} {n : Nat}
/-- behind a new member: the table is laid anew where it is too full -/
theorem tset_tail {g : Bool → Sem Unit} (hg : ∀ (b : Bool) (s₁ : Shared) (Q' : Unit → Shared → Prop), Q' () s₁ → wpAny (model P w) A (g b) Q' E s₁)
    {o : Obj} {es : Array (Int × Value)} {ep : Nat} {t : SetTable} (ho : s.heap.get? a = some o) (hex : o.ExactSet) (hd : o.data = .set es ep t)
    {es1 : Array (Int × Value)} {t2 : SetTable} {S' : Str → Bool} (g1 : ∀ e ∈ es1.toList, TGood w e) (nd1 : (es1.toList.map tKey).Nodup) (m1 : ∀ k, S' k = true ↔ k ∈ es1.toList.map tKey)
    (hb1 : es1.size < scanBound) (hf2 : t2.fits es1.size = true) (hr : Ris t2.place.toList) (hl : w.params.followText "set-order" = true ∨ t2.led = true) {wasDummy : Bool} {R : Option Bool → Shared → Prop}
    (hR : ∀ h', Heap.SameBut a s.heap h' → TxR w h' a S' es1.size → R (some true) { s with heap := h' }) :
    wpAny (model P w) A (do
        storeSet a es1 t2
        if (!wasDummy && t2.tooFull) = true then do
            g (relayAll t2 es1 (SetTable.grown es1.size)).2.2
            storeSet a (relayAll t2 es1 (SetTable.grown es1.size)).1 (relayAll t2 es1 (SetTable.grown es1.size)).2.1
            pure (some true)
          else pure (some true)) R E s := by
  refine wpAny_bind (wpAny_storeSet_of ho hd ?_ (fits_of_scanBound hb1))
  have ho1 := store_at (es' := es1) (t' := t2) ho hd
  have sb1 := Heap.SameBut.update s.heap a (Obj.putSet es1 t2)
  split
  · have pm := relayAll_perm t2 es1 (SetTable.grown es1.size)
    have hf3 := relayAll_fits t2 es1 (SetTable.grown es1.size)
    have hr3 := relayAll_ris t2 es1 (SetTable.grown es1.size)
    have hl3 := relayAll_led t2 es1 (SetTable.grown es1.size)
    generalize relayAll t2 es1 (SetTable.grown es1.size) = Z at pm hf3 hr3 hl3 ⊢
    obtain ⟨es2, t3, gave⟩ := Z
    dsimp only at pm hf3 hr3 hl3 ⊢
    have hsz : es2.size = es1.size := by rw [← Array.length_toList, pm.length_eq, Array.length_toList]
    have hb2 : es2.size < scanBound := hsz ▸ hb1
    refine wpAny_bind (hg _ _ _ ?_)
    refine wpAny_bind (wpAny_storeSet_of ho1 rfl ?_ (fits_of_scanBound hb2))
    have ho2 := store_at (es' := es2) (t' := t3) ho1 rfl
    refine wpAny_pure (hR _ (sb1.trans (Heap.SameBut.update _ a _)) ?_)
    exact ⟨_, es2, _, t3, { ob := ho2, ex := hex, dt := rfl, gd := fun e he => g1 e (pm.mem_iff.mp he), nd := (pm.map tKey).nodup_iff.mpr nd1, mem := fun k => (m1 k).trans (pm.map tKey).mem_iff.symm, bd := hb2, ft := hf3, sz := hsz, rs := hr3, ld := hl.imp id fun z => by rw [hl3]; exact z }⟩
  · exact wpAny_pure (hR _ sb1 ⟨_, es1, _, t2, { ob := ho1, ex := hex, dt := rfl, gd := g1, nd := nd1, mem := m1, bd := hb1, ft := hf2, sz := rfl, rs := hr, ld := hl }⟩)

/-- one text more -/
theorem tset_add {k : Str} {tk : Tok} {Q : Bool → Shared → Prop} (R : TxR w s.heap a S n) (room : n + 1 < scanBound)
    (hQ : ∀ h', Heap.SameBut a s.heap h' → TxR w h' a (fun j => S j || decide (j = k)) (if S k = true then n else n + 1) → Q (!S k) { s with heap := h' }) :
    wpAny (model P w) A (setAddHashed a (.str k tk) ((strKind P w).hash k)) Q E s := by
  obtain ⟨o, es, ep, t, Z⟩ := R
  have ho := Z.ob
  have hd := Z.dt
  have hkey : (strKind P w).is k (.str k tk) = true := isStr_self k tk
  have hsc : (Value.str k tk).scannable = true := rfl
  have hel : ElemsOf (strKind P w) es.toList := tgood_elems Z.gd
  unfold setAddHashed setAddHashedIn
  refine wpAny_holding (wpAny_bind (wpAny_setState_of ho hd Z.ft ?_))
  dsimp only
  rw [byScan_of hsc Z.bd hel]
  simp only [↓reduceIte]
  unfold setAddByScan
  refine wpAny_bind ?_
  refine wpAny_bind (wpAny_rule ?_)
  refine wpAny_bind (wpAny_setScan_of hkey ho hd Z.ft hel ?_)
  cases hfi : List.findIdx? (fun e => (strKind P w).is k e.2) es.toList with
  | some j =>
    dsimp only
    obtain ⟨hj, pj, _⟩ := List.findIdx?_eq_some_iff_getElem.mp hfi
    have hSk : S k = true := (Z.mem k).2 ((tgood_mem (P := P) (w := w) Z.gd k).2 ⟨es.toList[j], List.getElem_mem hj, pj⟩)
    refine wpAny_pure (wpAny_pure ?_)
    have q := hQ s.heap (Heap.SameBut.refl a s.heap) ⟨o, es, ep, t, { Z with
      mem := fun i => by
        rw [Bool.or_eq_true, decide_eq_true_eq, ← Z.mem i]
        exact ⟨fun z => z.elim id (fun e => e ▸ hSk), .inl⟩
      sz := by rw [if_pos hSk]; exact Z.sz }⟩
    rw [hSk] at q
    exact q
  | none =>
    dsimp only
    have hnk : k ∉ es.toList.map tKey := fun z => by
      obtain ⟨e, he, q⟩ := (tgood_mem (P := P) (w := w) Z.gd k).1 z
      have c := List.findIdx?_eq_none_iff.mp hfi e he
      rw [q] at c
      cases c
    have hSk : S k = false := by
      cases q : S k with
      | false => rfl
      | true => exact absurd ((Z.mem k).1 q) hnk
    have hgw : ∀ (b : Bool) {s₁ : Shared} {Q' : Unit → Shared → Prop}, Q' () s₁ → wpAny (model P w) A (match b with | true => rule "set.scan.the-table-gave-way" | false => pure ()) Q' E s₁ :=
      fun b s₁ Q' q => by cases b <;> first | exact wpAny_pure q | exact wpAny_rule q
    have pm := layNew_perm t es ((strKind P w).hash k) (.str k tk)
    have hf1 := layNew_fits t es ((strKind P w).hash k) (.str k tk)
    have hr1 := layNew_ris t es ((strKind P w).hash k) (.str k tk) Z.rs
    have hl1 := layNew_led t es ((strKind P w).hash k) (.str k tk)
    generalize layNew t es ((strKind P w).hash k) (.str k tk) = Y at pm hf1 hr1 hl1 ⊢
    obtain ⟨es1, t1, wasDummy, gave⟩ := Y
    dsimp only at pm hf1 hr1 hl1 ⊢
    rw [Array.toList_push] at pm
    have pc : es1.toList.Perm (((strKind P w).hash k, Value.str k tk) :: es.toList) := pm.trans (List.perm_append_singleton _ _)
    have pk : (es1.toList.map tKey).Perm (k :: es.toList.map tKey) := pc.map tKey
    have g1 : ∀ e ∈ es1.toList, TGood w e := fun e he => by
      rcases List.mem_cons.mp (pc.mem_iff.mp he) with z | z
      · rw [z]; exact ⟨k, tk, rfl, rfl⟩
      · exact Z.gd e z
    have nd1 : (es1.toList.map tKey).Nodup := pk.nodup_iff.mpr (List.nodup_cons.mpr ⟨hnk, Z.nd⟩)
    have m1 : ∀ i, (S i || decide (i = k)) = true ↔ i ∈ es1.toList.map tKey := fun i => by
      rw [Bool.or_eq_true, decide_eq_true_eq, Z.mem i, pk.mem_iff, List.mem_cons]
      exact Or.comm
    have hsz : es1.size = n + 1 := by rw [← Array.length_toList, pc.length_eq, List.length_cons, Array.length_toList, Z.sz]
    have hb1 : es1.size < scanBound := by rw [hsz]; exact room
    have hled : w.params.followText "set-order" = true ∨ t1.led = true := Z.ld.imp id fun z => by rw [hl1]; exact z
    have fin : ∀ h', Heap.SameBut a s.heap h' → TxR w h' a (fun j => S j || decide (j = k)) es1.size → Q true { s with heap := h' } := fun h' sb r => by
      have q := hQ h' sb
      rw [hSk] at q
      rw [hsz] at r
      exact q r
    refine wpAny_bind (hgw _ ?_)
    split
    · refine wpAny_bind ?_
      rw [hashByValue_scannable 8 hsc]
      refine wpAny_pure ?_
      refine tset_tail ?_ ho Z.ex hd g1 nd1 m1 hb1 ?_ ?_ ?_ ?_
      · intro b s₁ Q' q; cases b <;> first | exact wpAny_pure q | exact wpAny_rule q
      · first | (split <;> first | exact hf1 | exact SetTable.fits_plain_off hf1) | exact hf1
      · first | (split <;> exact hr1) | exact hr1
      · first | (split <;> exact hled) | exact hled
      · intro h' sb r; dsimp only; exact wpAny_pure (fin h' sb r)
    · refine wpAny_bind (wpAny_pure ?_)
      simp only [↓reduceIte]
      refine tset_tail ?_ ho Z.ex hd g1 nd1 m1 hb1 hf1 hr1 hled ?_
      · intro b s₁ Q' q; cases b <;> first | exact wpAny_pure q | exact wpAny_rule q
      · intro h' sb r; dsimp only; exact wpAny_pure (fin h' sb r)

theorem fresh_led (w : World) : w.params.followText "set-order" = true ∨ (!w.params.followText "set-order") = true := by
  cases w.params.followText "set-order"
  · exact .inr rfl
  · exact .inl rfl
theorem tset_empty {w : World} {h : Heap} {a : Addr} {xs : List Str} (ho : h.get? a = some { cls := .type "set", dict := none, data := .set #[] 0 (.fresh 0 0 (!w.params.followText "set-order")) }) : TxR w h a (fun j => decide (j ∈ xs.take 0)) 0 :=
  ⟨_, #[], 0, _, { ob := ho, ex := ⟨rfl, rfl, rfl⟩, dt := rfl, gd := (fun e he => by simp at he), nd := (by simp), mem := (fun k => by simp), bd := (by decide), ft := (by rfl), sz := rfl, rs := List.Pairwise.nil, ld := fresh_led w }⟩

/-- the loop of set.update over texts -/
theorem tset_update {I : Addr} {fp wr : List Addr} {G : Array GenState → Array GenState → Prop} {n : Nat} {Pv : Nat → Value → Prop} {St : Nat → Shared → Prop} {R : Result → Shared → Prop}
    (W : WalksS P w A.in1 I fp wr G n Pv St) (S : Addr) (hSf : S ∉ fp) (xs : List Str) (hn : n = xs.length) (hb : xs.length + 1 < scanBound) (hval : ∀ i v, Pv i v → ∃ k t, xs[i]? = some k ∧ v = .str k t) :
    ∀ (k i : Nat) (s : Shared), n - i = k → i ≤ n → St i s → (∃ c, c ≤ i ∧ TxR w s.heap S (fun j => decide (j ∈ xs.take i)) c) →
      (∀ s' c, Moved (S :: wr) G s s' → c ≤ n → TxR w s'.heap S (fun j => decide (j ∈ xs)) c → R (.ok (.ret .none)) s') →
      codeAny (model P w) A (.builtin "set.update.loop" ⟨[.ref S, .ref I], []⟩) R s := by
  have hSw : S ∉ wr := fun h => hSf (W.sub _ h)
  have hsub : ∀ b ∈ wr, b ∈ S :: wr := fun b hb => List.mem_cons_of_mem _ hb
  intro k
  induction k with
  | zero =>
    intro i s hk' hi hst ⟨c, hc, hS⟩ hR
    have hin : i = n := by omega
    subst hin
    refine codeAny_builtin F.entry_set_update_loop ?_
    rw [Around.under_plainId F.plain_set_update_loop _]
    show wpAny _ A.in1 (pyNext (.ref I) >>= _) _ _ s
    refine wpAny_bind (W.done s _ _ hst fun s' hm => ?_)
    show wpAny _ A.in1 (ret Value.none) _ _ s'
    have e : xs.take i = xs := List.take_of_length_le (by omega)
    rw [e] at hS
    exact wpAny_pure (hR s' c (hm.mono hsub) hc (hS.at fun o e => hm.heap S o hSw e))
  | succ k ih =>
    intro i s hk' hi hst ⟨c, hc, hS⟩ hR
    have hlt : i < n := by omega
    refine codeAny_builtin F.entry_set_update_loop ?_
    rw [Around.under_plainId F.plain_set_update_loop _]
    show wpAny _ A.in1 (pyNext (.ref I) >>= _) _ _ s
    refine wpAny_bind (W.item i s _ _ hlt hst fun v s' hP hst' hm => ?_)
    obtain ⟨z, t, hz, rfl⟩ := hval i v hP
    have hS' : TxR w s'.heap S (fun j => decide (j ∈ xs.take i)) c := hS.at fun o e => hm.heap S o hSw e
    show wpAny _ A.in1 (holding [Value.str z t] (setAdd S (.str z t)) >>= _) _ _ s'
    refine wpAny_bind (wpAny_holding ?_)
    unfold setAdd
    refine wpAny_holding ?_
    refine wpAny_bind ((strKind P w).pyHash (k := z) (isStr_self z t) ?_)
    refine tset_add (s := { s' with toks := s'.toks + 1 }) hS' (by omega) fun h' hsb hS2 => ?_
    have hS3 : TxR w h' S (fun j => decide (j ∈ xs.take (i + 1))) (if decide (z ∈ xs.take i) = true then c else c + 1) := hS2.congr fun j => by
      rw [List.take_add_one, hz]
      simp [List.mem_append]
    have hc3 : (if decide (z ∈ xs.take i) = true then c else c + 1) ≤ i + 1 := by
      split <;> omega
    refine wpAny_pure ⟨plainId_quiet F.plain_set_update_loop _, ih (i + 1) _ (by omega) hlt (W.frame _ s' _ _ hst' (Nat.le_succ _) fun b hb o e => ?_) ⟨_, hc3, hS3⟩ fun s'' c2 hm'' hc'' hS'' => ?_⟩
    · rw [hsb.2 b (fun h : b = S => hSf (by rw [← h]; exact hb))]; exact e
    · refine hR s'' c2 (Moved.trans W.gtrans ((hm.mono hsub).then_heap (Nat.le_succ _) fun b o hb e => ?_) hm'') hc'' hS''
      rw [hsb.2 b (fun h : b = S => hb (by rw [h]; exact List.mem_cons_self))]; exact e

set_option maxHeartbeats 8000000 in
/-- set(t), t a tuple of texts -/
theorem tset_call {l : Addr} {items : Array Value} (xs : List Str) {Q : Value → Shared → Prop} (hh : A.handled = none) (hl : s.heap.IsTuple l items) (hsz : items.size = xs.length)
    (hval : ∀ (i : Nat) (v : Value), items[i]? = some v → ∃ k t, xs[i]? = some k ∧ v = .str k t) (hb : xs.length + 1 < scanBound)
    (h : ∀ (h' : Heap) (tk c : Nat), TxR w h' s.heap.objs.size (fun j => decide (j ∈ xs)) c → c ≤ xs.length → (∀ b o, s.heap.get? b = some o → h'.get? b = some o) → Q (.ref s.heap.objs.size) { s with heap := h', toks := tk }) :
    wpAny (model P w) A (call (.type "set") [.ref l]) Q E s := by
  obtain ⟨c, tl, hmro⟩ := F.called_set.mro
  have hmade := F.called_set.made
  have hsub := F.called_set.sub
  refine wpAny_call (codeAny_of_tree ?_)
  show wpAny _ _ (callAny (.type "set") _) _ _ _
  refine wpAny_pure ⟨Code.quiet_builtin _ (by decide +kernel), codeAny_builtin F.entry_type_call ?_⟩
  rw [Around.under_plain (weight_type_call_type "set" [.ref l] []) rfl]
  have h1 := F.called_set.notType
  have h2 := F.called_set.canCreate
  have hct := F.typeCall_set_1 (.ref l)
  repeat (any_goals (first | assumption | wp_step))
  refine codeAny_mono (code_set_led1 (.ref l) (E := E) (Q₁ := fun obj s₁ => obj = .ref s.heap.objs.size ∧ s₁ = { s with heap := s.heap.push { cls := .type "set", dict := none, data := .set #[] 0 (.fresh 0 0 (!w.params.followText "set-order")) } }) ⟨rfl, rfl⟩) fun r s₁ hr => ?_
  cases r with
  | error e => exact hr
  | ok fl =>
    cases fl with
    | ret obj =>
      obtain ⟨rfl, rfl⟩ := hr
      have hS : (s.heap.push { cls := .type "set", dict := none, data := .set #[] 0 (.fresh 0 0 (!w.params.followText "set-order")) }).get? s.heap.objs.size = some { cls := .type "set", dict := none, data := .set #[] 0 (.fresh 0 0 (!w.params.followText "set-order")) } := Heap.get?_push_size _ rfl
      have hT : Shared.TypeIs { s with heap := s.heap.push { cls := .type "set", dict := none, data := .set #[] 0 (.fresh 0 0 (!w.params.followText "set-order")) } } (.ref s.heap.objs.size) "set" := ⟨_, hS, rfl⟩
      have hli := F.called_set.init.lookup
      have hbi := F.called_set.init.bind (.ref s.heap.objs.size)
      repeat (any_goals (first | assumption | wp_step))
      refine codeAny_mono (codeAny_call_builtin (R := wants (fun r s₂ => r = .none ∧ ∃ h' tk c, s₂ = { s with heap := h', toks := tk } ∧ TxR w h' s.heap.objs.size (fun j => decide (j ∈ xs)) c ∧ c ≤ xs.length ∧
          (∀ b o, s.heap.get? b = some o → h'.get? b = some o)) E) F.called_set.init.plain F.entry_set_init (check_set_init_1 hT ?_)) fun r₂ s₂ hr₂ => ?_
      · obtain ⟨ol, hol, hcl, nl, hdl⟩ := hl
        obtain ⟨ocls, odict, odata, oslots⟩ := ol
        simp only at hcl hdl
        subst hcl; subst hdl
        have hol' : (s.heap.push { cls := .type "set", dict := none, data := .set #[] 0 (.fresh 0 0 (!w.params.followText "set-order")) }).get? l = some { cls := .type "tuple", dict := odict, data := .seq items nl, slots := oslots } := Heap.get?_push_of_some _ hol
        have hsls := F.sub_tuple_set
        have hslf := F.sub_tuple_frozenset
        have hne : (Value.type "tuple" == Value.type "dict") = false := by decide
        have hl1 : (s.heap.push { cls := .type "set", dict := none, data := .set #[] 0 (.fresh 0 0 (!w.params.followText "set-order")) }).IsTuple l items := ⟨_, hol', rfl, nl, rfl⟩
        unfold Builtin.«set.__init__» noKeywords Builtin.Frozenset.updateFrom
        generalize hPI : pyIter = PI
        wp_walk
        subst hPI
        refine wpAny_pyIter_tuple hl1 ?_
        refine wpAny_bind (wpAny_runValue ?_)
        have hlS : l < s.heap.objs.size := Heap.lt_size hol
        have hh3 : A.in1.in1.in1.handled = none := by simp [hh]
        have hneI : l ≠ (s.heap.push { cls := .type "set", dict := none, data := .set #[] 0 (.fresh 0 0 (!w.params.followText "set-order")) }).objs.size := by
          rw [Heap.size_push]; exact Nat.ne_of_lt (Nat.lt_succ_of_lt hlS)
        have hSf : s.heap.objs.size ∉ [(s.heap.push { cls := .type "set", dict := none, data := .set #[] 0 (.fresh 0 0 (!w.params.followText "set-order")) }).objs.size, l] := by
          rw [Heap.size_push]; simp only [List.mem_cons, List.mem_singleton, List.not_mem_nil, or_false, not_or]
          exact ⟨Nat.ne_of_lt (Nat.lt_succ_self _), Nat.ne_of_gt hlS⟩
        refine tset_update ((Walks.tuple hh3 _ l hneI items).toS) s.heap.objs.size
          hSf xs hsz hb hval (items.size - 0) 0 _ (by omega) (Nat.zero_le _)
          ⟨⟨_, Heap.get?_push_size _ rfl, rfl, rfl⟩, (hl1.push _)⟩ ?hS0 ?hR
        case hS0 =>
          exact ⟨0, Nat.le_refl 0, tset_empty (Heap.get?_push_of_some _ hS)⟩
        case hR =>
          intro s' c' hm hc' hS'
          obtain ⟨h', g2, d', tk', os'⟩ := s'
          have eg : g2 = s.gens := hm.gens
          have ed : d' = s.drawn := hm.drawn
          have eo : os' = s.os := hm.os
          subst eg; subst ed; subst eo
          show wpAny _ _ _ _ _ _
          refine wpAny_pure ?_
          show wpAny _ _ (ret Value.none) _ _ _
          rw [hsz] at hc'
          refine wpAny_pure ⟨rfl, h', tk', c', rfl, hS', hc', fun b o e => ?_⟩
          have hb0 : b < s.heap.objs.size := Heap.lt_size e
          have hb1 : b ≠ s.heap.objs.size := Nat.ne_of_lt hb0
          have hb2 : b ≠ (s.heap.push { cls := .type "set", dict := none, data := .set #[] 0 (.fresh 0 0 (!w.params.followText "set-order")) }).objs.size := by
            rw [Heap.size_push]; exact Nat.ne_of_lt (Nat.lt_succ_of_lt hb0)
          exact hm.heap b o (by simp only [List.mem_cons, List.mem_singleton, List.not_mem_nil, or_false, not_or]; exact ⟨hb1, hb2⟩) (Heap.get?_push_of_some _ (Heap.get?_push_of_some _ e))
      · cases r₂ with
        | error e => exact hr₂
        | ok fl₂ =>
          cases fl₂ with
          | ret r =>
            obtain ⟨rfl, h', tk, c', rfl, hS', hc', hk'⟩ := hr₂
            repeat (any_goals (first | assumption | wp_step))
            exact h _ _ _ hS' hc' hk'
          | _ => exact hr₂.elim
    | _ => exact hr.elim

theorem strsAre_of : ∀ (l : List Value), (∀ v ∈ l, ∃ x tk, v = Value.str x tk) → StrsAre l (l.map strOf)
  | [], _ => .nil
  | v :: l, h => by
    obtain ⟨x, tk, rfl⟩ := h v List.mem_cons_self
    exact .cons x tk (strsAre_of l fun u hu => h u (List.mem_cons_of_mem _ hu))

/-- sorted(a set of texts) -/
theorem tset_sorted {Q : Value → Shared → Prop} (R : TxR w s.heap a S n) (hh : A.handled = none) (hz : n ≤ sizeLine)
    (hQ : ∀ s' p (out : Array Value) (c : Nat) (ss : List Str), (∀ b o, s.heap.get? b = some o → s'.heap.get? b = some o) → s'.gens = s.gens → s'.os = s.os → s.heap.objs.size ≤ p →
      s'.heap.get? p = some (seqObj "list" out c) → StrsAre out.toList ss → sortedS ss = true → ss.Nodup → (∀ k, k ∈ ss ↔ S k = true) → ss.length = n → Q (.ref p) s') :
    wpAny (model P w) A (call (.builtin "sorted") [.ref a]) Q E s := by
  obtain ⟨o, es, ep, t, Z⟩ := R
  refine Calls.call_function_entry kind_sorted plain_sorted entry_sorted (args_sorted1 _) ?_
  unfold Builtin.«sorted»
  refine wpAny_bind (m := checkCount "sorted" 1 1 _) (wpAny_pure ?_)
  refine wpAny_bind (collect_set (A := A.in1) hh ⟨o, Z.ob, Z.ex.1, Z.dt⟩ Z.ft Z.bd Z.rs Z.ld fun s1 vs k1 hz1 g1 o1 pm => ?_)
  have hvl : vs.length = n := by rw [pm.length_eq, List.length_map, Array.length_toList]; exact Z.sz
  have hI : StrsAre vs (vs.map strOf) := strsAre_of vs fun v hv => by
    obtain ⟨e, he, q⟩ := List.mem_map.mp (pm.mem_iff.mp hv)
    obtain ⟨x, tk, h1, _⟩ := Z.gd e he
    exact ⟨x, tk, by rw [← q]; exact h1⟩
  have pk : (vs.map strOf).Perm (es.toList.map tKey) := by
    have q := pm.map strOf
    rw [List.map_map] at q
    have e : es.toList.map (strOf ∘ fun x => x.2) = es.toList.map tKey := List.map_congr_left fun e he => by
      obtain ⟨x, tk, h1, _⟩ := Z.gd e he
      show strOf e.2 = tKey e
      unfold tKey
      rw [h1]
      rfl
    rw [e] at q
    exact q
  refine wpAny_bind (wpAny_newList ?_ (by rw [hvl]; exact hz))
  have hoL : (s1.heap.push (seqObj "list" vs.toArray 0)).get? s1.heap.objs.size = some (seqObj "list" vs.toArray 0) := Heap.get?_push_size _ rfl
  refine wpAny_bind (wpAny_holding (wpAny_call_entry slot_list_sort ⟨_, hoL, rfl⟩ entry_list_sort (list_sort_treeKAny strKind_oneLt hoL hI.keysOf (fun v₁ v₂ rest e => keyKind_strs (by rw [← e]; exact hI)) (by rw [hvl]; exact hz) fun st' hp hs => ⟨_, rfl, ?_⟩) (args_list_sort _)))
  obtain ⟨ss', a1, a2, a3⟩ := sorted_out_str hI hp hs
  obtain ⟨c, hc⟩ := sortedHeap_at (vs := vs) (out := (arrOf st').map (·.2)) hoL
  have pn : ss'.Perm (es.toList.map tKey) := a2.trans pk
  refine wpAny_pure ⟨_, rfl, hQ _ s1.heap.objs.size _ c ss' (fun b u e => ?_) g1 o1 hz1 hc a1 a3 (pn.nodup_iff.mpr Z.nd) (fun k => by rw [pn.mem_iff, ← Z.mem k]) ?_⟩
  · have q := k1 b u e
    have hlt := Heap.lt_size q
    show (sortedHeap (s1.heap.push (seqObj "list" vs.toArray 0)) s1.heap.objs.size vs _).get? b = some u
    rw [sortedHeap_old (Nat.ne_of_lt hlt) (by rw [size_push']; exact Nat.lt_succ_of_lt hlt)]
    exact Heap.get?_push_of_some _ q
  · rw [pn.length_eq, List.length_map, Array.length_toList]; exact Z.sz
end

end Fh
namespace Fh
open PySem PySem.Spec PyProof.Rows L2
/-- the set of texts at a, as an object of the layer -/
def TxO (w : World) (a : Addr) (S : Str → Bool) (n : Nat) : HO := .ext fun h => TxR w h a S n
section
variable {X : Cx}
theorem txO_new {w : World} {P : Program} {H : Hp} {h : Heap} {a : Addr} {S : Str → Bool} {n : Nat} (R : TxR w h a S n) : ObjOk P w H h a (TxO w a S n) := by
  have ⟨o, _, _, _, z⟩ := R
  exact ⟨R, ⟨o, z.ob⟩, fun h1 h2 p k => TxR.at p k⟩
theorem txO_get {pins : List (Addr × Obj)} {σ : L2.St} {H : Hp} {s : Shared} {a : Addr} {S : Str → Bool} {n : Nat} (I : Inv X pins σ H s) (ha : H a = some (TxO X.w a S n)) : TxR X.w s.heap a S n := (I.hok a _ ha).1
theorem vals_strs : ∀ {xs : List Str} {us : List Value}, Vals (xs.map V.str) us → StrsAre us xs
  | [], _, .nil => .nil
  | _ :: _, _, .cons ⟨_, e⟩ t => by
    rw [e]
    exact .cons _ _ (vals_strs t)
theorem strs_vals : ∀ {us : List Value} {xs : List Str}, StrsAre us xs → Vals (xs.map V.str) us
  | _, _, .nil => .nil
  | _, _, .cons x t h => .cons ⟨t, rfl⟩ (strs_vals h)
/-- set(t) of a tuple of texts -/
def rSetTx (K : PySem.W.Frag) (w : World) : List V → Hp → VK → Prop := fun vs H Q => ∃ (l : Addr) (xs : List Str), vs = [V.ref l] ∧ SqT K H l (xs.map V.str) ∧ xs.length + 1 < scanBound ∧
  ∀ (a : Addr) (n : Nat), H a = none → n ≤ xs.length → Q (.ref a) (upd H a (TxO w a (fun j => decide (j ∈ xs)) n))
theorem cr_setTx (hc : X.calm = true) : CallR X (.type "set") (rSetTx X.K X.w) := by
  intro pins s σ H vs us Q I r h
  obtain ⟨l, xs, rfl, hl, hb, q⟩ := h
  rw [Vals.ref1 r]
  obtain ⟨its, rv, ht, hz⟩ := I.tuple hl
  have hs := vals_strs rv
  have hlen : its.toArray.size = xs.length := by
    rw [List.size_toArray, ← rv.length, List.length_map]
  refine tset_call xs (I.ok.hd hc) ht hlen (fun i v hv => ?_) hb fun h' tk c hS hcl hk => ?_
  · obtain ⟨y, t, e, hy⟩ := hs.item i v (by simpa using hv)
    exact ⟨y, t, hy, e⟩
  · have hn : H s.heap.objs.size = none := I.hok.fresh (Nat.le_refl _)
    exact ⟨.ref _, upd H s.heap.objs.size (TxO X.w s.heap.objs.size (fun j => decide (j ∈ xs)) c), I.laid (t' := tk) hk (Nat.le_refl _) (txO_new hS), rfl, q _ _ hn hcl⟩
/-- sorted(found) of a set of texts -/
def rSortTx (w : World) : List V → Hp → VK → Prop := fun vs H Q => ∃ (a : Addr) (S : Str → Bool) (n : Nat), vs = [V.ref a] ∧ H a = some (TxO w a S n) ∧ n ≤ sizeLine ∧
  ∀ (ss : List Str) (p : Addr), sortedS ss = true → ss.Nodup → (∀ k, k ∈ ss ↔ S k = true) → ss.length = n → H p = none → Q (.ref p) (upd H p (.lst (ss.map V.str)))
theorem cr_sortTx (hc : X.calm = true) : CallR X (.builtin "sorted") (rSortTx X.w) := by
  intro pins s σ H vs us Q I r h
  obtain ⟨a, S, n, rfl, ha, hz, q⟩ := h
  have R := txO_get I ha
  rw [Vals.ref1 r]
  refine tset_sorted R (I.ok.hd hc) hz fun s' p out c ss k g o hp hg hi hs hnd hm hl => ?_
  have hlen : (ss.map V.str).length ≤ sizeLine := by rw [List.length_map, hl]; exact hz
  have hn : H p = none := I.hok.fresh hp
  have J : Inv X pins σ (upd H p (.lst (ss.map V.str))) { s with heap := s'.heap, gens := s'.gens, drawn := s'.drawn, toks := s'.toks } :=
    I.call (ch := []) (Un.laid k hp hn) (I.hok.laid k hp ⟨hlen, out.toList, c, strs_vals hi, hg⟩) (by rw [g]; exact I.bare) (fun _ z => nomatch z)
  have e : s' = { s with heap := s'.heap, gens := s'.gens, drawn := s'.drawn, toks := s'.toks } := by
    cases s'
    cases s
    cases o
    rfl
  rw [e]
  exact ⟨.ref p, _, J, rfl, q ss p hs hnd hm hl hn⟩
end
end Fh
/-! Operators, membership and truth by methods of an own class. -/
namespace Fh
open PySem PySem.Spec PyProof.Rows L2 PySem.W

theorem relV_not {v : V} {u : Value} (r : RelV v u) : u ≠ .notImplemented := by
  intro e
  subst e
  cases v with
  | non => cases r
  | bl b => cases r
  | int i => obtain ⟨t, e⟩ := r; cases e
  | str x => obtain ⟨t, e⟩ := r; cases e
  | byt b => obtain ⟨t, e⟩ := r; cases e
  | flt b => obtain ⟨t, e⟩ := r; cases e
  | ref a => cases r
  | ty n => cases r

section
variable {prog : Program} {w : World} {A : Around} {E : Value → Shared → Prop} {s : Shared} {K : Frag} {x C f : Addr} {ox : Obj} {od : Option Obj}
/-- what comes of a method that answers -/
def NotNI (Q : Value → Shared → Prop) (v : Value) (s' : Shared) : Prop := v ≠ .notImplemented ∧ Q v s'
theorem try_own {M : Model} {Q : Value → Shared → Prop} {name : Str} {b : Value} (X : K.In s.heap) (I : InstAt s.heap x ox C od) (hs : findIn K (.ref C) name = some (some (.ref f))) (hf : isFn K (.ref f) = true)
    (h : wpAny M A (call (.ref f) [.ref x, b]) (NotNI Q) E s) : wpAny M A (tryMethod (.ref x) name b) (fun r s' => ∃ v, r = some v ∧ Q v s') E s := by
  unfold tryMethod
  refine wpAny_bind (special_fn X I hs (beq_iff_eq.mp hf) (wpAny_mono h (fun v s' hv => ?_) fun _ _ e => e))
  obtain ⟨hn, hv⟩ := hv
  cases v <;> first | exact absurd rfl hn | exact wpAny_pure ⟨_, rfl, hv⟩
/-- a op b, both of the class at C -/
theorem bin_same {op : Operator} {b : Value} {Q : Value → Shared → Prop} (X : K.In s.heap) (I : InstAt s.heap x ox C od) (hb : Looks (model prog w) s.heap (typeOf b) (.ref C)) (hc : selfFirst K C = true)
    (hs : findIn K (.ref C) (PySem.dunder op.info.2) = some (some (.ref f))) (hf : isFn K (.ref f) = true)
    (h : wpAny (model prog w) A (call (.ref f) [.ref x, b]) (NotNI Q) E s) : wpAny (model prog w) A (binaryOp op (.ref x) b) Q E s := by
  obtain ⟨cd, rest, hcd, hm⟩ := ksp_first hc
  have one := try_own X I hs hf h
  unfold binaryOp
  refine wpAny_holding (wpAny_bind ?_)
  unfold binaryOp1
  refine wpAny_bind (I.type.here (wpAny_bind (hb.here (wpAny_bind ((fills_K X hcd hm hs).here ?_)))))
  simp only [beq_self_eq_true, if_true]
  refine wpAny_bind (wpAny_pure ?_)
  simp only [Bool.and_false, Bool.false_eq_true, if_false, Bool.false_and]
  refine wpAny_bind (wpAny_pure ?_)
  simp only [Bool.false_eq_true, if_false]
  refine wpAny_bind (m := tryMethod (.ref x) _ b) (wpAny_mono one (fun r s' hr => ?_) fun _ _ e => e)
  obtain ⟨v, rfl, q⟩ := hr
  exact wpAny_pure (wpAny_pure q)
/-- the class fills the slot by its reflected method -/
theorem fills_right {M : Model} {h : Heap} {nm : String} {cd : ClassData} {rest : List Value} (X : K.In h) (hc : clsIn K C = some cd) (hm : cd.mro = .ref C :: rest)
    (hn : findIn K (.ref C) (PySem.dunder nm) = some none) (hs : findIn K (.ref C) (dunderR nm) = some (some (.ref f))) : Looks M h (fillsNumberSlot (.ref C) nm) true := by
  intro A Q E s k q
  unfold fillsNumberSlot
  refine wpAny_bind ((looks_clsIn X hc).andThen (f := fun cd => pure cd.mro) .now A _ E s k ?_)
  rw [hm, List.anyM_cons]
  refine wpAny_bind ?_
  show wpAny M A (List.anyM _ [PySem.dunder nm, dunderR nm]) _ _ _
  rw [List.anyM_cons]
  refine wpAny_bind (wpAny_bind (looks_findIn X hn A _ E s k ?_))
  refine wpAny_pure ?_
  simp only [Bool.false_eq_true, if_false]
  rw [List.anyM_cons]
  refine wpAny_bind (wpAny_bind (looks_findIn X hs A _ E s k ?_))
  dsimp only
  rw [if_pos (show (!ownNameWrapper (.ref f) (dunderR nm)) = true from rfl)]
  refine wpAny_pure ?_
  simp only [if_true]
  refine wpAny_pure ?_
  simp only [if_true]
  exact wpAny_pure q
/-- a op b, a of a built-in type that knows nothing of op, b of the class at C -/
theorem bin_right {op : Operator} {a : Value} {T : String} {Q : Value → Shared → Prop} (X : K.In s.heap) (I : InstAt s.heap x ox C od) (ha : Looks (model prog w) s.heap (typeOf a) (.type T)) (hc : selfFirst K C = true)
    (hT : Looks (model prog w) s.heap (fillsNumberSlot (.type T) op.info.2) false)
    (hn : findIn K (.ref C) (PySem.dunder op.info.2) = some none) (hs : findIn K (.ref C) (dunderR op.info.2) = some (some (.ref f))) (hf : isFn K (.ref f) = true)
    (h : wpAny (model prog w) A (call (.ref f) [.ref x, a]) (NotNI Q) E s) : wpAny (model prog w) A (binaryOp op a (.ref x)) Q E s := by
  obtain ⟨cd, rest, hcd, hm⟩ := ksp_first hc
  have one := try_own X I hs hf h
  have hne : (Value.type T == Value.ref C) = false := Bool.eq_false_iff.mpr fun q => by cases beq_iff_eq.mp q
  unfold binaryOp
  refine wpAny_holding (wpAny_bind ?_)
  unfold binaryOp1
  refine wpAny_bind (ha.here (wpAny_bind (I.type.here (wpAny_bind (hT.here ?_)))))
  simp only [hne, Bool.false_eq_true, if_false]
  refine wpAny_bind ((fills_right X hcd hm hn hs).here ?_)
  simp only [Bool.false_and, Bool.and_false, Bool.false_eq_true, if_false]
  refine wpAny_bind (wpAny_pure ?_)
  simp only [Bool.false_eq_true, if_false, Bool.not_false, Bool.and_self, if_true]
  refine wpAny_bind (m := tryMethod (.ref x) _ a) (wpAny_mono one (fun r s' hr => ?_) fun _ _ e => e)
  obtain ⟨v, rfl, q⟩ := hr
  exact wpAny_bind (wpAny_rule (wpAny_pure (wpAny_pure q)))
/-- v in x by the class's own method -/
theorem has_own {M : Model} {v : Value} {Q : Bool → Shared → Prop} (X : K.In s.heap) (I : InstAt s.heap x ox C od) (hs : findIn K (.ref C) "__contains__" = some (some (.ref f))) (hf : isFn K (.ref f) = true)
    (h : wpAny M A (call (.ref f) [.ref x, v]) (fun r s' => wpAny M A (truthy r) Q E s') E s) : wpAny M A (contains (.ref x) v) Q E s := by
  unfold contains
  refine wpAny_holding (wpAny_bind (wpAny_bind (I.type.here ((looks_findIn X hs).here ?_))))
  rw [if_neg (by simp)]
  exact wpAny_bind (unlessNone_K X I hs hf h)
/-- the truth of x by the class's own method -/
theorem true_own {M : Model} {Q : Bool → Shared → Prop} (X : K.In s.heap) (I : InstAt s.heap x ox C od) (hs : findIn K (.ref C) "__bool__" = some (some (.ref f))) (hf : isFn K (.ref f) = true)
    (h : wpAny M A (call (.ref f) [.ref x]) (PySem.W.BoolBack Q) E s) : wpAny M A (truthy (.ref x)) Q E s := by
  unfold truthy
  refine wpAny_bind (m := callSpecial? (.ref x) (Str.ofString "__bool__")) (special_fn X I hs (beq_iff_eq.mp hf) (wpAny_mono h (fun r s' hr => ?_) fun _ _ y => y))
  cases r <;> first | exact hr.elim | skip
  exact wpAny_pure hr
end

section
variable {X : Cx} {CX : CXT} {k : Nat} {f C : Addr} {fd : FuncData} {ps : List Str} {sp : Sp} {E : XK}
theorem inst_at {pins : List (Addr × Obj)} {σ : L2.St} {H : Hp} {s : Shared} {a dx : Addr} {fs : List (Str × V)} (I : L2.Inv X pins σ H s) (ea : H a = some (.ins C dx fs)) : ∃ od, InstAt s.heap a (instObj C dx) C (some od) := by
  obtain ⟨mA, O, _, _, _, _⟩ := ins_get I.hok ea
  obtain ⟨od, J, _⟩ := O.look
  exact ⟨od, J⟩
/-- x op y of two instances of C -/
def rBin (C : Addr) (sp : Sp) (E : XK) : R2 := fun x y H Q => ∃ a b dx fs dy gs, x = .ref a ∧ y = .ref b ∧ H a = some (.ins C dx fs) ∧ H b = some (.ins C dy gs) ∧ sp [x, y] H Q E
theorem op_own {op : Operator} (hc : selfFirst X.K C = true) (hm : Meth X.K C (PySem.dunder op.info.2) f) (F : FnOk X.prog X.w X.K X.mg X.base CX k f fd ps sp) (hr : Room k X.A) (hb : Binds X.K fd ps []) (hx : Passes CX X E) :
    OpR X (binaryOp op) (rBin C sp E) := by
  intro pins s σ H x y v u Q I rx ry h
  obtain ⟨a, b, dx, fs, dy, gs, rfl, rfl, ea, eb, q⟩ := h
  obtain rfl : v = Value.ref a := rx
  obtain rfl : u = Value.ref b := ry
  obtain ⟨od, J⟩ := inst_at I ea
  obtain ⟨od2, J2⟩ := inst_at I eb
  refine bin_same I.kIn J J2.type hc hm.at_ hm.fn (wpAny_mono (run_fn (us := [.ref a, .ref b]) (vs := [.ref a, .ref b]) F hr hb .nil hx I (.cons rfl (.cons rfl .nil)) q) (fun r s' hr => ⟨?_, hr⟩) fun _ _ z => z)
  obtain ⟨v, H', _, rv, _⟩ := hr
  exact relV_not rv
/-- s op y, s a text, y an instance of C -/
def rRef (C : Addr) (sp : Sp) (E : XK) : R2 := fun x y H Q => ∃ z b dx fs, x = .str z ∧ y = .ref b ∧ H b = some (.ins C dx fs) ∧ sp [y, x] H Q E
theorem op_ref {op : Operator} (hc : selfFirst X.K C = true) (hT : fillsNumberSlot (.type "str") op.info.2 = pure false) (hn : NoAttr X.K C (PySem.dunder op.info.2)) (hm : Meth X.K C (dunderR op.info.2) f)
    (F : FnOk X.prog X.w X.K X.mg X.base CX k f fd ps sp) (hr : Room k X.A) (hb : Binds X.K fd ps []) (hx : Passes CX X E) : OpR X (binaryOp op) (rRef C sp E) := by
  intro pins s σ H x y v u Q I rx ry h
  obtain ⟨z, b, dx, fs, rfl, rfl, eb, q⟩ := h
  have rx' : RelV (.str z) v := rx
  obtain ⟨t, e⟩ := rx
  subst e
  obtain rfl : u = Value.ref b := ry
  obtain ⟨od, J⟩ := inst_at I eb
  refine bin_right (T := "str") I.kIn J (Looks.of_pure rfl) hc (Looks.of_pure hT) hn hm.at_ hm.fn (wpAny_mono (run_fn (us := [.ref b, .str z t]) (vs := [.ref b, .str z]) F hr hb .nil hx I (.cons rfl (.cons rx' .nil)) q) (fun r s' hr => ⟨?_, hr⟩) fun _ _ z => z)
  obtain ⟨v, H', _, rv, _⟩ := hr
  exact relV_not rv
/-- v in y, v not in y, y an instance of C whose method gives a truth value -/
def rHas (C : Addr) (sp : Sp) (E : XK) (g : Bool → Bool) : R2 := fun x y H Q => ∃ b dx fs, y = .ref b ∧ H b = some (.ins C dx fs) ∧ sp [y, x] H (fun r H' => ∃ c, r = .bl c ∧ Q (.bl (g c)) H') E
theorem has_run {pins : List (Addr × Obj)} {σ : L2.St} {H : Hp} {s : Shared} {b dx : Addr} {fs : List (Str × V)} {x : V} {v : Value} {R : Bool → Hp → Prop} (hm : Meth X.K C "__contains__" f) (F : FnOk X.prog X.w X.K X.mg X.base CX k f fd ps sp) (hr : Room k X.A) (hb : Binds X.K fd ps []) (hx : Passes CX X E)
    (I : L2.Inv X pins σ H s) (eb : H b = some (.ins C dx fs)) (rx : RelV x v) (q : sp [.ref b, x] H (fun r H' => ∃ c, r = .bl c ∧ R c H') E) :
    wpAny (model X.prog X.w) X.A (contains (.ref b) v) (fun c s' => ∃ H', L2.Inv X pins σ H' s' ∧ R c H') X.xe s := by
  obtain ⟨od, J⟩ := inst_at I eb
  refine has_own I.kIn J hm.at_ hm.fn (wpAny_mono (run_fn (us := [.ref b, v]) (vs := [.ref b, x]) F hr hb .nil hx I (.cons rfl (.cons rx .nil)) q) (fun r s' hq => ?_) fun _ _ z => z)
  obtain ⟨r0, H', I', rv, hq⟩ := hq
  obtain ⟨c, e, hR⟩ := hq
  subst e
  obtain rfl : r = Value.bool c := rv
  exact wpAny_truthy_bool ⟨H', I', hR⟩
theorem op_has (hm : Meth X.K C "__contains__" f) (F : FnOk X.prog X.w X.K X.mg X.base CX k f fd ps sp) (hr : Room k X.A) (hb : Binds X.K fd ps []) (hx : Passes CX X E) : OpR X (compareOp .In) (rHas C sp E id) := by
  intro pins s σ H x y v u Q I rx ry h
  obtain ⟨b, dx, fs, rfl, eb, q⟩ := h
  obtain rfl : u = Value.ref b := ry
  refine wpAny_bind (wpAny_mono (has_run hm F hr hb hx I eb rx q) (fun c s' hq => ?_) fun _ _ z => z)
  obtain ⟨H', I', hR⟩ := hq
  exact wpAny_pure ⟨.bl c, H', I', rfl, hR⟩
theorem op_hasnt (hm : Meth X.K C "__contains__" f) (F : FnOk X.prog X.w X.K X.mg X.base CX k f fd ps sp) (hr : Room k X.A) (hb : Binds X.K fd ps []) (hx : Passes CX X E) : OpR X (compareOp .NotIn) (rHas C sp E (!·)) := by
  intro pins s σ H x y v u Q I rx ry h
  obtain ⟨b, dx, fs, rfl, eb, q⟩ := h
  obtain rfl : u = Value.ref b := ry
  refine wpAny_bind (wpAny_mono (has_run hm F hr hb hx I eb rx q) (fun c s' hq => ?_) fun _ _ z => z)
  obtain ⟨H', I', hR⟩ := hq
  exact wpAny_pure ⟨.bl (!c), H', I', rfl, hR⟩
/-- the truth of y, an instance of C -/
def rTru (C : Addr) (sp : Sp) (E : XK) : V → Hp → (Bool → Hp → Prop) → Prop := fun x H Q => ∃ b dx fs, x = .ref b ∧ H b = some (.ins C dx fs) ∧ sp [x] H (fun r H' => ∃ c, r = .bl c ∧ Q c H') E
/-- the callee runs somewhere within a built-in's call -/
theorem run_in {A : Around} {pins : List (Addr × Obj)} {σ : L2.St} {H : Hp} {s : Shared} {Q : VK} {us : List Value} {vs : List V} (F : FnOk X.prog X.w X.K X.mg X.base CX k f fd ps sp) (hr : Room k A) (hA : ∀ {s H}, Env0 X.prog X.w X.K X.mg X.base X.A X.stack s H → Env0 X.prog X.w X.K X.mg X.base A X.stack s H)
    (hb : Binds X.K fd ps []) (hx : Passes CX X E) (I : L2.Inv X pins σ H s) (r : Vals vs us) (h : sp vs H Q E) : wpAny (model X.prog X.w) A (call (.ref f) us) (EP X pins σ Q) X.xe s := by
  have hl : us.length = ps.length := by rw [← r.length]; exact F.len _ _ _ _ h
  have hb' := hb s us I.kIn (by simpa using hl)
  rw [List.append_nil] at hb'
  refine wpAny_call (codeAny_mono (F.run A X.stack s H ⟨us, []⟩ us vs Q E hr (hA I.env0) hb' r h) fun r s' hq => ?_)
  cases r with
  | error e => exact hx pins σ H s e s' I hq
  | ok fl =>
    cases fl with
    | ret u => exact I.after hq
    | next => exact False.elim hq
    | brk => exact False.elim hq
    | cont => exact False.elim hq
theorem tru_run {A : Around} {pins : List (Addr × Obj)} {σ : L2.St} {H : Hp} {s : Shared} {b dx : Addr} {fs : List (Str × V)} {R : Bool → Hp → Prop} (hm : Meth X.K C "__bool__" f) (F : FnOk X.prog X.w X.K X.mg X.base CX k f fd ps sp) (hr : Room k A)
    (hA : ∀ {s H}, Env0 X.prog X.w X.K X.mg X.base X.A X.stack s H → Env0 X.prog X.w X.K X.mg X.base A X.stack s H) (hb : Binds X.K fd ps []) (hx : Passes CX X E)
    (I : L2.Inv X pins σ H s) (eb : H b = some (.ins C dx fs)) (q : sp [.ref b] H (fun r H' => ∃ c, r = .bl c ∧ R c H') E) :
    wpAny (model X.prog X.w) A (truthy (.ref b)) (fun c s' => ∃ H', L2.Inv X pins σ H' s' ∧ R c H') X.xe s := by
  obtain ⟨od, J⟩ := inst_at I eb
  refine true_own I.kIn J hm.at_ hm.fn (wpAny_mono (run_in (us := [.ref b]) (vs := [.ref b]) F hr hA hb hx I (.cons rfl .nil) q) (fun r s' hq => ?_) fun _ _ z => z)
  obtain ⟨r0, H', I', rv, hq⟩ := hq
  obtain ⟨c, e, hR⟩ := hq
  subst e
  obtain rfl : r = Value.bool c := rv
  exact ⟨H', I', hR⟩
theorem tru_own (hm : Meth X.K C "__bool__" f) (F : FnOk X.prog X.w X.K X.mg X.base CX k f fd ps sp) (hr : Room k X.A) (hb : Binds X.K fd ps []) (hx : Passes CX X E) : TruR X (rTru C sp E) := by
  intro pins s σ H x v Q I rx h
  obtain ⟨b, dx, fs, rfl, eb, q⟩ := h
  obtain rfl : v = Value.ref b := rx
  exact tru_run hm F hr (fun z => z) hb hx I eb q
end
end Fh
/-! bool(..) of tuples and of own instances; C.m() of a classmethod; a call of a local name that holds a class. -/
namespace Fh
open PySem PySem.Spec PyProof.Rows L2 PySem.W
theorem bool_meets {prog : Program} {w : World} (x : Value) : MeetsIn prog w (Builtin.«bool.__new__» ⟨[.type "bool", x], []⟩)
    (fun A R s => wpAny (model prog w) A.in1 (truthy x) (fun b s' => R (.ok (.ret (.bool b))) s') (fun e s' => R (.error e) s') s) :=
  .of_wp fun A R s h => by
    have f1 := PySem.F.conv_sub_bool
    obtain ⟨hp, g, d, tk, os⟩ := s
    repeat (any_goals (first | assumption | wp_step))
    all_goals exact wpAny_mono h (fun b s' hb => wpAny_pure ⟨_, rfl, hb⟩) (fun _ _ z => z)
theorem call_bool_by {prog : Program} {w : World} {A : Around} {E : Value → Shared → Prop} {s : Shared} {x : Value} {Q : Value → Shared → Prop}
    (h : wpAny (model prog w) A.in1.in1 (truthy x) (fun b s' => Q (.bool b) s') E s) : wpAny (model prog w) A (call (.type "bool") [x]) Q E s :=
  callType_newIn F.called_bool F.newNe_bool (F.typeCall_bool_1 x) (F.newCall_bool_1 x) (fun obj => F.args_object_init_2 obj x) F.entry_bool_new (bool_meets x)
    (wpAny_mono h (fun b s' hb => ⟨rfl, hb⟩) fun _ _ z => z)
section
variable {X : Cx} {CX : CXT} {k : Nat} {f C : Addr} {fd : FuncData} {ps : List Str} {sp : Sp} {E : XK}
/-- bool(t) of a tuple -/
theorem call_boolT : CallR X (.type "bool") (fun xs H Q => ∃ (a : Addr) (zs : List V), xs = [.ref a] ∧ SqT X.K H a zs ∧ Q (.bl (!zs.isEmpty)) H) := by
  intro pins s σ H xs us Q I r h
  obtain ⟨a, zs, rfl, hq, q⟩ := h
  obtain rfl := Vals.ref1 r
  obtain ⟨its, rv, pl, hz⟩ := I.tuple hq
  have hl := line63
  have hlen := rv.length
  refine call_bool_by (truthy_tuple pl (by simp only [List.size_toArray]; omega) ?_)
  exact ⟨.bl (!zs.isEmpty), H, I.tok _, by rw [isEmpty_of rv]; rfl, q⟩
/-- bool(o) of an instance of C by its own method -/
def rBoolO (C : Addr) (sp : Sp) (E : XK) : List V → Hp → VK → Prop := fun xs H Q => ∃ b dx fs, xs = [.ref b] ∧ H b = some (.ins C dx fs) ∧ sp [.ref b] H (fun r H' => ∃ c, r = .bl c ∧ Q (.bl c) H') E
theorem call_boolO (hm : Meth X.K C "__bool__" f) (F : FnOk X.prog X.w X.K X.mg X.base CX k f fd ps sp) (hr : Room (k + 2) X.A) (hb : Binds X.K fd ps []) (hx : Passes CX X E) : CallR X (.type "bool") (rBoolO C sp E) := by
  intro pins s σ H xs us Q I r h
  obtain ⟨b, dx, fs, rfl, eb, q⟩ := h
  obtain rfl := Vals.ref1 r
  refine call_bool_by (wpAny_mono (tru_run (A := X.A.in1.in1) hm F hr.in1.in1 (fun z => z.in1.in1) hb hx I eb q) (fun c s' hq => ?_) fun _ _ z => z)
  obtain ⟨H', I', hR⟩ := hq
  exact ⟨.bl c, H', I', rfl, hR⟩
end
section
variable {X : Cx} {CX : CXT} {k i : Nat} {C p g f : Addr} {mc : Value} {sp : Sp} {E : XK} {o e : Expr} {es : List Expr} {x m : Str} {q pos apos : Pos} {ta : TE} {t : TA} {pl : Sem Bool} {fd : FuncData} {ps : List Str}
/-- C.m() of a classmethod m -/
theorem pe_cmeth0 (he : PE X o ta) (r : ClX.CRead X.K C mc) (c : ClX.CMet X.K C mc m p g) (F : FnR X.prog X.w X.K X.mg X.base CX k g sp) (hr : Room k X.A) (hx : Passes CX X E)
    (ht : eval (.Call (.Attribute o m apos) [] [] pos) X.env = (do
      let ov ← eval o X.env
      standAt apos.atName
      let (f, first) ← holding [ov] (getMethod ov m pl)
      callWith pos f first (backTo pos (starEach [] X.env)) (backToKw pos (keywordEach [] X.env))) := by rfl) :
    PE X (.Call (.Attribute o m apos) [] [] pos) (ClX.tCMeth C sp E ta tNil) := by
  refine ⟨fun pins s σ H Q I h => ?_⟩
  refine PySem.W.methodCall_KW (pl := pl) (thn (he.run pins s σ H _ I h) fun u s1 ⟨x, H1, I1, rx, ex, q⟩ => ?_) ht
  subst ex
  obtain rfl : u = Value.ref C := rx
  refine ClX.getmethcm_ok I1 r c fun s2 I2 => ?_
  exact PySem.W.callWith_M0 ⟨ClX.pin_at I2, I2.kIn⟩ c.fi (ClX.run_cm F hr hx I2 .nil q)
/-- the i-th slot holds the class at C, which is called -/
def tMakeL (i : Nat) (C : Addr) (sp : Sp) (E : XK) (t : TA) : TE := fun σ H Q => σ[i]? = some (some (.ref C)) ∧ t σ H fun vs H1 => ∀ x dx, H1 x = none → H1 dx = none → dx ≠ x →
  sp (.ref x :: vs) (upd (upd H1 dx (.own x)) x (.ins C dx [])) (fun v H2 => v = .non ∧ Q (.ref x) H2) E
theorem pe_makeL (M : Mk X.K C f) (F : FnOk X.prog X.w X.K X.mg X.base CX k f fd ps sp) (hr : Room (k + 1) X.A) (hN : X.N[i]? = some x) (hv : Vis X.env.scope x) (hb : Binds X.K fd ps []) (hx : Passes CX X E) (ha : PA X (e :: es) t)
    (hdb : (x == ("__debug__" : Str)) = false := by decide) (hcd : (x == ("__classdict__" : Str)) = false := by decide)
    (he : starEach (e :: es) X.env = (false, eval e X.env) :: starEach es X.env := by rfl) (hpl : (backTo pos (starEach es X.env)).any (·.1) = false := by rfl) : PE X (.Call (.Name x q) (e :: es) [] pos) (tMakeL i C sp E t) := by
  refine ⟨fun pins s σ H Q I h => ?_⟩
  obtain ⟨hs, ht⟩ := h
  refine wpAny_Call_Name_kw (thn ((pe_var (pos := q) hN hv hdb hcd).run pins s σ H (fun v H1 => v = .ref C ∧ H1 = H) I ⟨.ref C, hs, rfl, rfl⟩) fun u s1 ⟨v, H1, I1, r1, q1⟩ => ?_)
  obtain ⟨rfl, rfl⟩ := q1
  cases r1
  refine PySem.W.callWith_K (h₀ := X.base) I.ok.mod.kin M.kp (thn (ha.run pos pins s1 σ _ _ I1 ht) fun us s2 ⟨vs, H2, I2, r, q⟩ => ⟨I2.kIn, ?_⟩) he hpl
  exact run_make M F hr hb .nil hx I2 r (fun x dx h1 h2 h3 => by
    rw [List.append_nil]
    exact q x dx h1 h2 h3)
end
end Fh
/-! for i, x in enumerate(t), t a tuple. -/
namespace Fh
open PySem PySem.Spec PyProof.Rows L2
open AutoSeq1 (wpAny_loadPart')
theorem enum_tup_meets (l : Addr) (items : Array Value) (n : Nat) (dct : Option Addr) (sl : Array (Option Value)) :
    Meets (Builtin.«enumerate.__new__» ⟨[.type "enumerate", .ref l], []⟩) (fun _ R s => s.heap.get? l = some { cls := .type "tuple", dict := dct, data := .seq items n, slots := sl } ∧
      R (.ok (.ret (.ref (s.heap.push { cls := .type "tuple_iterator", data := .fields #[.ref l, .int 0 0] }).objs.size)))
        { s with heap := (s.heap.push { cls := .type "tuple_iterator", data := .fields #[.ref l, .int 0 0] }).push { cls := .type "enumerate", data := .fields #[.none, .bool false, .ref s.heap.objs.size, rawInt 0, .none, .none] } }) :=
  .of_wp fun prog w A R s h => by
    obtain ⟨hp, g, d, tk, os⟩ := s; obtain ⟨hl, h⟩ := h
    have hsub := sub_enumerate
    have hL : Heap.IsTuple (Shared.heap ⟨hp, g, d, tk, os⟩) l items := ⟨_, hl, rfl, n, rfl⟩
    wp_walk using wpAny_loadPart' hl
    refine wpAny_stack_any fun st => wpAny_pure ?_
    split
    · rename_i c _ _ _ _ _
      cases (c == Value.type "enumerate")
      · wp_walk using wpAny_loadPart' hl, wpAny_pyIter_tuple hL
        exact ⟨_, rfl, h⟩
      · wp_walk using wpAny_loadPart' hl, wpAny_pyIter_tuple hL
        exact ⟨_, rfl, h⟩
    · wp_walk using wpAny_loadPart' hl, wpAny_pyIter_tuple hL
      exact ⟨_, rfl, h⟩
theorem call_enum_tup {prog : Program} {w : World} {A : Around} {E : Value → Shared → Prop} {s : Shared} {l : Addr} {items : Array Value} {Q : Value → Shared → Prop} (hL : s.heap.IsTuple l items)
    (h : ∀ h', IsEnum h' (s.heap.objs.size + 1) s.heap.objs.size 0 .none → h'.IsTupleIter s.heap.objs.size l 0 → h'.objs.size = s.heap.objs.size + 2 →
      (∀ b o, s.heap.get? b = some o → h'.get? b = some o) → Q (.ref (s.heap.objs.size + 1)) { s with heap := h' }) :
    wpAny (model prog w) A (call (.type "enumerate") [.ref l]) Q E s := by
  obtain ⟨⟨c, dct, dt, sl⟩, hl, hc, n, hd⟩ := hL
  replace hc : c = .type "tuple" := hc
  replace hd : dt = .seq items n := hd
  subst hc hd
  refine callType_new F.called_enumerate (by decide) (F.typeCall_enumerate_1 _) (F.newCall_enumerate_1 _) (fun obj => F.args_object_init_2 obj _) F.entry_enumerate_new
    (enum_tup_meets l items n dct sl) ⟨hl, ?_⟩
  have hz : (s.heap.push { cls := .type "tuple_iterator", data := .fields #[.ref l, .int 0 0] }).objs.size = s.heap.objs.size + 1 := Heap.size_push ..
  show _ ∧ _
  rw [hz]
  have he : IsEnum ((s.heap.push { cls := .type "tuple_iterator", data := .fields #[.ref l, .int 0 0] }).push
      { cls := .type "enumerate", data := .fields #[.none, .bool false, .ref s.heap.objs.size, rawInt 0, .none, .none] }) (s.heap.objs.size + 1) s.heap.objs.size 0 .none := by
    have := Heap.get?_push_size (s.heap.push { cls := .type "tuple_iterator", data := .fields #[.ref l, .int 0 0] })
      (o := { cls := .type "enumerate", data := .fields #[.none, .bool false, .ref s.heap.objs.size, rawInt 0, .none, .none] }) rfl
    rw [hz] at this; exact this
  refine ⟨⟨_, he, rfl⟩, h _ he ⟨_, Heap.get?_push_of_some _ (Heap.get?_push_size _ rfl), rfl, rfl⟩ (by rw [Heap.size_push, hz]) fun b o x => Heap.get?_push_of_some _ (Heap.get?_push_of_some _ x)⟩

/-- the tuple xs at a, each item in a new pair with its place -/
def Itet (K : PySem.W.Frag) (a : Addr) (xs : List V) : It :=
  ⟨fun i H => i < xs.length ∧ SqT K H a xs, fun i H v H' => ∃ T x, v = .ref T ∧ H T = none ∧ H' = upd H T (.tup [.int (i : Nat), x]) ∧ xs[i]? = some x, fun i H => SqT K H a xs ∧ xs.length ≤ i⟩
theorem turn_enumT {P : Program} {w : World} {K : PySem.W.Frag} {elts : List Expr} {kk : Nat} {tpos : Pos} (a e it : Addr) (xs : List V) (hae : a ≠ e) (hai : a ≠ it) :
    Turn P w K (.Tuple elts kk tpos) (Itet K a xs) [e, it] e (fun i h => i ≤ xs.length ∧ (∃ old, IsEnum h e it ((i : Nat) : Int) old) ∧ h.IsTupleIter it a i ∧ e ≠ it) where
  mem := by simp
  obj := fun i h st b hb => by
    obtain ⟨_, ⟨old, he⟩, ⟨o, ho, hc, hd⟩, _⟩ := st
    have e' : b = e ∨ b = it := by simpa using hb
    rcases e' with z | z
    · rw [z]; exact ⟨_, he, fun v q => nomatch q⟩
    · rw [z]; exact ⟨o, ho, fun v q => by rw [hd] at q; cases q⟩
  keep := fun i h h' st k => let ⟨hi0, ⟨old, he⟩, hi, hne⟩ := st; ⟨hi0, ⟨old, k e (by simp) _ he⟩, hi.at fun o q => k it (by simp) o q, hne⟩
  item := by
    intro X hP hw hK hc i pins s σ H E I hf st hg
    subst hP hw hK
    obtain ⟨hi0, ⟨old, he⟩, hit, hne⟩ := st
    obtain ⟨hi, hq⟩ := hg
    obtain ⟨its, rv, p, hz⟩ := I.tuple hq
    have hx : xs[i]? = some xs[i] := List.getElem?_eq_getElem hi
    obtain ⟨u, hu, ru⟩ := rv.get hx
    have hsz : its.toArray.size = xs.length := by rw [List.size_toArray]; exact rv.length.symm
    have hel : e < s.heap.objs.size := Heap.lt_size he
    have hil : it < s.heap.objs.size := by obtain ⟨_, q, _⟩ := hit; exact Heap.lt_size q
    have hh : X.A.in1.handled = none := I.ok.hd hc
    refine wpAny_pyNext_enum_itemD (Draws.tuple hh it a hai its.toArray) he ⟨hit, p⟩ (by rw [hsz]; exact hi) hne (by simp; exact ⟨hne, Ne.symm hae⟩) fun x h' tk hPx ho hst' hT hs2 hk => ?_
    obtain rfl : u = x := by
      have h1 : its.toArray[i]? = some u := by simpa using hu
      rw [h1] at hPx
      exact Option.some.inj hPx
    refine ⟨_, rfl, wpAny_letOwnedTupleGo_enum (s := { s with heap := h', toks := tk + 1 }) ho fun h'' he' sb => ?_⟩
    have hT2 : h''.get? s.heap.objs.size = some { cls := .type "tuple", data := .seq #[.int i tk, u] } := (sb.2 _ (Nat.ne_of_gt hel)).trans hT
    have new : ObjOk X.prog X.w (upd H s.heap.objs.size (.tup [.int (i : Nat), xs[i]])) h'' s.heap.objs.size (.tup [.int (i : Nat), xs[i]]) :=
      ⟨by show 2 ≤ sizeLine; decide, [.int i tk, u], .cons ⟨_, rfl⟩ (.cons ru .nil), ⟨_, hT2, rfl, _, rfl⟩⟩
    have I1 : L2.Inv X pins σ (upd H s.heap.objs.size (.tup [.int (i : Nat), xs[i]])) { s with heap := h'', toks := tk + 1 } :=
      I.turnedNew (ch := [e, it]) (fun b ob hb q => (sb.2 b (fun z => hb (by simp [z]))).trans (hk b ob (fun z => hb (by simp [z])) (fun z => hb (by simp [z])) q)) hf (Nat.le_refl _) new
    refine ⟨.ref s.heap.objs.size, _, I1, rfl, ⟨_, xs[i], rfl, I.hok.fresh (Nat.le_refl _), rfl, hx⟩, ⟨hi, ⟨u, ?_⟩, hst'.1.at fun o q => (sb.2 it (Ne.symm hne)).trans q, hne⟩, fun b hb => ?_⟩
    · have e1 : ((i + 1 : Nat) : Int) = (i : Int) + 1 := by omega
      rw [e1]; exact he'
    · have hb' : b < s.heap.objs.size := by
        have e' : b = e ∨ b = it := by simpa using hb
        rcases e' with z | z
        · rw [z]; exact hel
        · rw [z]; exact hil
      rw [upd_ne (Nat.ne_of_lt hb')]
      exact (hf b hb).1
  done := by
    intro X hP hw hK hc i pins s σ H E I hf st hg
    subst hP hw hK
    obtain ⟨hi0, ⟨old, he⟩, hit, hne⟩ := st
    obtain ⟨hq, hx⟩ := hg
    obtain rfl : i = xs.length := by omega
    obtain ⟨its, rv, p, hz⟩ := I.tuple hq
    obtain ⟨f0, f1, f2, f3, f4, f5⟩ := hf it (by simp)
    have hsz : its.toArray.size = xs.length := by rw [List.size_toArray]; exact rv.length.symm
    have hh : X.A.in1.handled = none := I.ok.hd hc
    rw [← hsz] at hit
    exact wpAny_pyNext_enum_endD (Draws.tuple hh it a hai its.toArray) he ⟨hit, p⟩ fun h' eb => ⟨rfl, I.turned (t' := s.toks) (fun b o hb q => eb b o hb q) f0 f1 f3 f4 f5⟩
  self := fun A i s Q E st h => let ⟨_, ⟨_, he⟩, _⟩ := st; wpAny_pyIter_enum he h
def iEnumT (K : PySem.W.Frag) (ta : TA) : TI := fun σ H R => ta σ H fun vs H1 => ∃ a xs, vs = [.ref a] ∧ SqT K H1 a xs ∧ R (Itet K a xs) H1
theorem pi_enumT {X : Cx} {e : Expr} {ta : TA} {p pos tpos : Pos} {elts : List Expr} {kk : Nat} (hg : Gl X "enumerate") (hm : X.mg "enumerate" = none) (ha : PA X [e] ta) (hs : starEach [e] X.env = [(false, eval e X.env)] := by rfl) :
    PI X (.Tuple elts kk tpos) (.Call (.Name "enumerate" p) [e] [] pos) (iEnumT X.K ta) := by
  refine ⟨fun pins s σ H R I h => ?_⟩
  refine Call_ (ld_blt I hg hm boot_enumerate (PyProof.Rows.callWith_type1 (thn (ha.run pos pins s σ H _ I h) fun us s1 ⟨vs, H1, I1, r1, q1⟩ => ?_) hs rfl))
  obtain ⟨a, xs, ex, hq, q⟩ := q1
  subst ex
  obtain rfl := Vals.ref1 r1
  obtain ⟨its, rv, p', hz⟩ := I1.tuple hq
  have hal : a < s1.heap.objs.size := p'.lt
  refine call_enum_tup p' fun h' he hit hsz hk => wpAny_pyIter_enum he ?_
  have I2 : L2.Inv X pins σ H1 { s1 with heap := h' } := I1.kept (t' := s1.toks) hk
  refine ⟨s1.heap.objs.size + 1, [s1.heap.objs.size + 1, s1.heap.objs.size], _, _, H1, rfl, I2, turn_enumT a (s1.heap.objs.size + 1) s1.heap.objs.size xs (Nat.ne_of_lt (Nat.lt_succ_of_lt hal)) (Nat.ne_of_lt hal), ⟨Nat.zero_le _, ⟨.none, he⟩, hit, Nat.succ_ne_self _⟩, fun b hb => ?_, q⟩
  have e' : b = s1.heap.objs.size + 1 ∨ b = s1.heap.objs.size := by simpa using hb
  have hle : s1.heap.objs.size ≤ b := by
    rcases e' with z | z
    · rw [z]; exact Nat.le_add_right _ _
    · rw [z]; exact Nat.le_refl _
  exact I1.fpOk hle (I1.hok.fresh hle)
theorem walk_enumT {K : PySem.W.Frag} {a : Addr} {xs : List V} : Walk (Itet K a xs) xs.length (fun H => SqT K H a xs) (YPair (fun i => some (.int (i : Nat))) (fun i => xs[i]?)) :=
  ⟨fun i H hi hG => ⟨hi, hG⟩, fun H hG => ⟨hG, Nat.le_refl _⟩, fun i H v H' hi hG ⟨T, x, e1, e2, e3, e4⟩ => ⟨T, _, x, e1, e2, e3, rfl, e4⟩⟩
end Fh
/-! Words that all laws share: the bag of draws, heaps that keep what stood. -/
namespace Fh
open PySem PySem.Spec PyProof.Rows L2
/-- the built-ins by name, none of them hidden by a name of the module -/
structure Bi (mg : Str → Option Value) : Prop where
  len : mg "len" = none
  abs : mg "abs" = none
  int : mg "int" = none
  range : mg "range" = none
  tuple : mg "tuple" = none
  sorted : mg "sorted" = none
  set : mg "set" = none
  bool : mg "bool" = none
  isinstance : mg "isinstance" = none
  all : mg "all" = none
  sum : mg "sum" = none
  max : mg "max" = none
  min : mg "min" = none
  enumerate : mg "enumerate" = none
  str : mg "str" = none
/-- all that stood stands -/
abbrev Ex (H H' : Hp) : Prop := ∀ a o, H a = some o → H' a = some o
/-- all that stood stands, but for b -/
def ExB (b : Addr) (H H' : Hp) : Prop := ∀ a o, a ≠ b → H a = some o → H' a = some o
theorem Ex.rfl {H : Hp} : Ex H H := fun _ _ h => h
theorem Ex.trans {H H1 H2 : Hp} (a : Ex H H1) (b : Ex H1 H2) : Ex H H2 := fun x o h => b x o (a x o h)
theorem Ex.new {H : Hp} {p : Addr} {o : HO} (h : H p = none) : Ex H (upd H p o) := fun a u e => by
  rw [upd_ne (ne_of_none e h)]
  exact e
theorem Ex.newer {H H1 : Hp} {p : Addr} {o : HO} (e : Ex H H1) (h : H1 p = none) : Ex H (upd H1 p o) := Ex.trans e (Ex.new h)
theorem Ex.fresh {H H1 : Hp} {p : Addr} (e : Ex H H1) (h : H1 p = none) : H p = none := by
  cases q : H p with
  | none => rfl
  | some o => rw [e p o q] at h; cases h
/-- what H does not know may change -/
theorem Ex.put {H H1 : Hp} {p : Addr} {o : HO} (e : Ex H H1) (h : H p = none) : Ex H (upd H1 p o) := fun a u ha => by
  rw [upd_ne (ne_of_none ha h)]
  exact e a u ha
theorem Ex.b {H H1 : Hp} {b : Addr} (e : Ex H H1) : ExB b H H1 := fun a o _ h => e a o h
theorem ExB.rfl {H : Hp} {b : Addr} : ExB b H H := fun _ _ _ h => h
theorem ExB.trans {H H1 H2 : Hp} {b : Addr} (a : ExB b H H1) (c : ExB b H1 H2) : ExB b H H2 := fun x o n h => c x o n (a x o n h)
theorem ExB.put {H H1 : Hp} {b : Addr} {o : HO} (e : ExB b H H1) : ExB b H (upd H1 b o) := fun a u n h => by
  rw [upd_ne n]
  exact e a u n h
theorem ExB.new {H H1 : Hp} {b p : Addr} {o : HO} (e : ExB b H H1) (h : H1 p = none) : ExB b H (upd H1 p o) := fun a u n z => by
  have q := e a u n z
  rw [upd_ne (ne_of_none q h)]
  exact q
/-- the bag of draws -/
def Bag (H : Hp) (b : Addr) : Prop := ∃ x0 x1 x2 : Int, H b = some (.lst [.int x0, .int x1, .int x2]) ∧ 0 ≤ x0
theorem Bag.ex {H H1 : Hp} {b : Addr} (B : Bag H b) (e : Ex H H1) : Bag H1 b := let ⟨x0, x1, x2, h, k⟩ := B; ⟨x0, x1, x2, e _ _ h, k⟩
theorem Bag.new {H : Hp} {b p : Addr} {o : HO} (B : Bag H b) (h : H p = none) : Bag (upd H p o) b := B.ex (Ex.new h)
theorem ex_rd {H H' : Hp} {a : Addr} {u : HO} (e : Ex H H') (h : Rd H a u) : Rd H' a u := by
  rcases h with h | ⟨o, h⟩
  · exact .inl (e a _ h)
  · exact .inr ⟨o, e a _ h⟩
theorem ex_l {K : PySem.W.Frag} {H H' : Hp} {a : Addr} {xs : List V} (e : Ex H H') (h : SqL K H a xs) : SqL K H' a xs := h.imp (ex_rd e) id
theorem ex_t {K : PySem.W.Frag} {H H' : Hp} {a : Addr} {xs : List V} (e : Ex H H') (h : SqT K H a xs) : SqT K H' a xs := h.imp (ex_rd e) id
/-- at b stands no tuple -/
def NT (H : Hp) (b : Addr) : Prop := (∀ xs, H b ≠ some (.tup xs)) ∧ ∀ o u, H b ≠ some (.frz o u)
theorem Bag.nt {H : Hp} {b : Addr} (B : Bag H b) : NT H b := by
  obtain ⟨x0, x1, x2, hb, _⟩ := B
  exact ⟨fun xs z => (by rw [hb] at z; cases z), fun o u z => (by rw [hb] at z; cases z)⟩
theorem NT.ins {H : Hp} {b C dx : Addr} {fs : List (Str × V)} (hb : H b = some (.ins C dx fs)) : NT H b := ⟨fun xs z => (by rw [hb] at z; cases z), fun o u z => (by rw [hb] at z; cases z)⟩
theorem NT.lst {H : Hp} {b : Addr} {xs : List V} (hb : H b = some (.lst xs)) : NT H b := ⟨fun xs z => (by rw [hb] at z; cases z), fun o u z => (by rw [hb] at z; cases z)⟩
/-- a tuple is not what changes -/
theorem exb_t {K : PySem.W.Frag} {H H' : Hp} {b a : Addr} {xs : List V} (B : NT H b) (e : ExB b H H') (h : SqT K H a xs) : SqT K H' a xs := by
  refine h.imp (fun r => ?_) id
  rcases r with r | ⟨o, r⟩
  · exact .inl (e a _ (fun z => B.1 xs (z ▸ r)) r)
  · exact .inr ⟨o, e a _ (fun z => B.2 _ _ (z ▸ r)) r⟩
mutual
/-- data without lists, no tuple too long -/
def noList : PyData → Bool
  | .tuple ds => decide (ds.length ≤ 100000) && noLists ds
  | .list _ => false
  | _ => true
def noLists : List PyData → Bool
  | [] => true
  | d :: ds => noList d && noLists ds
end
mutual
theorem Dp.ext {K : PySem.W.Frag} {H H' : Hp} (e : Ex H H') : ∀ {v : V} {d : PyData}, Dp K H v d → Dp K H' v d
  | _, _, .non => .non
  | _, _, .bl b => .bl b
  | _, _, .int i => .int i
  | _, _, .str x => .str x
  | _, _, .lst h k => .lst (ex_l e h) (DpAll.ext e k)
  | _, _, .tup h k => .tup (ex_t e h) (DpAll.ext e k)
theorem DpAll.ext {K : PySem.W.Frag} {H H' : Hp} (e : Ex H H') : ∀ {vs : List V} {ds : List PyData}, DpAll K H vs ds → DpAll K H' vs ds
  | _, _, .nil => .nil
  | _, _, .cons h k => .cons (Dp.ext e h) (DpAll.ext e k)
end
mutual
theorem Dp.exb {K : PySem.W.Frag} {H H' : Hp} {b : Addr} (B : NT H b) (e : ExB b H H') : ∀ {v : V} {d : PyData}, noList d = true → Dp K H v d → Dp K H' v d
  | _, _, _, .non => .non
  | _, _, _, .bl b => .bl b
  | _, _, _, .int i => .int i
  | _, _, _, .str x => .str x
  | _, _, z, .lst h k => by cases z
  | _, _, z, .tup h k => .tup (exb_t B e h) (DpAll.exb B e (Bool.and_eq_true_iff.mp z).2 k)
theorem DpAll.exb {K : PySem.W.Frag} {H H' : Hp} {b : Addr} (B : NT H b) (e : ExB b H H') : ∀ {vs : List V} {ds : List PyData}, noLists ds = true → DpAll K H vs ds → DpAll K H' vs ds
  | _, _, _, .nil => .nil
  | _, _, z, .cons h k => by
    obtain ⟨z1, z2⟩ := Bool.and_eq_true_iff.mp (show (noList _ && noLists _) = true from z)
    exact .cons (Dp.exb B e z1 h) (DpAll.exb B e z2 k)
end
theorem bt_len : bootBuiltins "len" = some (.builtin "len") := by decide +kernel
theorem bt_abs : bootBuiltins "abs" = some (.builtin "abs") := by decide +kernel
theorem bt_int : bootBuiltins "int" = some (.type "int") := by decide +kernel
theorem bt_tuple : bootBuiltins "tuple" = some (.type "tuple") := by decide +kernel
theorem bt_sorted : bootBuiltins "sorted" = some (.builtin "sorted") := by decide +kernel
theorem bt_set : bootBuiltins "set" = some (.type "set") := by decide +kernel
theorem bt_bool : bootBuiltins "bool" = some (.type "bool") := by decide +kernel
theorem bt_str : bootBuiltins "str" = some (.type "str") := by decide +kernel
theorem bt_isinstance : bootBuiltins "isinstance" = some (.builtin "isinstance") := by decide +kernel
theorem bt_all : bootBuiltins "all" = some (.builtin "all") := by decide +kernel
theorem bt_sum : bootBuiltins "sum" = some (.builtin "sum") := by decide +kernel
theorem bt_max : bootBuiltins "max" = some (.builtin "max") := by decide +kernel
theorem bt_min : bootBuiltins "min" = some (.builtin "min") := by decide +kernel
/-- a test that is known -/
theorem ifT {c : Prop} [Decidable c] {A B : Prop} (hc : c) (h : A) : if decide c = true then A else B := by
  rw [decide_eq_true hc]
  exact h
theorem ifF {c : Prop} [Decidable c] {A B : Prop} (hc : ¬ c) (h : B) : if decide c = true then A else B := by
  rw [decide_eq_false hc]
  exact h
theorem if2 {c : Prop} [Decidable c] {A B : Prop} (h1 : c → A) (h2 : ¬ c → B) : if decide c = true then A else B := by
  by_cases hc : c
  · exact ifT hc (h1 hc)
  · exact ifF hc (h2 hc)
/-- a def of the module, as its callers find it -/
structure At (K : PySem.W.Frag) (mg : Str → Option Value) (x : Str) (f : Addr) (fd : FuncData) (ps : List Str) : Prop where
  g : mg x = some (.ref f)
  k : PySem.W.keepIn K (.ref f) = true
  b : Binds K fd ps []
/-- a def without defaults -/
abbrev Fn (K : PySem.W.Frag) (x q : Str) (st : Stmt) (f : Addr) (fd : FuncData) : Prop := L2.Fun K x q st f fd
end Fh
/-! FhZip: dict(zip(t, u)) of two tuples whose first one holds tuples. -/
namespace Fz
open PySem PySem.Spec
open PySem.Sem (wp)
section
variable {prog : Program} {w : World} {A : Around} {E : Value → Shared → Prop} {s : Shared}

/-- the next pair of a zip over two tuples while its last pair is still in use -/
theorem heldItem {z TI TO T p q a b : Addr} {f : Bool} {oT : Obj} {i j : Nat} {us vs : Array Value} {u v : Value} {G : Value → Shared → Prop} (ap : ZipApart z TI TO p q a b)
    (ez : IsZipHeld s.heap z TI TO T f) (eT : s.heap.get? T = some oT) (eI : IsPair s.heap TI (.ref p) (.ref q))
    (ip : s.heap.IsTupleIter p a i) (iq : s.heap.IsTupleIter q b j) (ta : s.heap.IsTuple a us) (tb : s.heap.IsTuple b vs) (eu : us[i]? = some u) (ev : vs[j]? = some v)
    (hG : ∀ h', IsZipHeld h' z TI TO T true → h'.IsTupleIter p a (i + 1) → h'.IsTupleIter q b (j + 1) → IsPair h' s.heap.objs.size u v → h'.objs.size = s.heap.objs.size + 1 →
      (∀ c o, c ≠ z → c ≠ p → c ≠ q → s.heap.get? c = some o → h'.get? c = some o) → G (.ref s.heap.objs.size) { s with heap := h' }) :
    wpAny (model prog w) A (Builtin.«zip.__next__» ⟨[.ref z], []⟩) (fun fin s' => ∃ v, fin = .done (.ret v) ∧ G v s') E s := by
  show wpAny _ _ (field (.ref z) 2 >>= _) _ _ _
  refine wpAny_bind (wpAny_field ez rfl (x := .bool false) rfl ?_)
  show wpAny _ _ (field (.ref z) 3 >>= _) _ _ _
  refine wpAny_bind (wpAny_field ez rfl (x := .ref TI) rfl ?_)
  refine wpAny_bind (wpAny_seqItems eI rfl ?_)
  show wpAny _ _ (Builtin.SmallTypes.ownedTupleIsFree (.ref z) >>= _) _ _ _
  refine wpAny_bind (wpAny_tupleHeld_zip ez eT fun k₁ ez₁ d₁ => ?_)
  simp only [Bool.false_eq_true, if_false]
  refine wpAny_bind ?_
  rw [← Array.forIn_toList]
  simp only [List.forIn_cons, List.forIn_nil]
  refine wpAny_bind (wpAny_bind (wpAny_holding ?_))
  show wpAny _ _ (Builtin.SmallTypes.nextOf (.ref p) >>= _) _ _ _
  refine wpAny_bind (RZ.nextOf_tuple_item (s := { s with heap := k₁ }) (ip.extBut d₁.extBut ap.i1z) (ta.extBut d₁.extBut ap.l1z) eu fun k₂ ip₂ d₂ => wpAny_pure (wpAny_pure ?_))
  refine wpAny_bind (wpAny_bind (wpAny_holding ?_))
  show wpAny _ _ (Builtin.SmallTypes.nextOf (.ref q) >>= _) _ _ _
  refine wpAny_bind (RZ.nextOf_tuple_item (s := { s with heap := k₂ }) ((iq.extBut d₁.extBut ap.i2z).extBut d₂.extBut ap.i12.symm) ((tb.extBut d₁.extBut ap.l2z).extBut d₂.extBut ap.l2i1) ev fun k₃ iq₃ d₃ => wpAny_pure (wpAny_pure (wpAny_pure ?_)))
  show wpAny _ _ (newTuple [u, v] >>= _) _ _ _
  refine wpAny_bind (wpAny_newTuple ?_)
  have sz : k₃.objs.size = s.heap.objs.size := by rw [d₃.1, d₂.1, d₁.1]
  have ez₃ : IsZipHeld k₃ z TI TO T true := d₃.extBut _ _ ap.i2z.symm (d₂.extBut _ _ ap.i1z.symm ez₁)
  have ip₃ : k₃.IsTupleIter p a (i + 1) := ip₂.extBut d₃.extBut ap.i12
  refine wpAny_pure ⟨_, rfl, ?_⟩
  show G (.ref k₃.objs.size) _
  have np : IsPair (k₃.push { cls := .type "tuple", data := .seq #[u, v] }) k₃.objs.size u v := Heap.get?_push_size _ rfl
  have ns : (k₃.push { cls := .type "tuple", data := .seq #[u, v] }).objs.size = k₃.objs.size + 1 := Heap.size_push ..
  rw [sz] at np ns ⊢
  exact hG _ (Heap.get?_push_of_some _ ez₃) (ip₃.at fun o e => Heap.get?_push_of_some _ e) (iq₃.at fun o e => Heap.get?_push_of_some _ e) np ns
    fun c o c1 c2 c3 e => Heap.get?_push_of_some _ (d₃.extBut _ _ c3 (d₂.extBut _ _ c2 (d₁.extBut _ _ c1 e)))

theorem heldEnd {z TI TO T p q a b : Addr} {f : Bool} {oT : Obj} {i j : Nat} {us vs : Array Value} {G : Fin → Shared → Prop} (hc : A.handled = none) (ap : ZipApart z TI TO p q a b)
    (ez : IsZipHeld s.heap z TI TO T f) (eT : s.heap.get? T = some oT) (eI : IsPair s.heap TI (.ref p) (.ref q))
    (ip : s.heap.IsTupleIter p a i) (iq : s.heap.IsTupleIter q b j) (ta : s.heap.IsTuple a us) (tb : s.heap.IsTuple b vs) (he : us[i]? = none ∨ vs[j]? = none)
    (hE : ∀ h' e, (∀ c o, c ≠ z → c ≠ p → c ≠ q → s.heap.get? c = some o → h'.get? c = some o) → (∃ o, h'.get? e = some o ∧ o.cls = .type "StopIteration") → E (.ref e) { s with heap := h' }) :
    wpAny (model prog w) A (Builtin.«zip.__next__» ⟨[.ref z], []⟩) G E s := by
  show wpAny _ _ (field (.ref z) 2 >>= _) _ _ _
  refine wpAny_bind (wpAny_field ez rfl (x := .bool false) rfl ?_)
  show wpAny _ _ (field (.ref z) 3 >>= _) _ _ _
  refine wpAny_bind (wpAny_field ez rfl (x := .ref TI) rfl ?_)
  refine wpAny_bind (wpAny_seqItems eI rfl ?_)
  show wpAny _ _ (Builtin.SmallTypes.ownedTupleIsFree (.ref z) >>= _) _ _ _
  refine wpAny_bind (wpAny_tupleHeld_zip ez eT fun k₁ ez₁ d₁ => ?_)
  simp only [Bool.false_eq_true, if_false]
  refine wpAny_bind ?_
  rw [← Array.forIn_toList]
  simp only [List.forIn_cons, List.forIn_nil]
  refine wpAny_bind (wpAny_bind (wpAny_holding ?_))
  show wpAny _ _ (Builtin.SmallTypes.nextOf (.ref p) >>= _) _ _ _
  cases eu : us[i]? with
  | none =>
    exact wpAny_bind (RZ.nextOf_tuple_end (s := { s with heap := k₁ }) hc (ip.extBut d₁.extBut ap.i1z) (ta.extBut d₁.extBut ap.l1z) eu fun k₂ e d₂ g => hE k₂ e (fun c o c1 c2 _ x => d₂ _ _ c2 (d₁.extBut _ _ c1 x)) g)
  | some u =>
    have ev : vs[j]? = none := by rcases he with h | h; rw [eu] at h; cases h; exact h
    refine wpAny_bind (RZ.nextOf_tuple_item (s := { s with heap := k₁ }) (ip.extBut d₁.extBut ap.i1z) (ta.extBut d₁.extBut ap.l1z) eu fun k₂ ip₂ d₂ => wpAny_pure (wpAny_pure ?_))
    refine wpAny_bind (wpAny_bind (wpAny_holding ?_))
    show wpAny _ _ (Builtin.SmallTypes.nextOf (.ref q) >>= _) _ _ _
    exact wpAny_bind (RZ.nextOf_tuple_end (s := { s with heap := k₂ }) hc ((iq.extBut d₁.extBut ap.i2z).extBut d₂.extBut ap.i12.symm) ((tb.extBut d₁.extBut ap.l2z).extBut d₂.extBut ap.l2i1) ev fun k₃ e d₃ g => hE k₃ e (fun c o c1 c2 c3 x => d₃ _ _ c3 (d₂.extBut _ _ c2 (d₁.extBut _ _ c1 x))) g)

theorem heldNext {z TI TO T p q a b : Addr} {f : Bool} {oT : Obj} {i j : Nat} {us vs : Array Value} {u v : Value} {G : Option Value → Shared → Prop} (ap : ZipApart z TI TO p q a b)
    (ez : IsZipHeld s.heap z TI TO T f) (eT : s.heap.get? T = some oT) (eI : IsPair s.heap TI (.ref p) (.ref q))
    (ip : s.heap.IsTupleIter p a i) (iq : s.heap.IsTupleIter q b j) (ta : s.heap.IsTuple a us) (tb : s.heap.IsTuple b vs) (eu : us[i]? = some u) (ev : vs[j]? = some v)
    (hG : ∀ h', IsZipHeld h' z TI TO T true → h'.IsTupleIter p a (i + 1) → h'.IsTupleIter q b (j + 1) → IsPair h' s.heap.objs.size u v → h'.objs.size = s.heap.objs.size + 1 →
      (∀ c o, c ≠ z → c ≠ p → c ≠ q → s.heap.get? c = some o → h'.get? c = some o) → G (some (.ref s.heap.objs.size)) { s with heap := h' }) :
    wpAny (model prog w) A (pyNext (.ref z)) G E s := by
  have ty : s.TypeIs (.ref z) "zip" := ⟨_, ez, rfl⟩
  unfold pyNext
  exact wpAny_bind (wpAny_attempt (wpAny_callSpecial?_slot (name := Str.ofString "__next__") ty F.slot_zip_next
    (wpAny_call_entry F.slot_zip_next ty F.entry_zip_next (heldItem ap ez eT eI ip iq ta tb eu ev fun h' g1 g2 g3 g4 g5 g6 => wpAny_pure (hG h' g1 g2 g3 g4 g5 g6)) (F.args_zip_next_1 _))))
theorem heldStop {z TI TO T p q a b : Addr} {f : Bool} {oT : Obj} {i j : Nat} {us vs : Array Value} {G : Option Value → Shared → Prop} (hc : A.handled = none) (ap : ZipApart z TI TO p q a b)
    (ez : IsZipHeld s.heap z TI TO T f) (eT : s.heap.get? T = some oT) (eI : IsPair s.heap TI (.ref p) (.ref q))
    (ip : s.heap.IsTupleIter p a i) (iq : s.heap.IsTupleIter q b j) (ta : s.heap.IsTuple a us) (tb : s.heap.IsTuple b vs) (he : us[i]? = none ∨ vs[j]? = none)
    (hG : ∀ h', (∀ c o, c ≠ z → c ≠ p → c ≠ q → s.heap.get? c = some o → h'.get? c = some o) → G none { s with heap := h' }) : wpAny (model prog w) A (pyNext (.ref z)) G E s := by
  have ty : s.TypeIs (.ref z) "zip" := ⟨_, ez, rfl⟩
  unfold pyNext
  refine wpAny_bind (wpAny_attempt (wpAny_callSpecial?_slot (name := Str.ofString "__next__") ty F.slot_zip_next
    (wpAny_call_entry F.slot_zip_next ty F.entry_zip_next (heldEnd hc ap ez eT eI ip iq ta tb he fun h' e hk g => ?_) (F.args_zip_next_1 _))))
  obtain ⟨o, ho, ec⟩ := g
  exact wpAny_bind (wpAny_isInstance (T := "StopIteration") (b := true) ⟨o, ho, ec⟩ isSubtype_stop (wpAny_pure (hG _ hk)))
end
section
variable {prog : Program} {w : World}
/-- zip of two tuples as the argument of dict -/
theorem argZT (z TI TO p q a b : Addr) (ap : ZipApart z TI TO p q a b) (us vs : Array Value) :
    PairArg prog w "zip" z [z, TI, TO, p, q, a, b] [z, TO, p, q] (min us.size vs.size) (fun i k v => us[i]? = some k ∧ vs[i]? = some v)
      (fun h => IsZip h z TI TO .none ∧ IsPair h TI (.ref p) (.ref q) ∧ (∃ x y, IsPair h TO x y) ∧ h.IsTupleIter p a 0 ∧ h.IsTupleIter q b 0 ∧ h.IsTuple a us ∧ h.IsTuple b vs) where
  type := fun s ok => ⟨_, ok.1, rfl⟩
  notDict := by decide
  keep := fun h h' ok hk => by
    obtain ⟨ez, eI, ⟨x, y, eO⟩, ip, iq, ta, tb⟩ := ok
    exact ⟨hk _ _ ez, hk _ _ eI, ⟨x, y, hk _ _ eO⟩, ip.at fun o e => hk _ o e, iq.at fun o e => hk _ o e, ta.at fun o e => hk _ o e, tb.at fun o e => hk _ o e⟩
  there := fun h ok c hc => by
    obtain ⟨ez, eI, ⟨x, y, eO⟩, ⟨o1, e1, _⟩, ⟨o2, e2, _⟩, ⟨o3, e3, _⟩, ⟨o4, e4, _⟩⟩ := ok
    simp only [List.mem_cons, List.not_mem_nil, or_false] at hc
    rcases hc with rfl | rfl | rfl | rfl | rfl | rfl | rfl
    · exact ⟨_, ez⟩
    · exact ⟨_, eI⟩
    · exact ⟨_, eO⟩
    · exact ⟨_, e1⟩
    · exact ⟨_, e2⟩
    · exact ⟨_, e3⟩
    · exact ⟨_, e4⟩
  sub := fun c hc => by simp at hc ⊢; rcases hc with e | e | e | e <;> simp [e]
  noKeys := fun A s Q E hA ok h => getAttrOr_miss_zip ok.1 rfl rfl rfl zip_no_keys (by decide +kernel) hA h
  iter := fun A s d Q E hA ok hd hf h => by
    obtain ⟨ez, eI, ⟨x0, y0, eO⟩, ip, iq, ta, tb⟩ := ok
    simp only [List.mem_cons, List.not_mem_nil, or_false, not_or] at hf
    obtain ⟨nz, nI, nO, np, nq, na, nb⟩ := hf
    refine wpAny_pyIter_zip ez (h z [z, TO, p, q] (fun i h => IsPair h TI (.ref p) (.ref q) ∧ h.IsTupleIter p a i ∧ h.IsTupleIter q b i ∧ h.IsTuple a us ∧ h.IsTuple b vs ∧
      ((IsZip h z TI TO .none ∧ ∃ x y, IsPair h TO x y) ∨ ∃ T f oT, IsZipHeld h z TI TO T f ∧ h.get? T = some oT ∧ T ≠ z ∧ T ≠ p ∧ T ≠ q ∧ T ≠ d)) s.heap s.toks ?_
      ⟨eI, ip, iq, ta, tb, .inl ⟨ez, x0, y0, eO⟩⟩ (fun _ _ e => e) fun c hc => .inl hc)
    refine ⟨fun hm => ?_, fun i h₁ h₂ st hk => ?_, fun i s₁ Q₁ E₁ hi st hds hQ => ?_, fun s₁ Q₁ E₁ st hQ => ?_⟩
    · simp only [List.mem_cons, List.not_mem_nil, or_false] at hm
      rcases hm with e | e | e | e
      · exact nz e
      · exact nO e
      · exact np e
      · exact nq e
    · obtain ⟨eI, ip, iq, ta, tb, hz⟩ := st
      refine ⟨hk _ _ (Ne.symm nI) eI, ip.at fun o e => hk _ o (Ne.symm np) e, iq.at fun o e => hk _ o (Ne.symm nq) e, ta.at fun o e => hk _ o (Ne.symm na) e, tb.at fun o e => hk _ o (Ne.symm nb) e, ?_⟩
      rcases hz with ⟨hz, x, y, eO⟩ | ⟨T, f, oT, hz, eT, r1, r2, r3, r4⟩
      · exact .inl ⟨hk _ _ (Ne.symm nz) hz, x, y, hk _ _ (Ne.symm nO) eO⟩
      · exact .inr ⟨T, f, oT, hk _ _ (Ne.symm nz) hz, hk _ _ r4 eT, r1, r2, r3, r4⟩
    · obtain ⟨eI, ip, iq, ta, tb, hz⟩ := st
      have eu := Array.getElem?_eq_getElem (Nat.lt_of_lt_of_le hi (Nat.min_le_left us.size vs.size))
      have ev := Array.getElem?_eq_getElem (Nat.lt_of_lt_of_le hi (Nat.min_le_right us.size vs.size))
      have lt : ∀ {c o}, s₁.heap.get? c = some o → s₁.heap.objs.size ≠ c := fun e => Nat.ne_of_gt (Heap.lt_size e)
      have n1 : s₁.heap.objs.size ≠ p := let ⟨_, e, _⟩ := ip; lt e
      have n2 : s₁.heap.objs.size ≠ q := let ⟨_, e, _⟩ := iq; lt e
      rcases hz with ⟨hz, x, y, eO⟩ | ⟨T, f, oT, hz, eT, r1, r2, r3, r4⟩
      · refine RZ.pyNext_zipT_item ap hz eI eO ip iq ta tb eu ev fun h' g1 g2 g3 g4 g5 g6 hk => ?_
        refine hQ s₁.heap.objs.size _ _ h' s₁.toks ⟨eu, ev⟩ (.inl ⟨_, g5, rfl, _, rfl⟩) ⟨hk _ _ ap.TIz ap.TITO ap.TIi1 ap.TIi2 eI, g3, g4, ta.at fun o e => hk _ o ap.l1z ap.l1TO ap.l1i1 ap.l1i2 e,
          tb.at fun o e => hk _ o ap.l2z ap.l2TO ap.l2i1 ap.l2i2 e, .inr ⟨s₁.heap.objs.size, false, _, g1, g5, lt hz, n1, n2, Nat.ne_of_gt hds⟩⟩ fun c o hc e => ?_
        exact hk c o (fun x => hc (by simp [x])) (fun x => hc (by simp [x])) (fun x => hc (by simp [x])) (fun x => hc (by simp [x])) e
      · refine heldNext ap hz eT eI ip iq ta tb eu ev fun h' g1 g3 g4 g5 g6 hk => ?_
        refine hQ s₁.heap.objs.size _ _ h' s₁.toks ⟨eu, ev⟩ (.inl ⟨_, g5, rfl, _, rfl⟩) ⟨hk _ _ ap.TIz ap.TIi1 ap.TIi2 eI, g3, g4, ta.at fun o e => hk _ o ap.l1z ap.l1i1 ap.l1i2 e,
          tb.at fun o e => hk _ o ap.l2z ap.l2i1 ap.l2i2 e, .inr ⟨T, true, oT, g1, hk _ _ r1 r2 r3 eT, r1, r2, r3, r4⟩⟩ fun c o hc e => ?_
        exact hk c o (fun x => hc (by simp [x])) (fun x => hc (by simp [x])) (fun x => hc (by simp [x])) e
    · obtain ⟨eI, ip, iq, ta, tb, hz⟩ := st
      have he : us[min us.size vs.size]? = none ∨ vs[min us.size vs.size]? = none := by
        rcases Nat.le_total us.size vs.size with g | g
        · exact .inl (Array.getElem?_eq_none (by omega))
        · exact .inr (Array.getElem?_eq_none (by omega))
      rcases hz with ⟨hz, x, y, eO⟩ | ⟨T, f, oT, hz, eT, r1, r2, r3, r4⟩
      · exact RZ.pyNext_zipT_end hA ap hz eI eO ip iq ta tb he fun h' hk => hQ h' s₁.toks fun c o hc e => hk c o (fun x => hc (by simp [x])) (fun x => hc (by simp [x])) (fun x => hc (by simp [x])) (fun x => hc (by simp [x])) e
      · exact heldStop hA ap hz eT eI ip iq ta tb he fun h' hk => hQ h' s₁.toks fun c o hc e => hk c o (fun x => hc (by simp [x])) (fun x => hc (by simp [x])) (fun x => hc (by simp [x])) e

/-- dict(zip(t, u)) -/
theorem callDZ {A : Around} {E : Value → Shared → Prop} {s : Shared} {a b : Addr} {us vs : Array Value} {ps : List (NestedKey × Addr × Value)} {Q : Value → Shared → Prop} (hA : A.handled = none) (hu : A.units + 16 < cLine)
    (ta : s.heap.IsTuple a us) (tb : s.heap.IsTuple b vs) (hl : ps.length = min us.size vs.size) (hp : ∀ (i : Nat) (k v : Value), us[i]? = some k → vs[i]? = some v → ∃ n c, ps[i]? = some (n, c, v) ∧ k = .ref c)
    (hk : ∀ x ∈ ps, NestedIs s.heap x.1 (.ref x.2.1) ∧ x.1.depth ≤ 8) (hsz : min us.size vs.size ≤ sizeLine)
    (h : ∀ h' tk, h'.DictOfH (nestedKind prog w) (s.heap.objs.size + 5) (storedAllH [] ps) → (∀ c o, s.heap.get? c = some o → h'.get? c = some o) → Q (.ref (s.heap.objs.size + 5)) { s with heap := h', toks := tk }) :
    wpAny (model prog w) A (call (.type "zip") [.ref a, .ref b]) (fun z s1 => wpAny (model prog w) A (call (.type "dict") [z]) Q E s1) E s := by
  have ha : a < s.heap.objs.size := let ⟨_, e, _⟩ := ta; Heap.lt_size e
  have hb : b < s.heap.objs.size := let ⟨_, e, _⟩ := tb; Heap.lt_size e
  refine RZ.call_zipT ta tb fun h1 ez eI eO ip iq sz keep => ?_
  have off : ∀ c, c ∈ [s.heap.objs.size + 4, s.heap.objs.size + 3, s.heap.objs.size, s.heap.objs.size + 1] → s.heap.objs.size ≤ c := fun c hc => by
    have e' : c = s.heap.objs.size + 4 ∨ c = s.heap.objs.size + 3 ∨ c = s.heap.objs.size ∨ c = s.heap.objs.size + 1 := by simpa using hc
    rcases e' with z | z | z | z <;> (rw [z]; first | exact Nat.le_add_right _ _ | exact Nat.le_refl _)
  refine call_dict_pairsH (s := { s with heap := h1 }) (knd := nestedKind prog w) (argZT _ _ _ _ _ a b (PySem.W.ktu_apart s.heap.objs.size a b ha hb) us vs) hA ?_ ⟨ez, eI, ⟨_, _, eO⟩, ip, iq, ta.at fun o e => keep _ o e, tb.at fun o e => keep _ o e⟩ ⟨hl, fun i k v e => hp i k v e.1 e.2⟩ (fun h' hk' x hx => ⟨?_, (hk x hx).2⟩) hsz fun h' tk hd hk' => ?_
  · show A.in1.in1.units + 8 < cLine
    have : A.in1.in1.units = A.units + 2 := rfl
    omega
  · refine NestedIs.at (fun c o w n e _ => hk' c o (fun z => ?_) (fun z => ?_) (keep c o e)) _ _ (hk x hx).1
    · have z' : c = h1.objs.size := z
      exact absurd (Heap.lt_size e) (by rw [z', sz]; exact Nat.not_lt.mpr (Nat.le_add_right _ _))
    · exact absurd (Nat.lt_of_lt_of_le (Heap.lt_size e) (off c z)) (Nat.lt_irrefl _)
  · have e5 : h1.objs.size = s.heap.objs.size + 5 := sz
    have hd' : h'.DictOfH (nestedKind prog w) (s.heap.objs.size + 5) (storedAllH [] ps) := by rw [← e5]; exact hd
    show Q (.ref h1.objs.size) _
    rw [e5]
    exact h h' tk hd' fun c o e => hk' c o (fun z => absurd (Nat.lt_of_lt_of_le (Heap.lt_size e) (off c z)) (Nat.lt_irrefl _)) (keep c o e)
end
/-- entries as they are kept, and as they are told -/
abbrev NEnt : List (NestedKey × Addr × L2.V) → List (NestedKey × Addr × Value) → Prop := PySem.Paired fun p q => p.1 = q.1 ∧ p.2.1 = q.2.1 ∧ L2.RelV p.2.2 q.2.2
/-- a dict whose keys are tuples, by its own object -/
def dN (w : World) (a : Addr) (us : List (NestedKey × Addr × L2.V)) : L2.HO := .ext fun h => us.length ≤ sizeLine ∧ (a == sysModules) = false ∧ ∃ xs, NEnt us xs ∧
  ∃ o es ep, h.get? a = some o ∧ o.ExactDict ∧ o.data = .dict es ep ∧ es.toList = xs.map (fun x => (⟨x.1.hash w, .ref x.2.1, x.2.2⟩ : DictEntry)) ∧ (xs.map (·.1)).Nodup
theorem dN_of {P : Program} {w : World} {H : L2.Hp} {h : Heap} {a : Addr} {us : List (NestedKey × Addr × L2.V)} (ok : L2.HOk P w H h) (e : H a = some (dN w a us)) (hk : ∀ u ∈ us, NestedIs h u.1 (.ref u.2.1) ∧ u.1.depth ≤ 8) :
    us.length ≤ sizeLine ∧ (a == sysModules) = false ∧ ∃ xs, NEnt us xs ∧ h.DictOfH (nestedKind P w) a xs := by
  obtain ⟨⟨h1, h2, xs, r, o, es, ep, e1, e2, e3, e4, e5⟩, un⟩ := ok a _ e
  clear un
  refine ⟨h1, h2, xs, r, o, es, ep, e1, e2, e3, e4, ?_, e5⟩
  clear e4 e5 h1 e
  induction r with
  | nil => intro x hx; cases hx
  | @cons p q ps qs g t ih =>
    intro x hx
    rcases List.mem_cons.mp hx with z | z
    · subst z
      have k := hk p List.mem_cons_self
      rw [g.1, g.2.1] at k
      exact k
    · exact ih (fun u hu => hk u (List.mem_cons_of_mem _ hu)) x z
theorem dN_ok {P : Program} {w : World} {H : L2.Hp} {h : Heap} {a : Addr} {us : List (NestedKey × Addr × L2.V)} {xs : List (NestedKey × Addr × Value)} (hl : us.length ≤ sizeLine) (hs : (a == sysModules) = false) (r : NEnt us xs) (d : h.DictOfH (nestedKind P w) a xs) :
    L2.ObjOk P w H h a (dN w a us) := by
  obtain ⟨o, es, ep, e1, e2, e3, e4, e5, e6⟩ := d
  refine ⟨⟨hl, hs, xs, r, o, es, ep, e1, e2, e3, e4, e6⟩, ⟨o, e1⟩, fun h1 h2 ⟨g1, g2, ys, gr, ob, es', ep', f1, f2⟩ k => ⟨g1, g2, ys, gr, ob, es', ep', k ob f1, f2⟩⟩
theorem NEnt.val {us : List (NestedKey × Addr × L2.V)} {xs : List (NestedKey × Addr × Value)} (r : NEnt us xs) (k : NestedKey) : L2.RelO ((us.find? fun u => decide (u.1 = k)).map (·.2.2)) ((atKey xs k).map (·.2)) := by
  induction r with
  | nil => exact True.intro
  | @cons p q ps qs h t ih =>
    obtain ⟨h1, _, h2⟩ := h
    by_cases e : p.1 = k
    · have e' : q.1 = k := h1.symm.trans e
      simp only [atKey, List.find?_cons, e, e', decide_true, Option.map_some]
      exact h2
    · have e' : ¬ q.1 = k := fun z => e (h1.trans z)
      simp only [atKey, List.find?_cons, e, e', decide_false] at ih ⊢
      exact ih
/-- an entry is put in -/
def putN (us : List (NestedKey × Addr × L2.V)) (k : NestedKey) (b : Addr) (v : L2.V) : List (NestedKey × Addr × L2.V) :=
  if us.any (fun u => decide (u.1 = k)) then us.map (fun u => if u.1 = k then (u.1, u.2.1, v) else u) else us ++ [(k, b, v)]
theorem NEnt.put {us : List (NestedKey × Addr × L2.V)} {xs : List (NestedKey × Addr × Value)} (r : NEnt us xs) (k : NestedKey) (b : Addr) {y : L2.V} {u : Value} (ry : L2.RelV y u) : NEnt (putN us k b y) (storedH xs k b u) := by
  have e : (us.any fun u => decide (u.1 = k)) = (atKey xs k).isSome := by
    clear ry
    induction r with
    | nil => rfl
    | @cons p q ps qs h t ih =>
      by_cases e : p.1 = k
      · have e' : q.1 = k := h.1.symm.trans e
        simp [atKey, List.find?_cons, e, e']
      · have e' : ¬ q.1 = k := fun z => e (h.1.trans z)
        simp only [atKey, List.any_cons, List.find?_cons, e, e', decide_false, Bool.false_or] at ih ⊢
        exact ih
  unfold putN storedH
  rw [e]
  by_cases q : (atKey xs k).isSome = true
  · rw [if_pos q, if_pos q]
    clear e q
    induction r with
    | nil => exact .nil
    | @cons p q ps qs h t ih =>
      rw [List.map_cons, List.map_cons]
      refine .cons ?_ ih
      obtain ⟨h1, h2, h3⟩ := h
      unfold putAt
      by_cases e : p.1 = k
      · rw [if_pos e, if_pos (h1.symm.trans e)]; exact ⟨h1, h2, ry⟩
      · rw [if_neg e, if_neg (fun z => e (h1.trans z))]; exact ⟨h1, h2, h3⟩
  · rw [if_neg q, if_neg q]; exact PySem.Paired.snoc r ⟨rfl, rfl, ry⟩
end Fz
set_option autoImplicit false
/-! A mirror of Python's values: plain trees and a row of cells, and how they stand in the heap. -/
namespace Mi
open PySem PySem.Spec L2
/-- a value: tuples, and lists, dicts, instances that nobody changes any more, are trees; what can change is a cell's number; what the module's top has made is its address -/
inductive D where
  | non | bl (b : Bool) | int (i : Int) | str (x : Str) | tup (xs : List D) | lst (xs : List D) | fro (xs : List D) | obj (C : Str) (ks : List Str) (xs : List D)
  | dic (ks : List Key) (xs : List D) | dcT (ks xs : List D) | xob (C : Str) (ks : List Str) (xs : List D) | loc (n : Nat) | glb (x : Str) | ty (n : String)
/-- the program's own part and the world's draws -/
structure Fw where
  f : PySem.W.Frag
  w : World
instance : Coe Fw PySem.W.Frag := ⟨Fw.f⟩
abbrev _root_.L2.Cx.kx (X : Cx) : Fw := ⟨X.K, X.w⟩
/-- where a class or a def of the module stands -/
def cad (K : PySem.W.Frag) (x : Str) : Addr := He.ga K x
/-- a cell -/
inductive Cell where
  | lst (xs : List D)
  | ins (C : Str) (fs : List (Str × D))
  | dct (kvs : List (Key × D))
  | dcT (ks xs : List D)
  | exc (C : Str) (m : Option Nat)
  | xdc (fs : List (Str × D))
abbrev Mem := List Cell
/-- a type: a built-in's, or an own class by its name -/
inductive Ty where
  | b (n : String)
  | c (C : Str)
def Ty.val (K : PySem.W.Frag) : Ty → Value
  | .b n => .type n
  | .c C => .ref (cad K C)
/-- an exception: its class, its fields -/
structure Exn where
  cls : Ty
  fs : Option (List (Str × D))
/-- what comes of code -/
inductive Res (α : Type) where
  | ok (a : α) (M : Mem)
  | err (x : Exn) (M : Mem)
/-- the world: the cells' addresses, and those of lists that are being made -/
structure Wd where
  c : List Addr
  h : List Addr
mutual
/-- a value as a key -/
def nk : D → Option NestedKey
  | .non => some .none
  | .bl b => some (.num (if b = true then 1 else 0))
  | .int i => some (.num i)
  | .str x => some (.text x)
  | .tup xs => (nks xs).map .tup
  | _ => none
def nks : List D → Option (List NestedKey)
  | [] => some []
  | d :: ds => (nk d).bind fun k => (nks ds).map fun ks => k :: ks
end
/-- a key that may be asked for: a tuple, not too deep -/
def nkT (d : D) : Option NestedKey := match d with
  | .tup xs => (nks xs).bind fun ks => if (NestedKey.tup ks).depth ≤ 8 then some (.tup ks) else none
  | _ => none
/-- neither a cell nor being made -/
def Wd.out (μ : Wd) (a : Addr) : Prop := a ∉ μ.c ∧ a ∉ μ.h
/-- a list that was there before -/
def LQ (K : PySem.W.Frag) (μ : Wd) (H : Hp) (a : Addr) (vs : List V) : Prop := ((∃ o, H a = some (.frz o (.lst vs))) ∧ μ.out a) ∨
    ∃ (o : Obj) (its : Array Value) (n : Nat), K.lookup a = some o ∧ o.cls = .type "list" ∧ o.dict = none ∧ o.data = .seq its n ∧ its.size ≤ sizeLine ∧ Vals vs its.toList
theorem LQ.sq {K : PySem.W.Frag} {μ : Wd} {H : Hp} {a : Addr} {vs : List V} (h : LQ K μ H a vs) : SqL K H a vs := h.imp (fun z => .inr z.1) id
/-- an exception's dict: none as yet, or at dx -/
def XD (μ : Wd) (H : Hp) (o : Option Addr) (fs : List (Str × V)) : Prop := match o with
  | none => fs = []
  | some dx => H dx = some (exd dx fs) ∧ μ.out dx
mutual
inductive RV (K : Fw) (μ : Wd) (H : Hp) : V → D → Prop
  | non : RV K μ H .non .non
  | bl (b : Bool) : RV K μ H (.bl b) (.bl b)
  | int (i : Int) : RV K μ H (.int i) (.int i)
  | str (x : Str) : PyData.strOk x = true → RV K μ H (.str x) (.str x)
  | tup {a : Addr} {vs : List V} {ds : List D} : SqT K H a vs → RVs K μ H vs ds → RV K μ H (.ref a) (.tup ds)
  | lst {a : Addr} {vs : List V} {ds : List D} : H a = some (.lst vs) → μ.out a → RVs K μ H vs ds → RV K μ H (.ref a) (.lst ds)
  | fro {a : Addr} {vs : List V} {ds : List D} : LQ K μ H a vs → RVs K μ H vs ds → RV K μ H (.ref a) (.fro ds)
  | obj {a dx : Addr} {C : Str} {ks : List Str} {vs : List V} {ds : List D} : H a = some (.ins (cad K C) dx (ks.zip vs)) → μ.out a → ks.length = ds.length → RVs K μ H vs ds → RV K μ H (.ref a) (.obj C ks ds)
  | dic {a : Addr} {ks : List Key} {vs : List V} {ds : List D} : H a = some (.dK (ks.zip vs)) → μ.out a → ks.length = ds.length → RVs K μ H vs ds → RV K μ H (.ref a) (.dic ks ds)
  | dcT {a : Addr} {us : List (NestedKey × Addr × V)} {ks ds : List D} : H a = some (Fz.dN K.w a us) → μ.out a → ks.map nkT = us.map (fun u => some u.1) → RVs K μ H (us.map fun u => .ref u.2.1) ks → RVs K μ H (us.map fun u => u.2.2) ds → RV K μ H (.ref a) (.dcT ks ds)
  | xob {a : Addr} {o : Option Addr} {C : Str} {ks : List Str} {vs : List V} {ds : List D} : H a = some (exo a (cad K C) o) → μ.out a → XD μ H o (ks.zip vs) → ks.length = ds.length → RVs K μ H vs ds → RV K μ H (.ref a) (.xob C ks ds)
  | loc {n : Nat} {a : Addr} : μ.c[n]? = some a → RV K μ H (.ref a) (.loc n)
  | glb (x : Str) : RV K μ H (.ref (cad K x)) (.glb x)
  | ty (n : String) : RV K μ H (.ty n) (.ty n)
inductive RVs (K : Fw) (μ : Wd) (H : Hp) : List V → List D → Prop
  | nil : RVs K μ H [] []
  | cons {v : V} {vs : List V} {d : D} {ds : List D} : RV K μ H v d → RVs K μ H vs ds → RVs K μ H (v :: vs) (d :: ds)
end
/-- fields, by name -/
inductive RF {κ : Type} (K : Fw) (μ : Wd) (H : Hp) : List (κ × V) → List (κ × D) → Prop
  | nil : RF K μ H [] []
  | cons {k : κ} {v : V} {d : D} {vs : List (κ × V)} {ds : List (κ × D)} : RV K μ H v d → RF K μ H vs ds → RF K μ H ((k, v) :: vs) ((k, d) :: ds)
def RC (K : Fw) (μ : Wd) (H : Hp) (a : Addr) : Cell → Prop
  | .lst ds => ∃ vs, H a = some (.lst vs) ∧ RVs K μ H vs ds
  | .ins C fs => ∃ dx gs, H a = some (.ins (cad K C) dx gs) ∧ RF K μ H gs fs
  | .dct kvs => ∃ us, H a = some (.dK us) ∧ RF K μ H us kvs
  | .dcT ks ds => ∃ us, H a = some (Fz.dN K.w a us) ∧ ks.map nkT = us.map (fun u => some u.1) ∧ RVs K μ H (us.map fun u => .ref u.2.1) ks ∧ RVs K μ H (us.map fun u => u.2.2) ds
  | .exc C none => H a = some (exo a (cad K C) none)
  | .exc C (some m) => ∃ dx, μ.c[m]? = some dx ∧ H a = some (exo a (cad K C) (some dx))
  | .xdc fs => ∃ gs, H a = some (exd a gs) ∧ RF K μ H gs fs
structure RM (K : Fw) (μ : Wd) (H : Hp) (M : Mem) : Prop where
  len : μ.c.length = M.length
  nd : μ.c.Nodup
  hid : ∀ a ∈ μ.h, (∃ vs, H a = some (.lst vs)) ∧ a ∉ μ.c
  cell : ∀ (n : Nat) (a : Addr) (c : Cell), μ.c[n]? = some a → M[n]? = some c → RC K μ H a c
/-- the world grows -/
structure Le (μ : Wd) (H : Hp) (μ' : Wd) (H' : Hp) : Prop where
  ex : ∃ ν, μ'.c = μ.c ++ ν ∧ ∀ a ∈ ν, H a = none
  hid : μ'.h = μ.h
  dom : ∀ a o, H a = some o → ∃ o', H' a = some o'
  fr : ∀ a o, H a = some o → a ∉ μ.c → H' a = some o
theorem Le.refl {μ : Wd} {H : Hp} : Le μ H μ H := ⟨⟨[], by simp, by simp⟩, rfl, fun a o h => ⟨o, h⟩, fun a o h _ => h⟩
theorem Le.trans {μ μ1 μ2 : Wd} {H H1 H2 : Hp} (a : Le μ H μ1 H1) (b : Le μ1 H1 μ2 H2) : Le μ H μ2 H2 := by
  obtain ⟨ν, e1, f1⟩ := a.ex
  obtain ⟨ν2, e2, f2⟩ := b.ex
  have none1 : ∀ x, H1 x = none → H x = none := fun x h => by
    cases q : H x with
    | none => rfl
    | some o =>
      obtain ⟨o', h'⟩ := a.dom x o q
      rw [h] at h'
      cases h'
  refine ⟨⟨ν ++ ν2, by rw [e2, e1, List.append_assoc], fun x hx => ?_⟩, b.hid.trans a.hid, fun x o h => ?_, fun x o h hn => ?_⟩
  · rcases List.mem_append.mp hx with h | h
    · exact f1 x h
    · exact none1 x (f2 x h)
  · obtain ⟨o', h'⟩ := a.dom x o h
    exact b.dom x o' h'
  · refine b.fr x o (a.fr x o h hn) fun hm => ?_
    rw [e1] at hm
    rcases List.mem_append.mp hm with q | q
    · exact hn q
    · rw [f1 x q] at h; cases h
theorem Le.get {μ μ' : Wd} {H H' : Hp} (l : Le μ H μ' H') {n : Nat} {a : Addr} (h : μ.c[n]? = some a) : μ'.c[n]? = some a := by
  obtain ⟨ν, e, _⟩ := l.ex
  rw [e, List.getElem?_append_left (List.getElem?_eq_some_iff.mp h).1]
  exact h
/-- what is no cell -/
def NC : HO → Prop
  | .tup _ => True
  | .xd _ => True
  | .frz _ (.tup _) => True
  | _ => False
theorem RC.nc {K : Fw} {μ : Wd} {H : Hp} {a : Addr} {c : Cell} {o : HO} (r : RC K μ H a c) (h : H a = some o) : ¬ NC o := by
  cases c with
  | lst ds => obtain ⟨vs, e, _⟩ := r; rw [e] at h; cases h; exact id
  | ins C fs => obtain ⟨dx, gs, e, _⟩ := r; rw [e] at h; cases h; exact id
  | dct kvs => obtain ⟨us, e, _⟩ := r; rw [e] at h; cases h; exact id
  | dcT ks ds => obtain ⟨us, e, _⟩ := r; rw [e] at h; cases h; exact id
  | exc C m =>
    cases m with
    | none => have e : H a = some (exo a (cad K C) none) := r; rw [e] at h; cases h; exact id
    | some m => obtain ⟨dx, _, e⟩ := r; rw [e] at h; cases h; exact id
  | xdc fs => obtain ⟨gs, e, _⟩ := r; rw [e] at h; cases h; exact id
section
variable {K : Fw} {μ μ' : Wd} {H H' : Hp} {M M' : Mem}
theorem RM.there (r : RM K μ H M) {n : Nat} {a : Addr} (h : μ.c[n]? = some a) : ∃ c, M[n]? = some c ∧ RC K μ H a c := by
  have hl : n < M.length := by rw [← r.len]; exact (List.getElem?_eq_some_iff.mp h).1
  exact ⟨M[n], List.getElem?_eq_getElem hl, r.cell n a _ h (List.getElem?_eq_getElem hl)⟩
theorem RM.at_ (r : RM K μ H M) {n : Nat} {c : Cell} (h : M[n]? = some c) : ∃ a, μ.c[n]? = some a ∧ RC K μ H a c := by
  have hl : n < μ.c.length := by rw [r.len]; exact (List.getElem?_eq_some_iff.mp h).1
  exact ⟨μ.c[n], List.getElem?_eq_getElem hl, r.cell n _ c (List.getElem?_eq_getElem hl) h⟩
theorem RM.out (r : RM K μ H M) {a : Addr} {o : HO} (h : H a = some o) (n : NC o) : a ∉ μ.c := fun hm => by
  obtain ⟨i, hi⟩ := List.getElem?_of_mem hm
  obtain ⟨c, _, rc⟩ := r.there hi
  exact rc.nc h n
theorem RC.some {a : Addr} {c : Cell} (r : RC K μ H a c) : ∃ o, H a = some o := by
  cases c with
  | lst ds => obtain ⟨vs, e, _⟩ := r; exact ⟨_, e⟩
  | ins C fs => obtain ⟨dx, gs, e, _⟩ := r; exact ⟨_, e⟩
  | dct kvs => obtain ⟨us, e, _⟩ := r; exact ⟨_, e⟩
  | dcT ks ds => obtain ⟨us, e, _⟩ := r; exact ⟨_, e⟩
  | exc C m =>
    cases m with
    | none => exact ⟨_, r⟩
    | some m => obtain ⟨dx, _, e⟩ := r; exact ⟨_, e⟩
  | xdc fs => obtain ⟨gs, e, _⟩ := r; exact ⟨_, e⟩
theorem RM.fresh (r : RM K μ H M) {a : Addr} (h : H a = none) : a ∉ μ.c := fun hm => by
  obtain ⟨i, hi⟩ := List.getElem?_of_mem hm
  obtain ⟨c, _, rc⟩ := r.there hi
  obtain ⟨o, e⟩ := rc.some
  rw [h] at e; cases e
theorem RM.freshOut (r : RM K μ H M) {a : Addr} (h : H a = none) : μ.out a := ⟨r.fresh h, fun hm => by
  obtain ⟨⟨vs, e⟩, _⟩ := r.hid a hm
  rw [h] at e; cases e⟩
/-- the world grows, lists may have begun to be made -/
structure Lq (μ : Wd) (H : Hp) (μ' : Wd) (H' : Hp) : Prop where
  ex : ∃ ν, μ'.c = μ.c ++ ν ∧ ∀ a ∈ ν, H a = none
  hid : ∃ hs, μ'.h = hs ++ μ.h ∧ ∀ a ∈ hs, H a = none
  dom : ∀ a o, H a = some o → ∃ o', H' a = some o'
  fr : ∀ a o, H a = some o → a ∉ μ.c → H' a = some o
theorem Le.lq (l : Le μ H μ' H') : Lq μ H μ' H' := ⟨l.ex, ⟨[], by rw [l.hid]; rfl, by simp⟩, l.dom, l.fr⟩
theorem Lq.get (l : Lq μ H μ' H') {n : Nat} {a : Addr} (h : μ.c[n]? = some a) : μ'.c[n]? = some a := by
  obtain ⟨ν, e, _⟩ := l.ex
  rw [e, List.getElem?_append_left (List.getElem?_eq_some_iff.mp h).1]
  exact h
theorem Lq.out (l : Lq μ H μ' H') {a : Addr} {o : HO} (h : H a = some o) (n : μ.out a) : H' a = some o ∧ μ'.out a := by
  refine ⟨l.fr a o h n.1, fun hm => ?_, fun hm => ?_⟩
  · obtain ⟨ν, e, f⟩ := l.ex
    rw [e] at hm
    rcases List.mem_append.mp hm with q | q
    · exact n.1 q
    · rw [f a q] at h; cases h
  · obtain ⟨ν, e, f⟩ := l.hid
    rw [e] at hm
    rcases List.mem_append.mp hm with q | q
    · rw [f a q] at h; cases h
    · exact n.2 q
/-- how facts go over -/
structure Go (K : Fw) (μ : Wd) (H : Hp) (μ' : Wd) (H' : Hp) : Prop where
  t : ∀ a vs, SqT K H a vs → SqT K H' a vs
  l : ∀ a vs, LQ K μ H a vs → LQ K μ' H' a vs
  o : ∀ a o, H a = some o → μ.out a → H' a = some o ∧ μ'.out a
  g : ∀ (n : Nat) (a : Addr), μ.c[n]? = some a → μ'.c[n]? = some a
theorem XD.go (g : Go K μ H μ' H') {o : Option Addr} {fs : List (Str × V)} (h : XD μ H o fs) : XD μ' H' o fs := by
  cases o with
  | none => exact h
  | some dx => exact g.o dx _ h.1 h.2
mutual
theorem RV.go (g : Go K μ H μ' H') : ∀ {v : V} {d : D}, RV K μ H v d → RV K μ' H' v d
  | _, _, .non => .non
  | _, _, .bl b => .bl b
  | _, _, .int i => .int i
  | _, _, .str x h => .str x h
  | _, _, .tup h k => .tup (g.t _ _ h) (RVs.go g k)
  | _, _, .lst h n k => .lst (g.o _ _ h n).1 (g.o _ _ h n).2 (RVs.go g k)
  | _, _, .fro h k => .fro (g.l _ _ h) (RVs.go g k)
  | _, _, .obj h n e k => .obj (g.o _ _ h n).1 (g.o _ _ h n).2 e (RVs.go g k)
  | _, _, .dic h n e k => .dic (g.o _ _ h n).1 (g.o _ _ h n).2 e (RVs.go g k)
  | _, _, .dcT h n e k j => .dcT (g.o _ _ h n).1 (g.o _ _ h n).2 e (RVs.go g k) (RVs.go g j)
  | _, _, .xob h n x e k => .xob (g.o _ _ h n).1 (g.o _ _ h n).2 (x.go g) e (RVs.go g k)
  | _, _, .loc h => .loc (g.g _ _ h)
  | _, _, .glb a => .glb a
  | _, _, .ty n => .ty n
theorem RVs.go (g : Go K μ H μ' H') : ∀ {vs : List V} {ds : List D}, RVs K μ H vs ds → RVs K μ' H' vs ds
  | _, _, .nil => .nil
  | _, _, .cons h k => .cons (RV.go g h) (RVs.go g k)
end
theorem RF.go {κ : Type} (g : Go K μ H μ' H') : ∀ {vs : List (κ × V)} {ds : List (κ × D)}, RF K μ H vs ds → RF K μ' H' vs ds
  | _, _, .nil => .nil
  | _, _, .cons h k => .cons (RV.go g h) (RF.go g k)
theorem RC.go (g : Go K μ H μ' H') {a : Addr} {c : Cell} (h : RC K μ H a c) (e : H' a = H a) : RC K μ' H' a c := by
  cases c with
  | lst ds => obtain ⟨vs, q, k⟩ := h; exact ⟨vs, e.trans q, k.go g⟩
  | ins C fs => obtain ⟨dx, gs, q, k⟩ := h; exact ⟨dx, gs, e.trans q, k.go g⟩
  | dct kvs => obtain ⟨us, q, k⟩ := h; exact ⟨us, e.trans q, k.go g⟩
  | dcT ks ds => obtain ⟨us, q, k1, k2, k3⟩ := h; exact ⟨us, e.trans q, k1, k2.go g, k3.go g⟩
  | exc C m =>
    cases m with
    | none => exact e.trans h
    | some m => obtain ⟨dx, q1, q2⟩ := h; exact ⟨dx, g.g _ _ q1, e.trans q2⟩
  | xdc fs => obtain ⟨gs, q, k⟩ := h; exact ⟨gs, e.trans q, k.go g⟩
theorem go_lq (r : RM K μ H M) (l : Lq μ H μ' H') : Go K μ H μ' H' := by
  refine ⟨fun a vs h => h.imp (fun z => ?_) id, fun a vs h => h.imp (fun ⟨⟨o, z⟩, n⟩ => ⟨⟨o, (l.out z n).1⟩, (l.out z n).2⟩) id, fun a o h n => l.out h n, fun n a h => l.get h⟩
  rcases z with z | ⟨o, z⟩
  · exact .inl (l.fr a _ z (r.out z trivial))
  · exact .inr ⟨o, l.fr a _ z (r.out z trivial)⟩
theorem sqt_le (r : RM K μ H M) (l : Le μ H μ' H') {a : Addr} {vs : List V} (h : SqT K H a vs) : SqT K H' a vs := (go_lq r l.lq).t a vs h
theorem Le.out (l : Le μ H μ' H') {a : Addr} {o : HO} (h : H a = some o) (n : μ.out a) : H' a = some o ∧ μ'.out a := l.lq.out h n
theorem LQ.le (l : Le μ H μ' H') {a : Addr} {vs : List V} (h : LQ K μ H a vs) : LQ K μ' H' a vs := h.imp (fun ⟨⟨o, z⟩, n⟩ => ⟨⟨o, (l.out z n).1⟩, (l.out z n).2⟩) id
theorem RV.le (r : RM K μ H M) (l : Le μ H μ' H') {v : V} {d : D} (h : RV K μ H v d) : RV K μ' H' v d := h.go (go_lq r l.lq)
theorem RVs.le (r : RM K μ H M) (l : Le μ H μ' H') {vs : List V} {ds : List D} (h : RVs K μ H vs ds) : RVs K μ' H' vs ds := h.go (go_lq r l.lq)
theorem RF.le {κ : Type} (r : RM K μ H M) (l : Le μ H μ' H') : ∀ {vs : List (κ × V)} {ds : List (κ × D)}, RF K μ H vs ds → RF K μ' H' vs ds
  | _, _, .nil => .nil
  | _, _, .cons h k => .cons (RV.le r l h) (RF.le r l k)
theorem RVs.length : ∀ {vs : List V} {ds : List D}, RVs K μ H vs ds → vs.length = ds.length
  | _, _, .nil => rfl
  | _, _, .cons _ k => by rw [List.length_cons, List.length_cons, RVs.length k]
theorem RVs.get : ∀ {vs : List V} {ds : List D} {i : Nat} {d : D}, RVs K μ H vs ds → ds[i]? = some d → ∃ v, vs[i]? = some v ∧ RV K μ H v d
  | _, _, _, _, .nil, e => by simp at e
  | _, _, 0, _, .cons h _, e => by simp at e; subst e; exact ⟨_, rfl, h⟩
  | _, _, i + 1, d, .cons _ k, e => by
    obtain ⟨v, h1, h2⟩ := RVs.get (i := i) (d := d) k (by simpa using e)
    exact ⟨v, by simpa using h1, h2⟩
theorem RVs.get' : ∀ {vs : List V} {ds : List D} {i : Nat} {v : V}, RVs K μ H vs ds → vs[i]? = some v → ∃ d, ds[i]? = some d ∧ RV K μ H v d
  | _, _, _, _, .nil, e => by simp at e
  | _, _, 0, _, .cons h _, e => by simp at e; subst e; exact ⟨_, rfl, h⟩
  | _, _, i + 1, d, .cons _ k, e => by
    obtain ⟨v, h1, h2⟩ := RVs.get' (i := i) (v := d) k (by simpa using e)
    exact ⟨v, by simpa using h1, h2⟩
theorem RVs.append : ∀ {vs us : List V} {ds es : List D}, RVs K μ H vs ds → RVs K μ H us es → RVs K μ H (vs ++ us) (ds ++ es)
  | _, _, _, _, .nil, s => s
  | _, _, _, _, .cons h k, s => .cons h (RVs.append k s)
theorem RVs.take : ∀ {vs : List V} {ds : List D} (n : Nat), RVs K μ H vs ds → RVs K μ H (vs.take n) (ds.take n)
  | _, _, 0, _ => .nil
  | _, _, _ + 1, .nil => .nil
  | _, _, n + 1, .cons h k => .cons h (RVs.take n k)
theorem RVs.drop : ∀ {vs : List V} {ds : List D} (n : Nat), RVs K μ H vs ds → RVs K μ H (vs.drop n) (ds.drop n)
  | _, _, 0, r => r
  | _, _, _ + 1, .nil => .nil
  | _, _, n + 1, .cons _ k => RVs.drop n k
theorem RVs.set : ∀ {vs : List V} {ds : List D} (i : Nat) {v : V} {d : D}, RVs K μ H vs ds → RV K μ H v d → RVs K μ H (vs.set i v) (ds.set i d)
  | _, _, _, _, _, .nil, _ => .nil
  | _, _, 0, _, _, .cons _ k, h => .cons h k
  | _, _, i + 1, _, _, .cons q k, h => .cons q (RVs.set i k h)
theorem RVs.reverse : ∀ {vs : List V} {ds : List D}, RVs K μ H vs ds → RVs K μ H vs.reverse ds.reverse
  | _, _, .nil => .nil
  | _, _, .cons h k => by
    rw [List.reverse_cons, List.reverse_cons]
    exact (RVs.reverse k).append (.cons h .nil)
theorem RF.lookup {fs : List (Str × D)} {gs : List (Str × V)} (h : RF K μ H gs fs) (f : Str) : (∀ d, fs.lookup f = some d → ∃ v, gs.lookup f = some v ∧ RV K μ H v d) ∧ (fs.lookup f = none → gs.lookup f = none) := by
  induction h with
  | nil => exact ⟨fun d e => (by cases e), fun _ => rfl⟩
  | @cons k v d vs ds h t ih =>
    rw [List.lookup_cons, List.lookup_cons]
    cases q : f == k with
    | true => exact ⟨fun d' e => (by cases e; exact ⟨v, rfl, h⟩), fun e => by cases e⟩
    | false => exact ih
theorem RF.length {κ : Type} : ∀ {vs : List (κ × V)} {ds : List (κ × D)}, RF K μ H vs ds → vs.length = ds.length
  | _, _, .nil => rfl
  | _, _, .cons _ k => by rw [List.length_cons, List.length_cons, RF.length k]
end
/-- a field is put in -/
@[simp] def putD (f : Str) (v : D) : List (Str × D) → List (Str × D)
  | [] => [(f, v)]
  | p :: r => if p.1 = f then (f, v) :: r else p :: putD f v r
/-! ### the slots -/
abbrev Sl := List (Option D)
structure RS (K : Fw) (μ : Wd) (H : Hp) (σ : St) (ρ : Sl) : Prop where
  len : σ.length = ρ.length
  get : ∀ (i : Nat) (d : D), ρ[i]? = some (some d) → ∃ v, σ[i]? = some (some v) ∧ RV K μ H v d
section
variable {K : Fw} {μ μ' : Wd} {H H' : Hp} {M M' : Mem} {σ : St} {ρ : Sl}
theorem RS.le (r : RM K μ H M) (l : Le μ H μ' H') (s : RS K μ H σ ρ) : RS K μ' H' σ ρ :=
  ⟨s.len, fun i d h => let ⟨v, e, q⟩ := s.get i d h; ⟨v, e, q.le r l⟩⟩
theorem RS.set (s : RS K μ H σ ρ) (i : Nat) {v : V} {d : D} (h : RV K μ H v d) : RS K μ H (σ.set i (some v)) (ρ.set i (some d)) :=
  ⟨by rw [List.length_set, List.length_set, s.len], fun j e hj => by
    rw [List.getElem?_set] at hj ⊢
    by_cases q : i = j
    · subst q
      rw [if_pos rfl] at hj ⊢
      by_cases hl : i < ρ.length
      · rw [if_pos hl] at hj
        rw [if_pos (by rw [s.len]; exact hl)]
        cases hj
        exact ⟨v, rfl, h⟩
      · rw [if_neg hl] at hj; cases hj
    · rw [if_neg q] at hj ⊢
      exact s.get j e hj⟩
end
/-! ### readings of evaluators -/
abbrev Ev := Sl → Mem → Option (Res D)
abbrev EvT := Sl → Mem → Option (Res Bool)
abbrev EvA := Sl → Mem → Option (Res (List D))
/-- an exception as it stands -/
def RX (K : Fw) (μ : Wd) (H : Hp) (C : Value) (d : Option Addr) (x : Exn) : Prop :=
  C = x.cls.val K ∧ match x.fs with
    | none => d = none
    | some fs => ∃ a gs, d = some a ∧ H a = some (.xd gs) ∧ RF K μ H gs fs
/-- what is wanted behind code -/
def Out {α β : Type} (R : Wd → Hp → β → α → Prop) (K : Fw) (E : XK) (μ : Wd) (H : Hp) (r : Res α) (Q : β → Hp → Prop) : Prop :=
  match r with
  | .ok d M' => ∀ μ' x H', Le μ H μ' H' → RM K μ' H' M' → R μ' H' x d → Q x H'
  | .err x M' => ∀ μ' H' C d, Le μ H μ' H' → RM K μ' H' M' → RX K μ' H' C d x → E C d H'
def tr {α β : Type} (R : Wd → Hp → β → α → Prop) (K : Fw) (E : XK) (v : Sl → Mem → Option (Res α)) : St → Hp → (β → Hp → Prop) → Prop := fun σ H Q =>
  ∃ μ ρ M r, RS K μ H σ ρ ∧ RM K μ H M ∧ v ρ M = some r ∧ Out R K E μ H r Q
abbrev trE (K : Fw) (E : XK) (v : Ev) : TE := tr (fun μ H => RV K μ H) K E v
abbrev trT (K : Fw) (E : XK) (v : EvT) : TT := tr (fun _ _ (x : Bool) d => x = d) K E v
abbrev trA (K : Fw) (E : XK) (v : EvA) : TA := tr (fun μ H => RVs K μ H) K E v
/-- one after another -/
def bnd {α β : Type} (r : Option (Res α)) (k : α → Mem → Option (Res β)) : Option (Res β) :=
  match r with
  | some (.ok a M) => k a M
  | some (.err x M) => some (.err x M)
  | none => none
@[simp] theorem bnd_ok {α β : Type} {a : α} {M : Mem} {k : α → Mem → Option (Res β)} : bnd (some (.ok a M)) k = k a M := rfl
@[simp] theorem bnd_err {α β : Type} {x : Exn} {M : Mem} {k : α → Mem → Option (Res β)} : bnd (some (.err x M)) k = some (.err x M) := rfl
@[simp] theorem bnd_none {α β : Type} {k : α → Mem → Option (Res β)} : bnd none k = none := rfl
/-- code, then a rest: what is to be shown of the whole is shown of the rest -/
theorem tr_bnd {α β γ δ : Type} {R : Wd → Hp → β → α → Prop} {R' : Wd → Hp → δ → γ → Prop} {K : Fw} {E : XK} {v : Sl → Mem → Option (Res α)} {k : α → Mem → Option (Res γ)} {μ : Wd} {ρ : Sl} {M : Mem} {σ : St} {H : Hp} {r : Res γ} {Q : δ → Hp → Prop}
    {P : β → Hp → Prop} (hs : RS K μ H σ ρ) (hm : RM K μ H M) (e : bnd (v ρ M) k = some r) (q : Out R' K E μ H r Q)
    (step : ∀ μ1 x H1 a M1, Le μ H μ1 H1 → RS K μ1 H1 σ ρ → RM K μ1 H1 M1 → R μ1 H1 x a → k a M1 = some r → Out R' K E μ1 H1 r Q → P x H1) : tr R K E v σ H P := by
  cases h : v ρ M with
  | none => rw [h] at e; cases e
  | some r1 =>
    refine ⟨μ, ρ, M, r1, hs, hm, h, ?_⟩
    rw [h] at e
    cases r1 with
    | err x M1 =>
      cases e
      exact q
    | ok a M1 =>
      intro μ1 x H1 l m1 rx
      refine step μ1 x H1 a M1 l (hs.le hm l) m1 rx e ?_
      cases r with
      | ok d M' => exact fun μ' y H' l' m' ry => q μ' y H' (l.trans l') m' ry
      | err z M' => exact fun μ' H' C d l' m' rz => q μ' H' C d (l.trans l') m' rz
end Mi
/-! Names that are drawn. -/
namespace Fh
open PySem PySem.Spec PyProof.Rows L2
def lettersS : Str := "abcdefghijklmnopqrstuvwxyz"
def barredL : List Str := ["again", "as", "def", "else", "except", "fails", "finally", "from", "if", "in", "maybe", "new", "no", "none", "note", "outside", "pass", "raise", "repeat", "return", "stop", "try", "use", "well", "yes", "out"]
def sgn (c : Nat) : Str := ⟨#[c]⟩
/-- a name: one to eight letters, no kept word and not out -/
structure IsName (z : Str) : Prop where
  lo : 1 ≤ (TL.tl z).length
  hi : (TL.tl z).length ≤ 8
  ab : ∀ c ∈ TL.tl z, 97 ≤ c ∧ c ≤ 122
  free : z ∉ barredL
theorem letters_tl : TL.tl lettersS = (List.range 26).map (97 + ·) := by decide +kernel
def freshOf (n : Str) : List Str := ([n] ++ (TL.tl lettersS).map fun c => n ++ sgn c) ++ (TL.tl lettersS).map fun c => n ++ "q" ++ sgn c
theorem tl_len (z : Str) : (TL.tl z).length = z.length := by
  unfold TL.tl Str.length
  simp
theorem tl_sgn (c : Nat) : TL.tl (sgn c) = [c] := rfl
theorem tl_q : TL.tl ("q" : Str) = [113] := by decide +kernel
/-- more different things than places -/
theorem pigeons {α : Type} [BEq α] [LawfulBEq α] : ∀ (l D : List α), l.Nodup → (∀ x ∈ l, x ∈ D) → l.length ≤ D.length
  | [], _, _, _ => Nat.zero_le _
  | x :: l, D, hn, hs => by
    obtain ⟨h1, h2⟩ := List.nodup_cons.mp hn
    have hx : x ∈ D := hs x List.mem_cons_self
    have ih := pigeons l (D.erase x) h2 fun y hy => (List.mem_erase_of_ne (fun (e : y = x) => h1 (by rw [← e]; exact hy))).2 (hs y (List.mem_cons_of_mem _ hy))
    have e := List.length_erase_of_mem hx
    have hp : 0 < D.length := List.length_pos_of_mem hx
    rw [List.length_cons]
    omega
def codeOf (n : Nat) (z : Str) : Nat := if (TL.tl z).length = n then 0 else ((TL.tl z).length - n) * 1000 + (TL.tl z).getLast?.getD 0
theorem code_one (n : Str) (c : Nat) : codeOf (TL.tl n).length (n ++ sgn c) = 1000 + c := by
  unfold codeOf
  rw [TL.tl_append, tl_sgn, List.length_append]
  simp
theorem code_two (n : Str) (c : Nat) : codeOf (TL.tl n).length (n ++ "q" ++ sgn c) = 2000 + c := by
  unfold codeOf
  rw [TL.tl_append, TL.tl_append, tl_sgn, tl_q, List.length_append, List.length_append]
  generalize hL : (TL.tl n).length = L
  rw [if_neg (by simp only [List.length_cons, List.length_nil]; omega), List.getLast?_append]
  simp only [List.length_cons, List.length_nil, List.getLast?_singleton, Option.some_or, Option.getD_some]
  omega
theorem fresh_codes (n : Str) : (freshOf n).map (codeOf (TL.tl n).length) = 0 :: (((List.range 26).map fun i => 1097 + i) ++ (List.range 26).map fun i => 2097 + i) := by
  unfold freshOf
  rw [letters_tl, List.map_append, List.map_append, List.map_map, List.map_map, List.map_map, List.map_map]
  have h1 : (List.range 26).map ((codeOf (TL.tl n).length ∘ fun c => n ++ sgn c) ∘ fun x => 97 + x) = (List.range 26).map fun i => 1097 + i := List.map_congr_left fun i _ => by
    show codeOf (TL.tl n).length (n ++ sgn (97 + i)) = 1097 + i
    rw [code_one]
    omega
  have h2 : (List.range 26).map ((codeOf (TL.tl n).length ∘ fun c => n ++ "q" ++ sgn c) ∘ fun x => 97 + x) = (List.range 26).map fun i => 2097 + i := List.map_congr_left fun i _ => by
    show codeOf (TL.tl n).length (n ++ "q" ++ sgn (97 + i)) = 2097 + i
    rw [code_two]
    omega
  have h0 : [n].map (codeOf (TL.tl n).length) = [0] := by simp [codeOf]
  rw [h0, h1, h2]
  rfl
theorem fresh_nodup (n : Str) : (freshOf n).Nodup := by
  have h : ((freshOf n).map (codeOf (TL.tl n).length)).Nodup := by
    rw [fresh_codes]
    decide
  exact List.Pairwise.of_map (codeOf (TL.tl n).length) (fun a b z e => z (e ▸ rfl)) h
theorem fresh_len (n : Str) : (freshOf n).length = 53 := by
  have h := congrArg List.length (fresh_codes n)
  rw [List.length_map] at h
  rw [h]
  rfl
def okName (tk : List Str) (z : Str) : Bool := !decide (z ∈ barredL) && !decide (z ∈ tk)
theorem fresh_some (n : Str) (tk : List Str) (ht : tk.length ≤ 26) : (freshOf n).filter (okName tk) ≠ [] := by
  intro h
  have h2 : ∀ x ∈ freshOf n, x ∈ barredL ++ tk := fun x hx => by
    have q := List.filter_eq_nil_iff.mp h x hx
    unfold okName at q
    rw [List.mem_append]
    by_cases a : x ∈ barredL
    · exact .inl a
    · by_cases b : x ∈ tk
      · exact .inr b
      · exact absurd (by simp [a, b]) q
  have h3 := pigeons (freshOf n) (barredL ++ tk) (fresh_nodup n) h2
  rw [fresh_len, List.length_append] at h3
  have : barredL.length = 26 := rfl
  omega
theorem fresh_names {n : Str} {tk : List Str} (h1 : 1 ≤ (TL.tl n).length) (h6 : (TL.tl n).length ≤ 6) (hab : ∀ c ∈ TL.tl n, 97 ≤ c ∧ c ≤ 122) {z : Str} (hz : z ∈ (freshOf n).filter (okName tk)) : IsName z ∧ z ∉ tk := by
  obtain ⟨hm, ho⟩ := List.mem_filter.mp hz
  unfold okName at ho
  simp only [Bool.and_eq_true, Bool.not_eq_true', decide_eq_false_iff_not] at ho
  refine ⟨?_, ho.2⟩
  unfold freshOf at hm
  rw [List.mem_append, List.mem_append, List.mem_singleton, List.mem_map, List.mem_map] at hm
  have lt : ∀ c ∈ TL.tl lettersS, 97 ≤ c ∧ c ≤ 122 := by
    rw [letters_tl]
    intro c hc
    obtain ⟨i, hi, rfl⟩ := List.mem_map.mp hc
    have := List.mem_range.mp hi
    omega
  rcases hm with (e | ⟨c, hc, e⟩) | ⟨c, hc, e⟩
  · subst e
    exact ⟨h1, by omega, hab, ho.1⟩
  · have et : TL.tl z = TL.tl n ++ [c] := by rw [← e, TL.tl_append, tl_sgn]
    refine ⟨by rw [et, List.length_append]; simp, by rw [et, List.length_append]; simp only [List.length_cons, List.length_nil]; omega, fun d hd => ?_, ho.1⟩
    rw [et, List.mem_append, List.mem_singleton] at hd
    rcases hd with hd | rfl
    · exact hab d hd
    · exact lt d hc
  · have et : TL.tl z = TL.tl n ++ [113] ++ [c] := by rw [← e, TL.tl_append, TL.tl_append, tl_sgn, tl_q]
    refine ⟨by rw [et, List.length_append]; simp, by rw [et, List.length_append, List.length_append]; simp only [List.length_cons, List.length_nil]; omega, fun d hd => ?_, ho.1⟩
    rw [et, List.mem_append, List.mem_append, List.mem_singleton, List.mem_singleton] at hd
    rcases hd with (hd | rfl) | rfl
    · exact hab d hd
    · omega
    · exact lt d hc
/-- the texts of the letters joined -/
theorem join_sgns (cs : List Nat) : TL.tl (Txt.join ("" : Str) (cs.map sgn)) = cs := by
  rw [TL.join_eq, TL.tl_join]
  have e0 : TL.tl ("" : Str) = [] := by decide +kernel
  rw [e0]
  have : ∀ l : List Nat, TL.joinL [] ((l.map sgn).map TL.tl) = l := by
    intro l
    induction l with
    | nil => rfl
    | cons c r ih =>
      cases r with
      | nil => rfl
      | cons d r => 
        show [c] ++ ([] ++ TL.joinL [] (((d :: r).map sgn).map TL.tl)) = c :: d :: r
        rw [ih]
        rfl
  exact this cs
theorem eqV_str (y z : Str) : eqV (.str y) (.str z) = decide (y = z) := by
  first
    | rfl
    | simp [eqV]
theorem inV_strs (z : Str) (xs : List Str) : inV (.str z) (xs.map V.str) = decide (z ∈ xs) := by
  unfold inV
  rw [List.any_map, Bool.eq_iff_iff, List.any_eq_true, decide_eq_true_eq]
  constructor
  · rintro ⟨y, hy, e⟩
    have e2 : decide (y = z) = true := by rw [← eqV_str]; exact e
    rw [← of_decide_eq_true e2]
    exact hy
  · intro h
    exact ⟨z, h, by show eqV (.str z) (.str z) = true; rw [eqV_str]; simp⟩
theorem flat_strs (xs : List Str) : (xs.map V.str).all flatV = true := by
  rw [List.all_map, List.all_eq_true]
  intro x _
  rfl
/-- a comprehension's new item -/
theorem lc_leaf {H1 H H4 : Hp} {D : Addr} {acc : List V} {y : V} (hD : H1 D = none) (p : Ex H1 H ∧ H D = some (.lst acc)) (e : Ex H H4) (hl : acc.length < sizeLine) :
    ∃ acc', H4 D = some (.lst acc') ∧ acc'.length < sizeLine ∧ (Ex H1 (upd H4 D (.lst (acc' ++ [y]))) ∧ (upd H4 D (.lst (acc' ++ [y]))) D = some (.lst (acc ++ [y]))) :=
  ⟨acc, e D _ p.2, hl, Ex.put (Ex.trans p.1 e) hD, upd_same⟩
theorem ty_tup {K : PySem.W.Frag} {H : Hp} {a : Addr} {xs : List V} (h : SqT K H a xs) : TyX K H (.ref a) (.type "tuple") := by
  rcases h with h | ⟨o, its, n, e, c, _⟩
  · rcases h with h | ⟨o, h⟩
    · exact .base (.tup h)
    · exact .fTuple h
  · exact .kTuple e c
/-- a promise that is never asked -/
theorem fnOk_never {P : Program} {w : World} {K : PySem.W.Frag} {mg : Str → Option Value} {base : Heap} {CX : CXT} {f : Addr} {fd : FuncData} {ps : List Str} {k : Nat} : FnOk P w K mg base CX k f fd ps (fun _ _ _ _ => False) :=
  ⟨fun _ _ _ _ h => h.elim, fun _ _ _ _ _ _ _ _ _ _ _ _ _ h => h.elim⟩
theorem depth_mem {d : PyData} : ∀ {ds : List PyData}, d ∈ ds → d.depth ≤ PyData.depthAll ds
  | _ :: _, .head _ => by simp only [PyData.depthAll]; omega
  | _ :: _, .tail _ h => by
    have := depth_mem h
    simp only [PyData.depthAll]
    omega
theorem noLists_mem {d : PyData} : ∀ {ds : List PyData}, noLists ds = true → d ∈ ds → noList d = true
  | _ :: _, z, h => by
    obtain ⟨z1, z2⟩ := Bool.and_eq_true_iff.mp (show (noList _ && noLists _) = true from z)
    cases h with
    | head => exact z1
    | tail _ h => exact noLists_mem z2 h
theorem DpAll.length {K : PySem.W.Frag} {H : Hp} : ∀ {vs : List V} {ds : List PyData}, DpAll K H vs ds → vs.length = ds.length
  | _, _, .nil => rfl
  | _, _, .cons _ k => by rw [List.length_cons, List.length_cons, DpAll.length k]
theorem DpAll.get {K : PySem.W.Frag} {H : Hp} : ∀ {vs : List V} {ds : List PyData} {i : Nat} {d : PyData}, DpAll K H vs ds → ds[i]? = some d → ∃ v, vs[i]? = some v ∧ Dp K H v d
  | _, _, 0, _, .cons h _, e => by
    simp at e
    subst e
    exact ⟨_, rfl, h⟩
  | _, _, i + 1, d, .cons _ k, e => by
    obtain ⟨v, h1, h2⟩ := DpAll.get (i := i) (d := d) k (by simpa using e)
    exact ⟨v, by simpa using h1, h2⟩
/-- tuples and what is locked stand for good -/
def Keeps (H H' : Hp) : Prop := (∀ b xs, H b = some (.tup xs) → H' b = some (.tup xs)) ∧ ∀ b o u, H b = some (.frz o u) → H' b = some (.frz o u)
/-- behind any call -/
theorem FnOk.keeps {P : Program} {w : World} {K : PySem.W.Frag} {mg : Str → Option Value} {base : Heap} {CX : CXT} {k : Nat} {f : Addr} {fd : FuncData} {ps : List Str} {sp : Sp} (F : FnOk P w K mg base CX k f fd ps sp) :
    FnOk P w K mg base CX k f fd ps (fun vs H Q E => sp vs H (fun v H' => Keeps H H' → Q v H') E) :=
  ⟨fun vs H Q E h => F.len vs H _ E h, fun A outer s H args us vs Q E hr e0 hb hv h => codeAny_mono (F.run A outer s H args us vs (fun v H' => Keeps H H' → Q v H') E hr e0 hb hv h) fun r s' hq => by
    cases r with
    | error e => exact hq
    | ok fl =>
      cases fl with
      | ret u =>
        obtain ⟨v, H', os, bare, un, hok, rv, q⟩ := hq
        exact ⟨v, H', os, bare, un, hok, rv, q ⟨un.tups, un.frzs⟩⟩
      | next => exact hq
      | brk => exact hq
      | cont => exact hq⟩
/-- the script, which nobody changes -/
def Scr (K : PySem.W.Frag) (H : Hp) (a : Addr) (xs : List V) : Prop := (∃ o, H a = some (.frz o (.lst xs))) ∨ ∀ H', SqL K H' a xs
theorem Scr.sq {K : PySem.W.Frag} {H : Hp} {a : Addr} {xs : List V} (h : Scr K H a xs) : SqL K H a xs := by
  rcases h with ⟨o, h⟩ | h
  · exact .inl (.inr ⟨o, h⟩)
  · exact h H
theorem Scr.keep {K : PySem.W.Frag} {H H' : Hp} {a : Addr} {xs : List V} (h : Scr K H a xs) (k : Keeps H H') : Scr K H' a xs := by
  rcases h with ⟨o, h⟩ | h
  · exact .inl ⟨o, k.2 a o _ h⟩
  · exact .inr h
theorem Scr.of {K : PySem.W.Frag} {H : Hp} {a : Addr} {xs : List V} (hO : Only H) (h : SqL K H a xs) : Scr K H a xs := by
  rcases h with (h | ⟨o, h⟩) | h
  · rcases hO a with z | ⟨o, ys, z⟩
    · rw [h] at z; cases z
    · rw [h] at z; cases z
  · exact .inl ⟨o, h⟩
  · exact .inr fun _ => .inr h
end Fh
/-! Faults as plain data, and how they stand in the heap. -/
namespace Fh
open PySem PySem.Spec PyProof.Rows L2
/-! ### texts in order -/
def sLt (a b : Str) : Prop := TL.tl a < TL.tl b
instance (a b : Str) : Decidable (sLt a b) := inferInstanceAs (Decidable (TL.tl a < TL.tl b))
theorem tl_inj {a b : Str} (h : TL.tl a = TL.tl b) : a = b := by
  obtain ⟨x⟩ := a
  obtain ⟨y⟩ := b
  have h' : x.toList = y.toList := h
  have e : x = y := by
    rw [← Array.toArray_toList (xs := x), h']
  rw [e]
theorem sLt_irrefl (a : Str) : ¬ sLt a a := List.lt_irrefl _
theorem sLt_trans {a b c : Str} (h1 : sLt a b) (h2 : sLt b c) : sLt a c := List.lt_trans h1 h2
theorem sLt_tri {a b : Str} (h1 : ¬ sLt a b) (h2 : ¬ sLt b a) : a = b := tl_inj (List.le_antisymm (List.not_lt.mp h2) (List.not_lt.mp h1))
/-- put into its place, once -/
def insS (x : Str) : List Str → List Str
  | [] => [x]
  | y :: r => if sLt x y then x :: y :: r else if x = y then y :: r else y :: insS x r
/-- all of them once, ascending -/
def srt : List Str → List Str
  | [] => []
  | x :: r => insS x (srt r)
abbrev Asc (l : List Str) : Prop := l.Pairwise sLt
theorem mem_insS {x z : Str} : ∀ {l : List Str}, z ∈ insS x l ↔ z = x ∨ z ∈ l
  | [] => by simp [insS]
  | y :: r => by
    unfold insS
    split
    · simp
    · split
      · rename_i h
        subst h
        simp
      · rw [List.mem_cons, mem_insS (l := r), List.mem_cons]
        constructor
        · rintro (h | h | h)
          · exact .inr (.inl h)
          · exact .inl h
          · exact .inr (.inr h)
        · rintro (h | h | h)
          · exact .inr (.inl h)
          · exact .inl h
          · exact .inr (.inr h)
theorem asc_insS {x : Str} : ∀ {l : List Str}, Asc l → Asc (insS x l)
  | [], _ => by simp [insS, Asc]
  | y :: r, h => by
    obtain ⟨h1, h2⟩ := List.pairwise_cons.mp h
    unfold insS
    split
    · rename_i hx
      refine List.pairwise_cons.mpr ⟨fun z hz => ?_, h⟩
      rcases List.mem_cons.mp hz with e | e
      · rw [e]; exact hx
      · exact sLt_trans hx (h1 z e)
    · split
      · exact h
      · rename_i hn hne
        refine List.pairwise_cons.mpr ⟨fun z hz => ?_, asc_insS h2⟩
        rcases mem_insS.mp hz with e | e
        · rw [e]
          rcases Classical.em (sLt y x) with q | q
          · exact q
          · exact absurd (sLt_tri hn q) hne
        · exact h1 z e
theorem mem_srt {z : Str} : ∀ {l : List Str}, z ∈ srt l ↔ z ∈ l
  | [] => Iff.rfl
  | x :: r => by
    show z ∈ insS x (srt r) ↔ _
    rw [mem_insS, mem_srt (l := r), List.mem_cons]
theorem asc_srt : ∀ l : List Str, Asc (srt l)
  | [] => List.Pairwise.nil
  | x :: r => asc_insS (asc_srt r)
/-- two ascending lists with the same members are one -/
theorem asc_ext : ∀ {l m : List Str}, Asc l → Asc m → (∀ z, z ∈ l ↔ z ∈ m) → l = m
  | [], [], _, _, _ => rfl
  | [], y :: m, _, _, h => absurd ((h y).mpr List.mem_cons_self) List.not_mem_nil
  | x :: l, [], _, _, h => absurd ((h x).mp List.mem_cons_self) List.not_mem_nil
  | x :: l, y :: m, hl, hm, h => by
    obtain ⟨l1, l2⟩ := List.pairwise_cons.mp hl
    obtain ⟨m1, m2⟩ := List.pairwise_cons.mp hm
    have exy : x = y := by
      rcases List.mem_cons.mp ((h x).mp List.mem_cons_self) with e | e
      · exact e
      · rcases List.mem_cons.mp ((h y).mpr List.mem_cons_self) with e2 | e2
        · exact e2.symm
        · exact absurd (sLt_trans (m1 x e) (l1 y e2)) (sLt_irrefl _)
    subst exy
    have t : l = m := asc_ext l2 m2 fun z => by
      constructor
      · intro hz
        rcases List.mem_cons.mp ((h z).mp (List.mem_cons_of_mem _ hz)) with e | e
        · exact absurd (l1 z hz) (by rw [e]; exact sLt_irrefl _)
        · exact e
      · intro hz
        rcases List.mem_cons.mp ((h z).mpr (List.mem_cons_of_mem _ hz)) with e | e
        · exact absurd (m1 z hz) (by rw [e]; exact sLt_irrefl _)
        · exact e
    rw [t]
theorem rising_asc : ∀ {p : Str} {l : List Str}, risingS p l = true → (p :: l).Nodup → Asc (p :: l) ∧ ∀ q ∈ l, sLt p q
  | p, [], _, _ => ⟨List.pairwise_singleton _ _, fun q hq => by cases hq⟩
  | p, x :: r, h, nd => by
    obtain ⟨h1, h2⟩ := Bool.and_eq_true_iff.mp (show (!ltCps x.cps.toList p.cps.toList && risingS x r) = true from h)
    obtain ⟨n1, n2⟩ := List.nodup_cons.mp nd
    obtain ⟨a1, a2⟩ := rising_asc h2 n2
    have hpx : sLt p x := by
      rw [ltCps_eq] at h1
      rcases Classical.em (sLt p x) with q | q
      · exact q
      · have hn : ¬ sLt x p := fun z => by
          have : decide (x.cps.toList < p.cps.toList) = true := decide_eq_true z
          rw [this] at h1
          cases h1
        exact absurd (by rw [sLt_tri q hn]; exact List.mem_cons_self) n1
    have all : ∀ q ∈ x :: r, sLt p q := fun q hq => by
      rcases List.mem_cons.mp hq with e | e
      · rw [e]; exact hpx
      · exact sLt_trans hpx (a2 q e)
    exact ⟨List.pairwise_cons.mpr ⟨all, a1⟩, all⟩
theorem sorted_asc {l : List Str} (h : sortedS l = true) (nd : l.Nodup) : Asc l := by
  cases l with
  | nil => exact List.Pairwise.nil
  | cons p r => exact (rising_asc h nd).1
/-- what sorted(set(..)) gives -/
theorem sorted_is {l xs : List Str} (h : sortedS l = true) (nd : l.Nodup) (hm : ∀ k, k ∈ l ↔ decide (k ∈ xs) = true) : l = srt xs :=
  asc_ext (sorted_asc h nd) (asc_srt xs) fun z => by rw [hm z, decide_eq_true_eq, mem_srt]
theorem srt_nil : srt [] = [] := rfl
theorem srt_one (x : Str) : srt [x] = [x] := rfl
theorem len_insS (x : Str) : ∀ l : List Str, (insS x l).length ≤ l.length + 1
  | [] => by simp [insS]
  | y :: r => by
    unfold insS
    split
    · simp
    · split
      · simp
      · have := len_insS x r
        simp
        omega
theorem len_srt : ∀ l : List Str, (srt l).length ≤ l.length
  | [] => Nat.le_refl _
  | x :: r => by
    have h1 := len_insS x (srt r)
    have h2 := len_srt r
    show (insS x (srt r)).length ≤ r.length + 1
    omega
/-! ### faults -/
/-- the four parts of a fault -/
structure FM where
  row : List (Str × Int)
  counts : List Int
  layers : List Str
  core : List Str
  deriving DecidableEq
def FM.none : FM := ⟨[], [], [], []⟩
def FM.hap (w : Str) (n : Int) : FM := ⟨[(w, n)], [1], [], [w]⟩
def FM.wrap (w : Str) (m : FM) : FM := ⟨m.row, m.counts, w :: m.layers, m.core⟩
def FM.words (m : FM) : List Str := srt (m.core ++ m.layers)
def FM.inner (m : FM) : FM := if m.layers = [] then FM.none else ⟨m.row, m.counts, m.layers.drop 1, m.core⟩
def FM.truth (m : FM) : Bool := !m.layers.isEmpty || !m.core.isEmpty
def FM.hollow (m : FM) : Bool := !(m.layers ++ m.core).isEmpty && m.row.isEmpty
/-- sizes that the machine can bear -/
structure FM.Ok (m : FM) : Prop where
  row : m.row.length ≤ 1000
  counts : m.counts.length = m.row.length
  layers : m.layers.length ≤ 1000
  core : m.core.length ≤ 1000
  tRow : ∀ p ∈ m.row, PyData.strOk p.1 = true
  tLay : ∀ x ∈ m.layers, PyData.strOk x = true
  tCore : ∀ x ∈ m.core, PyData.strOk x = true
  rc : m.core = [] → m.row = []
theorem FM.hap_ok {z : Str} (n : Int) (hz : PyData.strOk z = true) : (FM.hap z n).Ok :=
  ⟨by show 1 ≤ 1000; decide, rfl, by show 0 ≤ 1000; decide, by show 1 ≤ 1000; decide, fun p hp => (by rw [List.mem_singleton.mp hp]; exact hz), fun x hx => (by cases hx), fun x hx => (by rw [List.mem_singleton.mp hx]; exact hz), fun h => (by cases h)⟩
theorem FM.none_ok : FM.none.Ok := ⟨by decide, rfl, by decide, by decide, fun p hp => (by cases hp), fun x hx => (by cases hx), fun x hx => (by cases hx), fun _ => rfl⟩
theorem IsName.strOk {z : Str} (h : IsName z) : PyData.strOk z = true := by
  unfold PyData.strOk
  rw [Array.all_eq_true_iff_forall_mem]
  intro c hc
  have := h.ab c (Array.mem_toList_iff.mpr hc)
  rw [decide_eq_true_eq]
  omega
def hapD (p : Str × Int) : PyData := .tuple [.str p.1, .int p.2]
def strD (x : Str) : PyData := .str x
def rowD (r : List (Str × Int)) : PyData := .tuple (r.map hapD)
def strsD (l : List Str) : PyData := .tuple (l.map PyData.str)
def intsD (l : List Int) : PyData := .tuple (l.map PyData.int)
/-- the four parts as a tuple -/
def FM.dat (m : FM) : PyData := .tuple [rowD m.row, intsD m.counts, strsD m.layers, strsD m.core]
section
variable {K : PySem.W.Frag} {H H' : Hp}
theorem dp_strs : ∀ {l : List Str}, DpAll K H (l.map V.str) (l.map PyData.str)
  | [] => .nil
  | x :: r => .cons (.str x) dp_strs
theorem dp_ints : ∀ {l : List Int}, DpAll K H (l.map V.int) (l.map PyData.int)
  | [] => .nil
  | x :: r => .cons (.int x) dp_ints
theorem strs_dp : ∀ {l : List Str} {vs : List V}, DpAll K H vs (l.map PyData.str) → vs = l.map V.str
  | [], _, .nil => rfl
  | x :: r, _, .cons (.str _) t => by rw [strs_dp t]; rfl
theorem ints_dp : ∀ {l : List Int} {vs : List V}, DpAll K H vs (l.map PyData.int) → vs = l.map V.int
  | [], _, .nil => rfl
  | x :: r, _, .cons (.int _) t => by rw [ints_dp t]; rfl
theorem Dp.strs {a : Addr} {l : List Str} (h : SqT K H a (l.map V.str)) : Dp K H (.ref a) (strsD l) := .tup h dp_strs
theorem Dp.ints {a : Addr} {l : List Int} (h : SqT K H a (l.map V.int)) : Dp K H (.ref a) (intsD l) := .tup h dp_ints
theorem sq_strs {v : V} {l : List Str} (h : Dp K H v (strsD l)) : ∃ a, v = .ref a ∧ SqT K H a (l.map V.str) := by
  cases h with
  | tup hs ha =>
    rw [strs_dp ha] at hs
    exact ⟨_, rfl, hs⟩
theorem sq_ints {v : V} {l : List Int} (h : Dp K H v (intsD l)) : ∃ a, v = .ref a ∧ SqT K H a (l.map V.int) := by
  cases h with
  | tup hs ha =>
    rw [ints_dp ha] at hs
    exact ⟨_, rfl, hs⟩
end
theorem noLists_strs : ∀ l : List Str, noLists (l.map PyData.str) = true
  | [] => rfl
  | x :: r => by
    show (noList (.str x) && noLists (r.map PyData.str)) = true
    rw [noLists_strs r]
    rfl
theorem noLists_ints : ∀ l : List Int, noLists (l.map PyData.int) = true
  | [] => rfl
  | x :: r => by
    show (noList (.int x) && noLists (r.map PyData.int)) = true
    rw [noLists_ints r]
    rfl
theorem noLists_row : ∀ l : List (Str × Int), noLists (l.map hapD) = true
  | [] => rfl
  | x :: r => by
    show (noList (hapD x) && noLists (r.map hapD)) = true
    rw [noLists_row r]
    rfl
theorem noList_strs {l : List Str} (h : l.length ≤ 100000) : noList (strsD l) = true := by
  show (decide ((l.map PyData.str).length ≤ 100000) && noLists (l.map PyData.str)) = true
  rw [noLists_strs, List.length_map, decide_eq_true h]
  rfl
theorem noList_ints {l : List Int} (h : l.length ≤ 100000) : noList (intsD l) = true := by
  show (decide ((l.map PyData.int).length ≤ 100000) && noLists (l.map PyData.int)) = true
  rw [noLists_ints, List.length_map, decide_eq_true h]
  rfl
theorem noList_row {l : List (Str × Int)} (h : l.length ≤ 100000) : noList (rowD l) = true := by
  show (decide ((l.map hapD).length ≤ 100000) && noLists (l.map hapD)) = true
  rw [noLists_row, List.length_map, decide_eq_true h]
  rfl
theorem FM.noList {m : FM} (ok : m.Ok) : Fh.noList m.dat = true := by
  have h1 := ok.row
  have h2 := ok.counts
  have h3 := ok.layers
  have h4 := ok.core
  show (decide (4 ≤ 100000) && (Fh.noList (rowD m.row) && (Fh.noList (intsD m.counts) && (Fh.noList (strsD m.layers) && (Fh.noList (strsD m.core) && true))))) = true
  rw [noList_row (by omega), noList_ints (by omega), noList_strs (by omega), noList_strs (by omega)]
  rfl
theorem depthAll_strs : ∀ l : List Str, PyData.depthAll (l.map PyData.str) = 0
  | [] => rfl
  | x :: r => by
    show max 0 (PyData.depthAll (r.map PyData.str)) = 0
    rw [depthAll_strs r]
    rfl
theorem depthAll_ints : ∀ l : List Int, PyData.depthAll (l.map PyData.int) = 0
  | [] => rfl
  | x :: r => by
    show max 0 (PyData.depthAll (r.map PyData.int)) = 0
    rw [depthAll_ints r]
    rfl
theorem depthAll_row : ∀ l : List (Str × Int), PyData.depthAll (l.map hapD) ≤ 1
  | [] => Nat.zero_le _
  | x :: r => by
    show max 1 (PyData.depthAll (r.map hapD)) ≤ 1
    have := depthAll_row r
    omega
theorem depth_strs (l : List Str) : (strsD l).depth = 1 := by
  show PyData.depthAll (l.map PyData.str) + 1 = 1
  rw [depthAll_strs]
theorem depth_ints (l : List Int) : (intsD l).depth = 1 := by
  show PyData.depthAll (l.map PyData.int) + 1 = 1
  rw [depthAll_ints]
theorem depth_row (l : List (Str × Int)) : (rowD l).depth ≤ 2 := by
  show PyData.depthAll (l.map hapD) + 1 ≤ 2
  have := depthAll_row l
  omega
theorem FM.depth (m : FM) : m.dat.depth ≤ 3 := by
  show max (rowD m.row).depth (max (intsD m.counts).depth (max (strsD m.layers).depth (max (strsD m.core).depth 0))) + 1 ≤ 3
  rw [depth_strs, depth_strs, depth_ints]
  have := depth_row m.row
  omega
/-! ### a fault in the heap -/
def flF (r c l o w : Addr) : List (Str × V) := [("row", .ref r), ("counts", .ref c), ("layers", .ref l), ("core", .ref o), ("words", .ref w)]
structure FaultAt (K : PySem.W.Frag) (C : Addr) (H : Hp) (p : Addr) (m : FM) (dx r c l o w : Addr) : Prop where
  ob : H p = some (.ins C dx (flF r c l o w))
  row : Dp K H (.ref r) (rowD m.row)
  counts : SqT K H c (m.counts.map V.int)
  layers : SqT K H l (m.layers.map V.str)
  core : SqT K H o (m.core.map V.str)
  words : SqT K H w (m.words.map V.str)
  ok : m.Ok
def Fault (K : PySem.W.Frag) (C : Addr) (H : Hp) (p : Addr) (m : FM) : Prop := ∃ dx r c l o w, FaultAt K C H p m dx r c l o w
theorem Fault.ext {K : PySem.W.Frag} {C : Addr} {H H' : Hp} {p : Addr} {m : FM} (e : Ex H H') (f : Fault K C H p m) : Fault K C H' p m :=
  let ⟨dx, r, c, l, o, w, z⟩ := f
  ⟨dx, r, c, l, o, w, ⟨e _ _ z.ob, Dp.ext e z.row, ex_t e z.counts, ex_t e z.layers, ex_t e z.core, ex_t e z.words, z.ok⟩⟩
theorem Fault.exb {K : PySem.W.Frag} {C : Addr} {H H' : Hp} {b p : Addr} {m : FM} (B : Bag H b) (e : ExB b H H') (f : Fault K C H p m) : Fault K C H' p m := by
  obtain ⟨dx, r, c, l, o, w, z⟩ := f
  have hne : p ≠ b := by
    obtain ⟨x0, x1, x2, hb, _⟩ := B
    exact ne_of z.ob hb (by intro q; cases q)
  have hrow : noList (rowD m.row) = true := noList_row (by have := z.ok.row; omega)
  exact ⟨dx, r, c, l, o, w, ⟨e _ _ hne z.ob, Dp.exb B.nt e hrow z.row, exb_t B.nt e z.counts, exb_t B.nt e z.layers, exb_t B.nt e z.core, exb_t B.nt e z.words, z.ok⟩⟩
theorem flF_row (r c l o w : Addr) : (flF r c l o w).lookup ("row" : Str) = some (.ref r) := by rfl
theorem flF_counts (r c l o w : Addr) : (flF r c l o w).lookup ("counts" : Str) = some (.ref c) := by rfl
theorem flF_layers (r c l o w : Addr) : (flF r c l o w).lookup ("layers" : Str) = some (.ref l) := by rfl
theorem flF_core (r c l o w : Addr) : (flF r c l o w).lookup ("core" : Str) = some (.ref o) := by rfl
theorem flF_words (r c l o w : Addr) : (flF r c l o w).lookup ("words" : Str) = some (.ref w) := by rfl
theorem flF_put (r c l o w : Addr) : putF "words" (.ref w) (putF "core" (.ref o) (putF "layers" (.ref l) (putF "counts" (.ref c) (putF "row" (.ref r) [])))) = flF r c l o w := by rfl
/-- tuple(a list | a tuple) -/
def rTupOf (K : PySem.W.Frag) : List V → Hp → VK → Prop := fun xs H Q => ∃ p ys, xs = [V.ref p] ∧ ((SqL K H p ys ∧ ∀ l, H l = Option.none → Q (V.ref l) (upd H l (.tup ys))) ∨ (SqT K H p ys ∧ Q (V.ref p) H))
theorem call_tupOf {X : Cx} : CallR X (.type "tuple") (rTupOf X.K) := call_tuple_of
theorem r_words0 {K : PySem.W.Frag} {w : World} {H : Hp} {a : Addr} {xs : List Str} {Q : VK} (hx : SqT K H a (xs.map V.str)) (hl : xs.length ≤ 3000)
    (k : ∀ t H3, Ex H H3 → H3 t = some (.tup ((srt xs).map V.str)) → Q (.ref t) H3) :
    rSetTx K w [.ref a] H (fun v H2 => rSortTx w [v] H2 fun v H3 => rTupOf K [v] H3 Q) := by
  refine ⟨a, xs, rfl, hx, ?_, fun s n hs hn => ?_⟩
  · have : scanBound = 4096 := by rfl
    omega
  refine ⟨s, _, n, rfl, upd_same, by rw [sizeLine_eq]; omega, fun ss p h1 h2 h3 h4 hp => ?_⟩
  have e := sorted_is h1 h2 h3
  subst e
  refine ⟨p, _, rfl, .inl ⟨SqL.of upd_same, fun t ht => ?_⟩⟩
  exact k t _ (Ex.trans (Ex.trans (Ex.new hs) (Ex.new hp)) (Ex.new ht)) upd_same
/-- tuple(sorted(set(x + y))) of two tuples of texts -/
theorem r_words {K : PySem.W.Frag} {w : World} {H : Hp} {a b : Addr} {xs ys : List Str} {Q : VK} (hx : SqT K H a (xs.map V.str)) (hy : SqT K H b (ys.map V.str)) (hl : xs.length + ys.length ≤ 3000)
    (k : ∀ t H3, Ex H H3 → H3 t = some (.tup ((srt (xs ++ ys)).map V.str)) → Q (.ref t) H3) :
    rCatA K (.ref a) (.ref b) H (fun v H1 => rSetTx K w [v] H1 fun v H2 => rSortTx w [v] H2 fun v H3 => rTupOf K [v] H3 Q) := by
  refine ⟨a, b, _, _, rfl, rfl, hx, hy, ?_, fun ex => ?_, fun ex ey => ?_, fun ex ey p hp => ?_⟩
  · rw [List.length_map, List.length_map, sizeLine_eq]
    omega
  · have ex : xs = [] := List.map_eq_nil_iff.mp ex
    subst ex
    exact r_words0 hy (by omega) k
  · have ey : ys = [] := List.map_eq_nil_iff.mp ey
    subst ey
    rw [List.append_nil] at k
    exact r_words0 hx (by omega) k
  · have e : SqT K (upd H p (.tup (xs.map V.str ++ ys.map V.str))) p ((xs ++ ys).map V.str) := by
      rw [List.map_append]
      exact .inl (.inl upd_same)
    exact r_words0 e (by rw [List.length_append]; omega) fun t H3 e3 h3 => k t H3 (Ex.trans (Ex.new hp) e3) h3
abbrev tWords (K : PySem.W.Frag) (w : World) (t : TE) : TE := tCB (rTupOf K) (tCons (tCB (rSortTx w) (tCons (tCB (rSetTx K w) (tCons t tNil)) tNil)) tNil)
theorem rd_words {K : PySem.W.Frag} {w : World} {H : Hp} {σ : L2.St} {ta tb : TE} {a b : Addr} {xs ys : List Str} {Q : VK} (hab : ∀ R : V → V → Hp → Prop, R (.ref a) (.ref b) H → ta σ H fun x H1 => tb σ H1 fun y H2 => R x y H2)
    (hx : SqT K H a (xs.map V.str)) (hy : SqT K H b (ys.map V.str)) (hl : xs.length + ys.length ≤ 3000)
    (k : ∀ t H3, Ex H H3 → H3 t = some (.tup ((srt (xs ++ ys)).map V.str)) → Q (.ref t) H3) : tWords K w (tOp (rCatA K) ta tb) σ H Q := hab _ (r_words (w := w) hx hy hl k)
/-- x in t, t a tuple of data -/
def rInDT (K : PySem.W.Frag) : R2 := fun x y H Q => ∃ d ds, Dp K H x d ∧ Dp K H y (.tuple ds) ∧ SeqAt.shaped d = true ∧ SeqAt.shaped (.tuple ds) = true ∧ Q (.bl (ds.any fun z => PyData.eqv z d)) H
theorem op_inDT {X : Cx} (hu : X.A.units + 65 < cLine) : OpR X (compareOp .In) (rInDT X.K) := by
  intro pins s σ H x y v u Q I rx ry h
  obtain ⟨d, ds, hd, he, sd, se, q⟩ := h
  obtain ⟨as, r1⟩ := Dp.reads I d x v hd rx
  obtain ⟨bs, r2⟩ := Dp.reads I (.tuple ds) y u he ry
  exact SeqAt.in_tuple_reads r2 r1 (SeqAt.canLay_of_shaped se) (SeqAt.canLay_of_shaped sd) (room_in_shaped sd hu) ⟨.bl _, H, I, rfl, q⟩
def rNotInDT (K : PySem.W.Frag) : R2 := fun x y H Q => ∃ d ds, Dp K H x d ∧ Dp K H y (.tuple ds) ∧ SeqAt.shaped d = true ∧ SeqAt.shaped (.tuple ds) = true ∧ Q (.bl (!ds.any fun z => PyData.eqv z d)) H
theorem op_notInDT {X : Cx} (hu : X.A.units + 65 < cLine) : OpR X (compareOp .NotIn) (rNotInDT X.K) := by
  intro pins s σ H x y v u Q I rx ry h
  obtain ⟨d, ds, hd, he, sd, se, q⟩ := h
  obtain ⟨as, r1⟩ := Dp.reads I d x v hd rx
  obtain ⟨bs, r2⟩ := Dp.reads I (.tuple ds) y u he ry
  exact SeqAt.notIn_tuple_reads r2 r1 (SeqAt.canLay_of_shaped se) (SeqAt.canLay_of_shaped sd) (room_in_shaped sd hu) ⟨.bl _, H, I, rfl, q⟩
theorem units65 {k : Nat} {A : Around} (r : Room (k + 1) A) : A.units + 65 < cLine := by
  have := r.un
  omega
theorem canLay_mem {d : PyData} : ∀ {ds : List PyData}, PyData.canLayAll0 ds = true → d ∈ ds → d.canLay0 = true
  | _ :: _, z, h => by
    obtain ⟨z1, z2⟩ := Bool.and_eq_true_iff.mp (show (PyData.canLay0 _ && PyData.canLayAll0 _) = true from z)
    cases h with
    | head => exact z1
    | tail _ h => exact canLay_mem z2 h
theorem shaped_mem {d : PyData} {ds : List PyData} (h : SeqAt.shaped (.tuple ds) = true) (hm : d ∈ ds) : SeqAt.shaped d = true := by
  have h1 : PyData.canLayAll0 ds = true := SeqAt.canLay_of_shaped h
  have h2 : PyData.depthAll ds + 1 ≤ 64 := SeqAt.depth_of_shaped h
  have h3 := depth_mem hm
  show (d.canLay0 && decide (d.depth ≤ 64)) = true
  rw [canLay_mem h1 hm, decide_eq_true (by omega)]
  rfl
/-- is the thing, a word or a happening, in it -/
def FM.has (m : FM) (d : PyData) : Bool := (m.words.map PyData.str).any (fun z => PyData.eqv z d) || (m.row.map hapD).any (fun z => PyData.eqv z d)
/-- how often it tells of a thing -/
def toldIn (d : PyData) : List (Str × Int) → List Int → Int
  | p :: r, n :: ns => if PyData.eqv (hapD p) d = true then n else toldIn d r ns
  | _, _ => 0
/-! ### equality of data -/
theorem eqv_strs : ∀ a b : List Str, PyData.eqvAll (a.map PyData.str) (b.map PyData.str) = decide (a = b)
  | [], [] => rfl
  | [], y :: b => rfl
  | x :: a, [] => rfl
  | x :: a, y :: b => by
    show ((x == y) && PyData.eqvAll (a.map PyData.str) (b.map PyData.str)) = _
    rw [eqv_strs a b, Bool.eq_iff_iff]
    simp only [Bool.and_eq_true, beq_iff_eq, decide_eq_true_eq, List.cons.injEq]
theorem eqv_ints : ∀ a b : List Int, PyData.eqvAll (a.map PyData.int) (b.map PyData.int) = decide (a = b)
  | [], [] => rfl
  | [], y :: b => rfl
  | x :: a, [] => rfl
  | x :: a, y :: b => by
    show ((x == y) && PyData.eqvAll (a.map PyData.int) (b.map PyData.int)) = _
    rw [eqv_ints a b, Bool.eq_iff_iff]
    simp only [Bool.and_eq_true, beq_iff_eq, decide_eq_true_eq, List.cons.injEq]
theorem eqv_hap (p q : Str × Int) : PyData.eqv (hapD p) (hapD q) = decide (p = q) := by
  obtain ⟨a, b⟩ := p
  obtain ⟨c, d⟩ := q
  show ((a == c) && ((b == d) && true)) = _
  rw [Bool.eq_iff_iff]
  simp only [Bool.and_eq_true, Bool.and_true, beq_iff_eq, decide_eq_true_eq, Prod.mk.injEq]
theorem eqv_row : ∀ a b : List (Str × Int), PyData.eqvAll (a.map hapD) (b.map hapD) = decide (a = b)
  | [], [] => rfl
  | [], y :: b => rfl
  | x :: a, [] => rfl
  | x :: a, y :: b => by
    show (PyData.eqv (hapD x) (hapD y) && PyData.eqvAll (a.map hapD) (b.map hapD)) = _
    rw [eqv_row a b, eqv_hap, Bool.eq_iff_iff]
    simp only [Bool.and_eq_true, decide_eq_true_eq, List.cons.injEq]
theorem FM.eqv (m n : FM) : PyData.eqv m.dat n.dat = decide (m = n) := by
  show (PyData.eqvAll (m.row.map hapD) (n.row.map hapD) && (PyData.eqvAll (m.counts.map PyData.int) (n.counts.map PyData.int) && (PyData.eqvAll (m.layers.map PyData.str) (n.layers.map PyData.str) && (PyData.eqvAll (m.core.map PyData.str) (n.core.map PyData.str) && true)))) = _
  rw [eqv_row, eqv_ints, eqv_strs, eqv_strs, Bool.eq_iff_iff]
  obtain ⟨a, b, c, d⟩ := m
  obtain ⟨a', b', c', d'⟩ := n
  simp only [Bool.and_eq_true, Bool.and_true, decide_eq_true_eq, FM.mk.injEq]
theorem canLay_strs : ∀ {l : List Str}, (∀ x ∈ l, PyData.strOk x = true) → PyData.canLayAll0 (l.map PyData.str) = true
  | [], _ => rfl
  | x :: r, h => by
    show (PyData.strOk x && PyData.canLayAll0 (r.map PyData.str)) = true
    rw [h x List.mem_cons_self, canLay_strs fun y hy => h y (List.mem_cons_of_mem _ hy)]
    rfl
theorem canLay_ints : ∀ l : List Int, PyData.canLayAll0 (l.map PyData.int) = true
  | [] => rfl
  | x :: r => by
    show (true && PyData.canLayAll0 (r.map PyData.int)) = true
    rw [canLay_ints r]
    rfl
theorem canLay_row : ∀ {l : List (Str × Int)}, (∀ p ∈ l, PyData.strOk p.1 = true) → PyData.canLayAll0 (l.map hapD) = true
  | [], _ => rfl
  | x :: r, h => by
    show ((PyData.strOk x.1 && (true && true)) && PyData.canLayAll0 (r.map hapD)) = true
    rw [h x List.mem_cons_self, canLay_row fun y hy => h y (List.mem_cons_of_mem _ hy)]
    rfl
theorem shaped_strs {l : List Str} (h : ∀ x ∈ l, PyData.strOk x = true) : SeqAt.shaped (strsD l) = true := by
  show (PyData.canLayAll0 (l.map PyData.str) && decide ((strsD l).depth ≤ 64)) = true
  rw [canLay_strs h, depth_strs]
  rfl
theorem shaped_row {l : List (Str × Int)} (h : ∀ p ∈ l, PyData.strOk p.1 = true) : SeqAt.shaped (rowD l) = true := by
  have := depth_row l
  show (PyData.canLayAll0 (l.map hapD) && decide ((rowD l).depth ≤ 64)) = true
  rw [canLay_row h, decide_eq_true (by omega)]
  rfl
theorem FM.shaped {m : FM} (ok : m.Ok) : SeqAt.shaped m.dat = true := by
  have := m.depth
  show ((PyData.canLayAll0 (m.row.map hapD) && (PyData.canLayAll0 (m.counts.map PyData.int) && (PyData.canLayAll0 (m.layers.map PyData.str) && (PyData.canLayAll0 (m.core.map PyData.str) && true)))) && decide (m.dat.depth ≤ 64)) = true
  rw [canLay_row ok.tRow, canLay_ints, canLay_strs ok.tLay, canLay_strs ok.tCore, decide_eq_true (by omega)]
  rfl
theorem FM.words_ok {m : FM} (ok : m.Ok) : ∀ x ∈ m.words, PyData.strOk x = true := fun x hx => by
  have hx := mem_srt.mp hx
  rcases List.mem_append.mp hx with h | h
  · exact ok.tCore x h
  · exact ok.tLay x h
theorem srt_comm (a b : List Str) : srt (a ++ b) = srt (b ++ a) := asc_ext (asc_srt _) (asc_srt _) fun z => by
  rw [mem_srt, mem_srt, List.mem_append, List.mem_append, Or.comm]
theorem FM.truth_eq {m : FM} (ok : m.Ok) : m.truth = !decide (m = FM.none) := by
  unfold FM.truth
  rw [Bool.eq_iff_iff]
  simp only [Bool.or_eq_true, Bool.not_eq_true', List.isEmpty_eq_false_iff, decide_eq_false_iff_not]
  constructor
  · rintro (h | h) e
    · exact h (by rw [e]; rfl)
    · exact h (by rw [e]; rfl)
  · intro h
    by_cases h1 : m.layers = []
    · by_cases h2 : m.core = []
      · have h3 := ok.rc h2
        have h4 : m.counts = [] := List.length_eq_zero_iff.mp (by rw [ok.counts, h3]; rfl)
        exact absurd (by obtain ⟨a, b, c, d⟩ := m; simp only at h1 h2 h3 h4; subst h1 h2 h3 h4; rfl) h
      · exact .inr h2
    · exact .inl h1
theorem FM.hollow_eq {m : FM} (ok : m.Ok) : m.hollow = (!decide (m = FM.none) && decide (m.row = [])) := by
  unfold FM.hollow
  by_cases hr : m.row = []
  · have e : m.row.isEmpty = true := by rw [hr]; rfl
    rw [e, decide_eq_true hr, Bool.and_true, Bool.and_true, ← FM.truth_eq ok]
    unfold FM.truth
    cases m.layers <;> cases m.core <;> rfl
  · have e : m.row.isEmpty = false := by
      cases q : m.row with
      | nil => exact absurd q hr
      | cons => rfl
    rw [e, decide_eq_false hr, Bool.and_false, Bool.and_false]
end Fh
/-! == and != by an own __eq__. -/
namespace Fh
open PySem PySem.Spec PyProof.Rows L2 PySem.W
theorem ne_slot : Slot "object" "__ne__" "object.__ne__" :=
  .of (owner := "object") (n := "__ne__") (by rw [typeLookup_type, builtinLookup_eq_fast]; kernel_rfl) (by decide +kernel) (by decide +kernel) (by decide +kernel) (.inl (by decide +kernel)) (by rw [isSubtype_type]; kernel_rfl)
section
variable {prog : Program} {w : World} {A : Around} {E : Value → Shared → Prop} {s : Shared} {K : Frag} {x C f : Addr} {ox : Obj} {od : Option Obj} {b tb : Value}
theorem ifBound_ne {M : Model} {args : List Value} {Q : Option Value → Shared → Prop} (X : K.In s.heap) (I : InstAt s.heap x ox C od) (hs : findIn K (.ref C) "__ne__" = some (some (.builtin "object.__ne__")))
    (h : wpAny M A (call (.builtin "object.__ne__") (.ref x :: args)) (fun v => Q (some v)) E s) : wpAny M A (callSpecialIfBound? (.ref x) "__ne__" args) Q E s := by
  simp only [callSpecialIfBound?, bindSpecialIfBound?]
  refine wpAny_holding (wpAny_bind (wpAny_bind (wpAny_bind (I.type.here ((looks_findIn X hs).here ?_)))))
  simp only [ne_slot.bind]
  refine wpAny_bind (wpAny_askSetting (wpAny_ite ?_))
  have fin : wpAny M A (call (.builtin "object.__ne__") ([.ref x] ++ args) >>= fun v => pure (some v)) Q E s := wpAny_bind (wpAny_mono h (fun v s' h' => wpAny_pure h') fun _ _ h' => h')
  split
  · exact wpAny_bind (wpAny_pure (wpAny_pure fin))
  · exact wpAny_tryCatch (wpAny_bind (wpAny_pure (wpAny_pure fin)))
theorem check_ne {M : Model} {Q : Unit → Shared → Prop} (X : K.In s.heap) (I : InstAt s.heap x ox C od) (hO : mroIn K C (.type "object") = some true) (hq : Q () s) : wpAny M A (checkBuiltinCall "object.__ne__" ⟨[.ref x, b], []⟩) Q E s := by
  have L1 := looks_mroIn (M := M) X hO
  simp only [checkBuiltinCall, F.cmpKind_ne, F.cmpSplit_ne]
  unfold isInstance
  refine wpAny_bind (m := typeOf (.ref x) >>= fun t => isSubtype t (.type "object")) (wpAny_bind (I.type.here (L1.here ?_)))
  simp only [Bool.not_true, Bool.false_eq_true, if_false]
  have ha := F.cmpArgs_ne (.ref x) b
  cases hsig : Manifest.signature? "object.__ne__" with
  | none => exact wpAny_pure hq
  | some sig =>
    simp only [argsOk, hsig] at ha
    have h2 : Bind.checkArgs "object.__ne__" sig ⟨[.ref x, b], []⟩ = pure () := ha
    show wpAny M A (Bind.checkArgs "object.__ne__" sig ⟨[.ref x, b], []⟩) Q E _
    rw [h2]
    exact wpAny_pure hq
/-- what comes of an own ==: a truth value -/
theorem ne_body {Q : Fin → Shared → Prop} (X : K.In s.heap) (I : InstAt s.heap x ox C od) (hs : findIn K (.ref C) "__eq__" = some (some (.ref f))) (hf : isFn K (.ref f) = true) (hu : A.units < cLine)
    (h : wpAny (model prog w) A (call (.ref f) [.ref x, b]) (fun v s' => ∃ c, v = .bool c ∧ Q (.done (.ret (.bool (!c)))) s') E s) : wpAny (model prog w) A (Builtin.«object.__ne__» ⟨[.ref x, b], []⟩) Q E s := by
  unfold Builtin.«object.__ne__»
  refine wpAny_bind (m := slotArgs "__ne__" 1 ⟨[.ref x, b], []⟩) ?_
  rw [show slotArgs "__ne__" 1 ⟨[.ref x, b], []⟩ = pure (Value.ref x, [b]) from rfl]
  refine wpAny_pure ?_
  refine wpAny_bind (wpAny_cRoomFor hu ?_)
  refine wpAny_bind (m := callSpecialIfBound? (.ref x) (Str.ofString "__eq__") [b]) (ifBound_K X I hs hf (wpAny_mono h (fun v s' hv => ?_) fun _ _ e => e))
  obtain ⟨c, rfl, hq⟩ := hv
  refine wpAny_bind (m := truthy (.bool c)) (wpAny_truthy_bool ?_)
  exact wpAny_pure hq
theorem ne_own {Q : Value → Shared → Prop} (hu : A.units + 1 < cLine) (X : K.In s.heap) (I : InstAt s.heap x ox C od) (hb : Looks (model prog w) s.heap (typeOf b) tb) (hn : notFirst K C tb = true) (hO : mroIn K C (.type "object") = some true)
    (hN : findIn K (.ref C) "__ne__" = some (some (.builtin "object.__ne__"))) (hs : findIn K (.ref C) "__eq__" = some (some (.ref f))) (hf : isFn K (.ref f) = true)
    (h : wpAny (model prog w) A.in1 (call (.ref f) [.ref x, b]) (fun v s' => ∃ c, v = .bool c ∧ Q (.bool (!c)) s') E s) : wpAny (model prog w) A (richCompare .NotEq (.ref x) b) Q E s := by
  have one : wpAny (model prog w) A (tryCompare (.ref x) "__ne__" b) (fun r s' => ∃ v, r = some v ∧ Q v s') E s := by
    unfold tryCompare
    refine wpAny_bind (ifBound_ne X I hN (wpAny_call (codeAny_call_builtin ne_slot.plain F.cmpEntry_ne (check_ne X I hO (ne_body (A := A.in1) X I hs hf hu (wpAny_mono h (fun v s' hv => ?_) fun _ _ e => e))))))
    obtain ⟨c, rfl, hq⟩ := hv
    exact ⟨c, rfl, wpAny_pure ⟨_, rfl, hq⟩⟩
  unfold richCompare
  simp only [oneThing_ref]
  refine wpAny_holding (wpAny_bind (wpAny_cRoomFor (by omega) ?_))
  refine wpAny_bind (I.type.here (wpAny_bind (hb.here ?_)))
  split
  · rename_i q
    have e : subIn K tb (.ref C) = some false := by
      rcases Bool.or_eq_true_iff.mp hn with e | e
      · rw [beq_iff_eq.mp e] at q; simp at q
      · exact beq_iff_eq.mp e
    refine wpAny_bind ((looks_subIn X e).here ?_)
    simp only [Bool.false_eq_true, if_false]
    refine wpAny_bind (m := tryCompare (.ref x) _ b) (wpAny_mono one (fun r s' z => ?_) fun _ _ e => e)
    obtain ⟨v, rfl, hq⟩ := z
    exact wpAny_pure hq
  · refine wpAny_bind (wpAny_pure ?_)
    simp only [Bool.false_eq_true, if_false]
    refine wpAny_bind (m := tryCompare (.ref x) _ b) (wpAny_mono one (fun r s' z => ?_) fun _ _ e => e)
    obtain ⟨v, rfl, hq⟩ := z
    exact wpAny_pure hq
theorem eq_own {Q : Value → Shared → Prop} (hu : A.units < cLine) (X : K.In s.heap) (I : InstAt s.heap x ox C od) (hb : Looks (model prog w) s.heap (typeOf b) tb) (hn : notFirst K C tb = true)
    (hs : findIn K (.ref C) "__eq__" = some (some (.ref f))) (hf : isFn K (.ref f) = true)
    (h : wpAny (model prog w) A (call (.ref f) [.ref x, b]) (fun v s' => ∃ c, v = .bool c ∧ Q (.bool c) s') E s) : wpAny (model prog w) A (richCompare .Eq (.ref x) b) Q E s := by
  have one : wpAny (model prog w) A (tryCompare (.ref x) "__eq__" b) (fun r s' => ∃ v, r = some v ∧ Q v s') E s := by
    unfold tryCompare
    refine wpAny_bind (ifBound_K X I hs hf (wpAny_mono h (fun v s' hv => ?_) fun _ _ e => e))
    obtain ⟨c, rfl, hq⟩ := hv
    exact wpAny_pure ⟨_, rfl, hq⟩
  unfold richCompare
  simp only [oneThing_ref]
  refine wpAny_holding (wpAny_bind (wpAny_cRoomFor hu ?_))
  refine wpAny_bind (I.type.here (wpAny_bind (hb.here ?_)))
  split
  · rename_i q
    have e : subIn K tb (.ref C) = some false := by
      rcases Bool.or_eq_true_iff.mp hn with e | e
      · rw [beq_iff_eq.mp e] at q; simp at q
      · exact beq_iff_eq.mp e
    refine wpAny_bind ((looks_subIn X e).here ?_)
    simp only [Bool.false_eq_true, if_false]
    refine wpAny_bind (m := tryCompare (.ref x) _ b) (wpAny_mono one (fun r s' z => ?_) fun _ _ e => e)
    obtain ⟨v, rfl, hq⟩ := z
    exact wpAny_pure hq
  · refine wpAny_bind (wpAny_pure ?_)
    simp only [Bool.false_eq_true, if_false]
    refine wpAny_bind (m := tryCompare (.ref x) _ b) (wpAny_mono one (fun r s' z => ?_) fun _ _ e => e)
    obtain ⟨v, rfl, hq⟩ := z
    exact wpAny_pure hq
end
section
variable {X : Cx} {CX : CXT} {k : Nat} {f C : Addr} {fd : FuncData} {ps : List Str} {sp : Sp} {E : XK}
/-- x == y, x != y of two instances of C, whose own == gives a truth value -/
def rOwn (C : Addr) (sp : Sp) (E : XK) (g : Bool → Bool) : R2 := fun x y H Q => ∃ a b dx fs dy gs, x = .ref a ∧ y = .ref b ∧ H a = some (.ins C dx fs) ∧ H b = some (.ins C dy gs) ∧ sp [x, y] H (fun r H' => ∃ c, r = .bl c ∧ Q (.bl (g c)) H') E
theorem op_eqO (hm : Meth X.K C "__eq__" f) (F : FnOk X.prog X.w X.K X.mg X.base CX k f fd ps sp) (hr : Room k X.A) (hb : Binds X.K fd ps []) (hx : Passes CX X E) : OpR X (compareOp .Eq) (rOwn C sp E id) := by
  intro pins s σ H x y v u Q I rx ry h
  obtain ⟨a, b, dx, fs, dy, gs, rfl, rfl, ea, eb, q⟩ := h
  obtain rfl : v = Value.ref a := rx
  obtain rfl : u = Value.ref b := ry
  obtain ⟨od, J⟩ := inst_at I ea
  obtain ⟨od2, J2⟩ := inst_at I eb
  refine eq_own hr.units0 I.kIn J J2.type (by simp [notFirst]) hm.at_ hm.fn (wpAny_mono (run_fn (us := [.ref a, .ref b]) (vs := [.ref a, .ref b]) F hr hb .nil hx I (.cons rfl (.cons rfl .nil)) q) (fun r s' hq => ?_) fun _ _ z => z)
  obtain ⟨r0, H', I', rv, c, e, hR⟩ := hq
  subst e
  obtain rfl : r = Value.bool c := rv
  exact ⟨c, rfl, .bl c, H', I', rfl, hR⟩
theorem op_neO (hm : Meth X.K C "__eq__" f) (hN : findIn X.K (.ref C) "__ne__" = some (some (.builtin "object.__ne__"))) (hO : mroIn X.K C (.type "object") = some true) (F : FnOk X.prog X.w X.K X.mg X.base CX k f fd ps sp) (hr : Room (k + 1) X.A) (hb : Binds X.K fd ps []) (hx : Passes CX X E) : OpR X (compareOp .NotEq) (rOwn C sp E (!·)) := by
  intro pins s σ H x y v u Q I rx ry h
  obtain ⟨a, b, dx, fs, dy, gs, rfl, rfl, ea, eb, q⟩ := h
  obtain rfl : v = Value.ref a := rx
  obtain rfl : u = Value.ref b := ry
  obtain ⟨od, J⟩ := inst_at I ea
  obtain ⟨od2, J2⟩ := inst_at I eb
  refine ne_own (by have := hr.un; omega) I.kIn J J2.type (by simp [notFirst]) hO hN hm.at_ hm.fn (wpAny_mono (run_in (A := X.A.in1) (us := [.ref a, .ref b]) (vs := [.ref a, .ref b]) F hr.in1 (fun z => z.in1) hb hx I (.cons rfl (.cons rfl .nil)) q) (fun r s' hq => ?_) fun _ _ z => z)
  obtain ⟨r0, H', I', rv, c, e, hR⟩ := hq
  subst e
  obtain rfl : r = Value.bool c := rv
  exact ⟨c, rfl, .bl (!c), H', I', rfl, hR⟩
end
end Fh
set_option autoImplicit false
/-! Expressions and their mirrors. -/
namespace Mi
open PySem PySem.Spec L2
section
variable {K : Fw} {μ μ' : Wd} {H H' : Hp} {M M' : Mem}
theorem RC.le (r : RM K μ H M) (l : Le μ H μ' H') {a : Addr} {c : Cell} (h : RC K μ H a c) (e : H' a = H a) : RC K μ' H' a c := h.go (go_lq r l.lq) e
theorem Le.new {p : Addr} {o : HO} (h : H p = none) : Le μ H μ (upd H p o) :=
  ⟨⟨[], by simp, by simp⟩, rfl, fun a u e => ⟨u, by rw [upd_ne (ne_of_none e h)]; exact e⟩, fun a u e _ => by rw [upd_ne (ne_of_none e h)]; exact e⟩
/-- one more cell -/
def Wd.push (μ : Wd) (p : Addr) : Wd := ⟨μ.c ++ [p], μ.h⟩
theorem Le.newc {p : Addr} {o : HO} (h : H p = none) : Le μ H (μ.push p) (upd H p o) :=
  ⟨⟨[p], rfl, fun a ha => by rw [List.mem_singleton.mp ha]; exact h⟩, rfl, (Le.new (μ := μ) h).dom, (Le.new h).fr⟩
theorem RM.new (r : RM K μ H M) {p : Addr} {o : HO} (h : H p = none) : RM K μ (upd H p o) M :=
  ⟨r.len, r.nd, fun a ha => ⟨by
    obtain ⟨⟨vs, e⟩, _⟩ := r.hid a ha
    exact ⟨vs, by rw [upd_ne (ne_of_none e h)]; exact e⟩, (r.hid a ha).2⟩, fun n a c e1 e2 => by
    have rc := r.cell n a c e1 e2
    obtain ⟨u, hu⟩ := rc.some
    exact rc.le r (Le.new h) (upd_ne (ne_of_none hu h))⟩
theorem RM.newc (r : RM K μ H M) {p : Addr} {o : HO} {c : Cell} (h : H p = none) (rc : RC K (μ.push p) (upd H p o) p c) : RM K (μ.push p) (upd H p o) (M ++ [c]) :=
  ⟨by show (μ.c ++ [p]).length = _; rw [List.length_append, List.length_append, r.len]; rfl, List.nodup_append.mpr ⟨r.nd, List.pairwise_singleton _ _, fun a ha b hb => by
      rw [List.mem_singleton.mp hb]
      exact fun e => r.fresh h (e ▸ ha)⟩, fun a ha => by
    obtain ⟨⟨vs, e⟩, n⟩ := r.hid a ha
    have hne := ne_of_none e h
    refine ⟨⟨vs, by rw [upd_ne hne]; exact e⟩, fun hm => ?_⟩
    rcases List.mem_append.mp hm with q | q
    · exact n q
    · exact hne (List.mem_singleton.mp q), fun n a c' e1 e2 => by
    replace e1 : (μ.c ++ [p])[n]? = some a := e1
    by_cases hn : n < μ.c.length
    · rw [List.getElem?_append_left hn] at e1
      rw [List.getElem?_append_left (by rw [← r.len]; exact hn)] at e2
      have rc := r.cell n a c' e1 e2
      obtain ⟨u, hu⟩ := rc.some
      exact rc.le r (Le.newc h) (upd_ne (ne_of_none hu h))
    · rw [List.getElem?_append_right (by omega)] at e1
      rw [List.getElem?_append_right (by rw [← r.len]; omega)] at e2
      cases q : n - μ.c.length with
      | zero =>
        rw [q] at e1
        rw [← r.len, q] at e2
        cases e1
        cases e2
        exact rc
      | succ k => rw [q] at e1; cases e1⟩
theorem Le.put {a : Addr} {o : HO} (h : a ∈ μ.c) : Le μ H μ (upd H a o) :=
  ⟨⟨[], by simp, by simp⟩, rfl, fun b u e => by
    by_cases q : b = a
    · rw [q]; exact ⟨o, upd_same⟩
    · exact ⟨u, by rw [upd_ne q]; exact e⟩, fun b u e n => by rw [upd_ne (show b ≠ a from fun q => n (by rw [q]; exact h))]; exact e⟩
theorem RM.put (r : RM K μ H M) {n : Nat} {a : Addr} {o : HO} {c : Cell} (h : μ.c[n]? = some a) (rc : RC K μ (upd H a o) a c) : RM K μ (upd H a o) (M.set n c) :=
  ⟨by rw [List.length_set]; exact r.len, r.nd, fun b hb => by
    obtain ⟨⟨vs, e⟩, n⟩ := r.hid b hb
    exact ⟨⟨vs, by rw [upd_ne (show b ≠ a from fun z => n (by rw [z]; exact List.mem_of_getElem? h))]; exact e⟩, n⟩, fun m b c' e1 e2 => by
    by_cases q : n = m
    · subst q
      rw [h] at e1
      cases e1
      rw [List.getElem?_set, if_pos rfl] at e2
      split at e2
      · cases e2; exact rc
      · cases e2
    · rw [List.getElem?_set, if_neg q] at e2
      have hb : b ≠ a := fun z => by
        subst z
        exact q ((List.getElem?_inj (List.getElem?_eq_some_iff.mp h).1 r.nd).mp (h.trans e1.symm))
      exact (r.cell m b c' e1 e2).le r (Le.put (List.mem_of_getElem? h)) (upd_ne hb)⟩
end
/-! ### the judgements -/
abbrev RVq (K : Fw) : Wd → Hp → V → D → Prop := fun μ H => RV K μ H
abbrev OutE (K : Fw) (E : XK) (μ : Wd) (H : Hp) (r : Res D) (Q : VK) : Prop := Out (RVq K) K E μ H r Q
def MV (X : Cx) (E : XK) (e : Expr) (v : Ev) : Prop := PE X e (trE X.kx E v)
def MT (X : Cx) (E : XK) (e : Expr) (v : EvT) : Prop := PT X e (trT X.kx E v)
def MW (X : Cx) (E : XK) (e : Expr) (v : EvT) : Prop := PW X e (trT X.kx E v)
def MA (X : Cx) (E : XK) (es : List Expr) (v : EvA) : Prop := PA X es (trA X.kx E v)
theorem PE.imp {X : Cx} {e : Expr} {t t' : TE} (h : PE X e t) (i : ∀ σ H Q, t' σ H Q → t σ H Q) : PE X e t' := ⟨fun pins s σ H Q I q => h.run pins s σ H Q I (i σ H Q q)⟩
theorem PT.imp {X : Cx} {e : Expr} {t t' : TT} (h : PT X e t) (i : ∀ σ H Q, t' σ H Q → t σ H Q) : PT X e t' := ⟨fun pins s σ H Q I q => h.run pins s σ H Q I (i σ H Q q)⟩
theorem PW.imp {X : Cx} {e : Expr} {t t' : TT} (h : PW X e t) (i : ∀ σ H Q, t' σ H Q → t σ H Q) : PW X e t' := ⟨fun wh pins s σ H Q I q => h.run wh pins s σ H Q I (i σ H Q q)⟩
theorem PA.imp {X : Cx} {e : List Expr} {t t' : TA} (h : PA X e t) (i : ∀ σ H Q, t' σ H Q → t σ H Q) : PA X e t' := ⟨fun wh pins s σ H Q I q => h.run wh pins s σ H Q I (i σ H Q q)⟩
section
variable {X : Cx} {E : XK} {a b c : Expr} {va vb vc : Ev} {pos : Pos}
/-! ### names and constants -/
@[simp] def vVar (i : Nat) : Ev := fun ρ M => match ρ[i]? with
  | some (some d) => some (.ok d M)
  | _ => none
@[simp] def vC (d : D) : Ev := fun _ M => some (.ok d M)
theorem mv_var {i : Nat} {x : Str} (h : PE X (.Name x pos) (tVar i)) : MV X E (.Name x pos) (vVar i) := PE.imp h fun σ H Q ⟨μ, ρ, M, r, hs, hm, e, q⟩ => by
  unfold vVar at e
  split at e
  · rename_i d hd
    cases e
    obtain ⟨v, e1, e2⟩ := hs.get i d hd
    exact ⟨v, e1, q μ v H Le.refl hm e2⟩
  · cases e
theorem mv_c {v : V} {d : D} {e : Expr} (h : PE X e (tC v)) (k : ∀ μ H, RV X.kx μ H v d) : MV X E e (vC d) := PE.imp h fun σ H Q ⟨μ, ρ, M, r, hs, hm, e, q⟩ => by
  cases e
  exact q μ v H Le.refl hm (k μ H)
theorem mv_int {i j} : MV X E (.Constant (.int i) j pos) (vC (.int i)) := mv_c pe_int fun _ _ => .int i
theorem mv_bl {b j} : MV X E (.Constant (.bool b) j pos) (vC (.bl b)) := mv_c pe_bl fun _ _ => .bl b
theorem mv_non {j} : MV X E (.Constant .none j pos) (vC .non) := mv_c pe_non fun _ _ => .non
theorem mv_str {x j} (h : PyData.strOk x = true := by rfl) : MV X E (.Constant (.str x) j pos) (vC (.str x)) := mv_c pe_str fun _ _ => .str x h
/-! ### two operands -/
abbrev F2 := D → D → Mem → Option (Res D)
def Sim2 (K : Fw) (E : XK) (r : R2) (f : F2) : Prop := ∀ (μ : Wd) (H : Hp) (M : Mem) (x y : V) (a b : D) (res : Res D) (Q : VK), RM K μ H M → RV K μ H x a → RV K μ H y b → f a b M = some res → OutE K E μ H res Q → r x y H Q
@[simp] def vOp (f : F2) (va vb : Ev) : Ev := fun ρ M => bnd (va ρ M) fun a M1 => bnd (vb ρ M1) fun b M2 => f a b M2
theorem tr_op {r : R2} {f : F2} (k : Sim2 X.kx E r f) {σ : L2.St} {H : Hp} {Q : VK} (h : trE X.kx E (vOp f va vb) σ H Q) : tOp r (trE X.kx E va) (trE X.kx E vb) σ H Q := by
  obtain ⟨μ, ρ, M, res, hs, hm, e, q⟩ := h
  exact tr_bnd hs hm e q fun μ1 x H1 a M1 l hs1 hm1 rx e1 q1 => tr_bnd hs1 hm1 e1 q1 fun μ2 y H2 b M2 l2 hs2 hm2 ry e2 q2 => k μ2 H2 M2 x y a b _ Q hm2 (rx.le hm1 l2) ry e2 q2
theorem mv_op {op : Operator} {r : R2} {f : F2} (ho : OpR X (binaryOp op) r) (k : Sim2 X.kx E r f) (ha : MV X E a va) (hb : MV X E b vb) : MV X E (.BinOp a op b pos) (vOp f va vb) := PE.imp (pe_op ho ha hb) fun _ _ _ h => tr_op k h
theorem mv_cmp {op : CmpOp} {r : R2} {f : F2} (ho : OpR X (compareOp op) r) (k : Sim2 X.kx E r f) (ha : MV X E a va) (hb : MV X E b vb) (hm : behindInMarks op b = false) : MV X E (.Compare a [op] [b] pos) (vOp f va vb) := PE.imp (pe_cmpR ho ha hb hm) fun _ _ _ h => tr_op k h
/-- one rule or another -/
def rOr (r s : R2) : R2 := fun x y H Q => r x y H Q ∨ s x y H Q
theorem opr_or {f : Value → Value → Sem Value} {r s : R2} (h : OpR X f r) (k : OpR X f s) : OpR X f (rOr r s) := fun pins st σ H x y v u Q I rx ry q => q.elim (h pins st σ H x y v u Q I rx ry) (k pins st σ H x y v u Q I rx ry)
/-! ### + - * // % ** -/
@[simp] def fSub : F2
  | .int i, .int j, M => some (.ok (.int (i - j)) M)
  | _, _, _ => none
@[simp] def fMul : F2
  | .int i, .int j, M => if (-(2 ^ 64) < i ∧ i < 2 ^ 64) ∨ (-(2 ^ 64) < j ∧ j < 2 ^ 64) then some (.ok (.int (i * j)) M) else none
  | _, _, _ => none
@[simp] def fMod : F2
  | .int i, .int j, M => if 0 < j then some (.ok (.int (i % j)) M) else none
  | _, _, _ => none
@[simp] def fDiv : F2
  | .int i, .int j, M => if 0 < j ∧ j.natAbs < 2 ^ 128 then some (.ok (.int (i / j)) M) else none
  | _, _, _ => none
@[simp] def fPow : F2
  | .int i, .int j, M => if 0 ≤ j ∧ j ≤ 1000000 ∧ i.natAbs < 2 ^ 64 then some (.ok (.int (i ^ j.toNat)) M) else none
  | _, _, _ => none
@[simp] def fAnd : F2
  | .int i, .int j, M => some (.ok (.int (Builtin.bitAnd i j)) M)
  | _, _, _ => none
theorem sim_sub {K : Fw} : Sim2 K E (rI0 fun i j => .int (i - j)) fSub := fun μ H M x y a b res Q hm rx ry e q => by
  unfold fSub at e
  split at e <;> cases e
  cases rx; cases ry
  exact ⟨_, _, rfl, rfl, q μ _ H Le.refl hm (.int _)⟩
theorem sim_and {K : Fw} : Sim2 K E (rI0 fun i j => .int (Builtin.bitAnd i j)) fAnd := fun μ H M x y a b res Q hm rx ry e q => by
  unfold fAnd at e
  split at e <;> cases e
  cases rx; cases ry
  exact ⟨_, _, rfl, rfl, q μ _ H Le.refl hm (.int _)⟩
theorem sim_mul {K : Fw} : Sim2 K E (rI CMul fun i j => .int (i * j)) fMul := fun μ H M x y a b res Q hm rx ry e q => by
  unfold fMul at e
  split at e
  · split at e <;> cases e
    cases rx; cases ry
    rename_i h
    exact ⟨_, _, rfl, rfl, h, q μ _ H Le.refl hm (.int _)⟩
  · cases e
theorem sim_mod {K : Fw} : Sim2 K E (rI (fun _ j => 0 < j) fun i j => .int (i % j)) fMod := fun μ H M x y a b res Q hm rx ry e q => by
  unfold fMod at e
  split at e
  · split at e <;> cases e
    cases rx; cases ry
    rename_i h
    exact ⟨_, _, rfl, rfl, h, q μ _ H Le.refl hm (.int _)⟩
  · cases e
theorem sim_div {K : Fw} : Sim2 K E (rI CDivW fun i j => .int (i / j)) fDiv := fun μ H M x y a b res Q hm rx ry e q => by
  unfold fDiv at e
  split at e
  · split at e <;> cases e
    cases rx; cases ry
    rename_i h
    exact ⟨_, _, rfl, rfl, wide_div h.1 h.2 (by decide) (by decide), q μ _ H Le.refl hm (.int _)⟩
  · cases e
theorem sim_pow {K : Fw} : Sim2 K E (rI CPow fun i j => .int (i ^ j.toNat)) fPow := fun μ H M x y a b res Q hm rx ry e q => by
  unfold fPow at e
  split at e
  · split at e <;> cases e
    cases rx; cases ry
    rename_i h
    exact ⟨_, _, rfl, rfl, h, q μ _ H Le.refl hm (.int _)⟩
  · cases e
theorem mv_sub (ha : MV X E a va) (hb : MV X E b vb) : MV X E (.BinOp a .Sub b pos) (vOp fSub va vb) := mv_op op_sub sim_sub ha hb
theorem mv_bitand (ha : MV X E a va) (hb : MV X E b vb) : MV X E (.BinOp a .BitAnd b pos) (vOp fAnd va vb) := mv_op op_and sim_and ha hb
theorem mv_mul (ha : MV X E a va) (hb : MV X E b vb) : MV X E (.BinOp a .Mult b pos) (vOp fMul va vb) := mv_op op_mul sim_mul ha hb
theorem mv_mod (ha : MV X E a va) (hb : MV X E b vb) : MV X E (.BinOp a .Mod b pos) (vOp fMod va vb) := mv_op op_mod sim_mod ha hb
theorem mv_div (ha : MV X E a va) (hb : MV X E b vb) : MV X E (.BinOp a .FloorDiv b pos) (vOp fDiv va vb) := mv_op op_fdivW sim_div ha hb
theorem mv_pow (ha : MV X E a va) (hb : MV X E b vb) : MV X E (.BinOp a .Pow b pos) (vOp fPow va vb) := mv_op op_pow sim_pow ha hb
end
end Mi
set_option autoImplicit false
/-! Expressions and their mirrors: sums of sequences, equality, membership, tests, parts, displays. -/
namespace Mi
open PySem PySem.Spec L2
mutual
@[simp] def dat : D → Option PyData
  | .non => some .none
  | .bl b => some (.bool b)
  | .int i => some (.int i)
  | .str x => some (.str x)
  | .tup xs => (dats xs).map .tuple
  | .lst xs => (dats xs).map .list
  | _ => none
@[simp] def dats : List D → Option (List PyData)
  | [] => some []
  | x :: r => match dat x, dats r with
    | some p, some q => some (p :: q)
    | _, _ => none
end
section
variable {K : Fw} {μ : Wd} {H : Hp} {M : Mem}
mutual
theorem RV.dp : ∀ {v : V} {d : D} {p : PyData}, RV K μ H v d → dat d = some p → Dp K H v p ∧ PyData.canLay0 p = true
  | _, _, _, .non, e => by
    simp only [dat, Option.some.injEq] at e; subst e; exact ⟨.non, rfl⟩
  | _, _, _, .bl b, e => by
    simp only [dat, Option.some.injEq] at e; subst e; exact ⟨.bl b, rfl⟩
  | _, _, _, .int i, e => by
    simp only [dat, Option.some.injEq] at e; subst e; exact ⟨.int i, rfl⟩
  | _, _, _, .str x h, e => by
    simp only [dat, Option.some.injEq] at e; subst e; exact ⟨.str x, h⟩
  | _, _, _, .tup (ds := ds) h k, e => by
    simp only [dat] at e
    cases q : dats ds with
    | none => rw [q] at e; cases e
    | some ps =>
      rw [q] at e; cases e
      exact ⟨.tup h (RVs.dp k q).1, (RVs.dp k q).2⟩
  | _, _, _, .lst (ds := ds) h n k, e => by
    simp only [dat] at e
    cases q : dats ds with
    | none => rw [q] at e; cases e
    | some ps =>
      rw [q] at e; cases e
      exact ⟨.lst (SqL.of h) (RVs.dp k q).1, (RVs.dp k q).2⟩
  | _, _, _, .fro h k, e => by simp only [dat] at e; cases e
  | _, _, _, .obj h n l k, e => by simp only [dat] at e; cases e
  | _, _, _, .dic h n l k, e => by simp only [dat] at e; cases e
  | _, _, _, .dcT h n l k j, e => by simp only [dat] at e; cases e
  | _, _, _, .loc h, e => by simp only [dat] at e; cases e
  | _, _, _, .glb a, e => by simp only [dat] at e; cases e
  | _, _, _, .ty n, e => by simp only [dat] at e; cases e
  | _, _, _, .xob _ _ _ _ _, e => by simp only [dat] at e; cases e
theorem RVs.dp : ∀ {vs : List V} {ds : List D} {ps : List PyData}, RVs K μ H vs ds → dats ds = some ps → DpAll K H vs ps ∧ PyData.canLayAll0 ps = true
  | _, _, _, .nil, e => by simp only [dats, Option.some.injEq] at e; subst e; exact ⟨.nil, rfl⟩
  | _, _, _, .cons (d := d) (ds := ds) h k, e => by
    simp only [dats] at e
    cases q1 : dat d with
    | none => rw [q1] at e; cases e
    | some p =>
      cases q2 : dats ds with
      | none => rw [q1, q2] at e; cases e
      | some ps =>
        rw [q1, q2] at e
        cases e
        refine ⟨.cons (RV.dp h q1).1 (RVs.dp k q2).1, ?_⟩
        show (PyData.canLay0 p && PyData.canLayAll0 ps) = true
        rw [(RV.dp h q1).2, (RVs.dp k q2).2]
        rfl
end
/-- data, a list's cell read at the top -/
@[simp] def datM (M : Mem) : D → Option PyData
  | .loc n => match M[n]? with
    | some (.lst xs) => (dats xs).map .list
    | _ => none
  | d => dat d
theorem RV.dpM (hm : RM K μ H M) {v : V} {d : D} {p : PyData} (h : RV K μ H v d) (e : datM M d = some p) : Dp K H v p ∧ PyData.canLay0 p = true := by
  cases h with
  | @loc n a hn =>
    simp only [datM] at e
    split at e
    · rename_i xs hx
      cases q : dats xs with
      | none => rw [q] at e; cases e
      | some ps =>
        rw [q] at e; cases e
        obtain ⟨vs, h1, h2⟩ := hm.cell n a _ hn hx
        exact ⟨.lst (SqL.of h1) (h2.dp q).1, (h2.dp q).2⟩
    · cases e
  | non => exact RV.dp (μ := μ) .non e
  | bl b => exact RV.dp (μ := μ) (.bl b) e
  | int i => exact RV.dp (μ := μ) (.int i) e
  | str x h => exact RV.dp (μ := μ) (.str x h) e
  | tup h k => exact RV.dp (.tup h k) e
  | lst h n k => exact RV.dp (.lst h n k) e
  | fro h k => exact RV.dp (μ := μ) (.fro h k) e
  | obj h n l k => exact RV.dp (.obj h n l k) e
  | dic h n l k => exact RV.dp (.dic h n l k) e
  | dcT h n l k j => exact RV.dp (.dcT h n l k j) e
  | glb a => exact RV.dp (μ := μ) (.glb a) e
  | ty n => exact RV.dp (μ := μ) (.ty n) e
  | xob h1 h2 h3 h4 h5 => cases e
end
/-! ### == and != -/
def rEqM (K : PySem.W.Frag) : R2 := fun x y H Q => ∃ d e, Dp K H x d ∧ Dp K H y e ∧ PyData.canLay0 d = true ∧ PyData.canLay0 e = true ∧ min d.depth e.depth ≤ 64 ∧ Q (.bl (PyData.eqv d e)) H
def rNeM (K : PySem.W.Frag) : R2 := fun x y H Q => ∃ d e, Dp K H x d ∧ Dp K H y e ∧ PyData.canLay0 d = true ∧ PyData.canLay0 e = true ∧ min d.depth e.depth ≤ 64 ∧ Q (.bl (!PyData.eqv d e)) H
theorem op_eqM {X : Cx} (hu : X.A.units + 64 < cLine) : OpR X (compareOp .Eq) (rEqM X.K) := by
  intro pins s σ H x y v u Q I rx ry h
  obtain ⟨d, e, hd, he, sd, se, hm, q⟩ := h
  obtain ⟨as, r1⟩ := Dp.reads I d x v hd rx
  obtain ⟨bs, r2⟩ := Dp.reads I e y u he ry
  exact SeqAt.compareEq_reads r1 r2 sd se (by omega) ⟨.bl _, H, I, rfl, q⟩
theorem op_neM {X : Cx} (hu : X.A.units + 64 < cLine) : OpR X (compareOp .NotEq) (rNeM X.K) := by
  intro pins s σ H x y v u Q I rx ry h
  obtain ⟨d, e, hd, he, sd, se, hm, q⟩ := h
  obtain ⟨as, r1⟩ := Dp.reads I d x v hd rx
  obtain ⟨bs, r2⟩ := Dp.reads I e y u he ry
  exact SeqAt.compareNe_reads r1 r2 sd se (by omega) ⟨.bl _, H, I, rfl, q⟩
@[simp] def eqD (M : Mem) (a b : D) : Option Bool := match datM M a, datM M b with
  | some p, some q => if min p.depth q.depth ≤ 64 then some (PyData.eqv p q) else none
  | _, _ => none
@[simp] def fEq : F2 := fun a b M => (eqD M a b).map fun k => .ok (.bl k) M
@[simp] def fNe : F2 := fun a b M => (eqD M a b).map fun k => .ok (.bl (!k)) M
theorem eqD_dp {K : Fw} {μ : Wd} {H : Hp} {M : Mem} {x y : V} {a b : D} {k : Bool} (hm : RM K μ H M) (rx : RV K μ H x a) (ry : RV K μ H y b) (e : eqD M a b = some k) :
    ∃ d e, Dp K H x d ∧ Dp K H y e ∧ PyData.canLay0 d = true ∧ PyData.canLay0 e = true ∧ min d.depth e.depth ≤ 64 ∧ PyData.eqv d e = k := by
  unfold eqD at e
  split at e
  · rename_i p q hp hq
    split at e
    · rename_i hd
      cases e
      exact ⟨p, q, (rx.dpM hm hp).1, (ry.dpM hm hq).1, (rx.dpM hm hp).2, (ry.dpM hm hq).2, hd, rfl⟩
    · cases e
  · cases e
theorem sim_eq {K : Fw} {E : XK} : Sim2 K E (rEqM K) fEq := fun μ H M x y a b res Q hm rx ry e q => by
  unfold fEq at e
  cases h : eqD M a b with
  | none => rw [h] at e; cases e
  | some k =>
    rw [h] at e; cases e
    obtain ⟨d, e, h1, h2, h3, h4, h5, h6⟩ := eqD_dp hm rx ry h
    exact ⟨d, e, h1, h2, h3, h4, h5, q μ _ H Le.refl hm (by rw [h6]; exact .bl k)⟩
theorem sim_ne {K : Fw} {E : XK} : Sim2 K E (rNeM K) fNe := fun μ H M x y a b res Q hm rx ry e q => by
  unfold fNe at e
  cases h : eqD M a b with
  | none => rw [h] at e; cases e
  | some k =>
    rw [h] at e; cases e
    obtain ⟨d, e, h1, h2, h3, h4, h5, h6⟩ := eqD_dp hm rx ry h
    exact ⟨d, e, h1, h2, h3, h4, h5, q μ _ H Le.refl hm (by rw [h6]; exact .bl (!k))⟩
/-! ### sequences -/
/-- the items of a list or a tuple: true for a list -/
@[simp] def itemsM (M : Mem) : D → Option (Bool × List D)
  | .tup xs => some (false, xs)
  | .lst xs => some (true, xs)
  | .fro xs => some (true, xs)
  | .loc n => match M[n]? with
    | some (.lst xs) => some (true, xs)
    | _ => none
  | _ => none
theorem RV.items {K : Fw} {μ : Wd} {H : Hp} {M : Mem} (hm : RM K μ H M) {v : V} {d : D} {b : Bool} {xs : List D} (h : RV K μ H v d) (e : itemsM M d = some (b, xs)) :
    ∃ a vs, v = .ref a ∧ RVs K μ H vs xs ∧ (match b with | true => SqL K H a vs | false => SqT K H a vs) := by
  cases h with
  | @loc n a hn =>
    simp only [itemsM] at e
    split at e
    · rename_i zs hx
      cases e
      obtain ⟨vs, h1, h2⟩ := hm.cell n a _ hn hx
      exact ⟨a, vs, rfl, h2, SqL.of h1⟩
    · cases e
  | tup h k => cases e; exact ⟨_, _, rfl, k, h⟩
  | lst h n k => cases e; exact ⟨_, _, rfl, k, SqL.of h⟩
  | fro h k => cases e; exact ⟨_, _, rfl, k, h.sq⟩
  | non => cases e
  | bl b => cases e
  | int i => cases e
  | str x h => cases e
  | obj h n l k => cases e
  | dic h n l k => cases e
  | dcT h n l k j => cases e
  | glb a => cases e
  | ty n => cases e
  | xob h1 h2 h3 h4 h5 => cases e
/-! ### in, not in -/
def rInM (K : PySem.W.Frag) (neg : Bool) : R2 := fun x y H Q => ∃ d ds, Dp K H x d ∧ (Dp K H y (.tuple ds) ∨ Dp K H y (.list ds)) ∧ PyData.canLay0 d = true ∧ PyData.canLayAll0 ds = true ∧ min (PyData.depthAll ds) d.depth ≤ 64 ∧ Q (.bl (if neg then !ds.any fun z => PyData.eqv z d else ds.any fun z => PyData.eqv z d)) H
theorem op_inM {X : Cx} (hu : X.A.units + 65 < cLine) : OpR X (compareOp .In) (rInM X.K false) := by
  intro pins s σ H x y v u Q I rx ry h
  obtain ⟨d, ds, hd, he, sd, se, hm, q⟩ := h
  obtain ⟨as, r1⟩ := Dp.reads I d x v hd rx
  rcases he with he | he
  · obtain ⟨bs, r2⟩ := Dp.reads I (.tuple ds) y u he ry
    exact SeqAt.in_tuple_reads r2 r1 se sd (by omega) ⟨.bl _, H, I, rfl, q⟩
  · obtain ⟨bs, r2⟩ := Dp.reads I (.list ds) y u he ry
    exact SeqAt.in_list_reads r2 r1 se sd (by omega) ⟨.bl _, H, I, rfl, q⟩
theorem op_notInM {X : Cx} (hu : X.A.units + 65 < cLine) : OpR X (compareOp .NotIn) (rInM X.K true) := by
  intro pins s σ H x y v u Q I rx ry h
  obtain ⟨d, ds, hd, he, sd, se, hm, q⟩ := h
  obtain ⟨as, r1⟩ := Dp.reads I d x v hd rx
  rcases he with he | he
  · obtain ⟨bs, r2⟩ := Dp.reads I (.tuple ds) y u he ry
    exact SeqAt.notIn_tuple_reads r2 r1 se sd (by omega) ⟨.bl _, H, I, rfl, q⟩
  · obtain ⟨bs, r2⟩ := Dp.reads I (.list ds) y u he ry
    exact SeqAt.notIn_list_reads r2 r1 se sd (by omega) ⟨.bl _, H, I, rfl, q⟩
def rInStr (neg : Bool) : R2 := fun x y H Q => ∃ i j, x = .str i ∧ y = .str j ∧ Q (.bl (if neg then !(!(Builtin.Str.occurrences j i 0 j.length 1).isEmpty) else !(Builtin.Str.occurrences j i 0 j.length 1).isEmpty)) H
/-- is a in b -/
@[simp] def inD (M : Mem) (a b : D) : Option Bool := match a, b with
  | .str i, .str j => some (!(Builtin.Str.occurrences j i 0 j.length 1).isEmpty)
  | a, b => match datM M a, itemsM M b with
    | some p, some (_, xs) => match dats xs with
      | some qs => if min (PyData.depthAll qs) p.depth ≤ 64 then some (qs.any fun z => PyData.eqv z p) else none
      | none => none
    | _, _ => none
@[simp] def fIn : F2 := fun a b M => (inD M a b).map fun k => .ok (.bl k) M
@[simp] def fNotIn : F2 := fun a b M => (inD M a b).map fun k => .ok (.bl (!k)) M
theorem inD_dp {K : Fw} {μ : Wd} {H : Hp} {M : Mem} {x y : V} {a b : D} {k : Bool} (hm : RM K μ H M) (rx : RV K μ H x a) (ry : RV K μ H y b) (e : inD M a b = some k) :
    (∃ i j, x = .str i ∧ y = .str j ∧ (!(Builtin.Str.occurrences j i 0 j.length 1).isEmpty) = k) ∨
    ∃ d ds, Dp K H x d ∧ (Dp K H y (.tuple ds) ∨ Dp K H y (.list ds)) ∧ PyData.canLay0 d = true ∧ PyData.canLayAll0 ds = true ∧ min (PyData.depthAll ds) d.depth ≤ 64 ∧ (ds.any fun z => PyData.eqv z d) = k := by
  unfold inD at e
  split at e
  · cases rx; cases ry; cases e
    exact .inl ⟨_, _, rfl, rfl, rfl⟩
  · right
    split at e
    · rename_i p b xs hp hq
      split at e
      · rename_i qs hqs
        split at e
        · rename_i hd
          cases e
          obtain ⟨a, vs, rfl, rv, sq⟩ := ry.items hm hq
          refine ⟨p, qs, (rx.dpM hm hp).1, ?_, (rx.dpM hm hp).2, (rv.dp hqs).2, hd, rfl⟩
          cases b with
          | true => exact .inr (.lst sq (rv.dp hqs).1)
          | false => exact .inl (.tup sq (rv.dp hqs).1)
        · cases e
      · cases e
    · cases e
theorem sim_in {K : Fw} {E : XK} : Sim2 K E (rOr (rInStr false) (rInM K false)) fIn := fun μ H M x y a b res Q hm rx ry e q => by
  unfold fIn at e
  cases h : inD M a b with
  | none => rw [h] at e; cases e
  | some k =>
    rw [h] at e; cases e
    have q' := q μ (.bl k) H Le.refl hm (.bl k)
    rcases inD_dp hm rx ry h with ⟨i, j, rfl, rfl, e⟩ | ⟨d, ds, h1, h2, h3, h4, h5, h6⟩
    · exact .inl ⟨i, j, rfl, rfl, by rw [← e] at q'; exact q'⟩
    · exact .inr ⟨d, ds, h1, h2, h3, h4, h5, by rw [← h6] at q'; exact q'⟩
theorem sim_notIn {K : Fw} {E : XK} : Sim2 K E (rOr (rInStr true) (rInM K true)) fNotIn := fun μ H M x y a b res Q hm rx ry e q => by
  unfold fNotIn at e
  cases h : inD M a b with
  | none => rw [h] at e; cases e
  | some k =>
    rw [h] at e; cases e
    have q' := q μ (.bl (!k)) H Le.refl hm (.bl (!k))
    rcases inD_dp hm rx ry h with ⟨i, j, rfl, rfl, e⟩ | ⟨d, ds, h1, h2, h3, h4, h5, h6⟩
    · exact .inl ⟨i, j, rfl, rfl, by rw [← e] at q'; exact q'⟩
    · exact .inr ⟨d, ds, h1, h2, h3, h4, h5, by rw [← h6] at q'; exact q'⟩
theorem opr_in {X : Cx} (hu : X.A.units + 65 < cLine) : OpR X (compareOp .In) (rOr (rInStr false) (rInM X.K false)) := opr_or op_in_str (op_inM hu)
theorem opr_notIn {X : Cx} (hu : X.A.units + 65 < cLine) : OpR X (compareOp .NotIn) (rOr (rInStr true) (rInM X.K true)) := opr_or op_notin_str (op_notInM hu)
/-! ### is None -/
@[simp] def isN : D → Bool
  | .non => true
  | _ => false
theorem RV.isN {K : Fw} {μ : Wd} {H : Hp} {x : V} {d : D} (h : RV K μ H x d) : decide (x = .non) = Mi.isN d := by cases h <;> rfl
@[simp] def fIsN : F2
  | a, .non, M => some (.ok (.bl (isN a)) M)
  | _, _, _ => none
@[simp] def fNotN : F2
  | a, .non, M => some (.ok (.bl (!isN a)) M)
  | _, _, _ => none
theorem sim_isN {K : Fw} {E : XK} : Sim2 K E (fun x y H Q => y = .non ∧ Q (.bl (decide (x = .non))) H) fIsN := fun μ H M x y a b res Q hm rx ry e q => by
  unfold fIsN at e
  split at e <;> cases e
  cases ry
  exact ⟨rfl, by rw [rx.isN]; exact q μ _ H Le.refl hm (.bl _)⟩
theorem sim_notN {K : Fw} {E : XK} : Sim2 K E (fun x y H Q => y = .non ∧ Q (.bl (!decide (x = .non))) H) fNotN := fun μ H M x y a b res Q hm rx ry e q => by
  unfold fNotN at e
  split at e <;> cases e
  cases ry
  exact ⟨rfl, by rw [rx.isN]; exact q μ _ H Le.refl hm (.bl _)⟩
/-! ### < <= > >= -/
@[simp] def fLt : F2
  | .int i, .int j, M => some (.ok (.bl (decide (i < j))) M)
  | .str i, .str j, M => some (.ok (.bl (decide (i.cps.toList < j.cps.toList))) M)
  | _, _, _ => none
@[simp] def fLe : F2
  | .int i, .int j, M => some (.ok (.bl (decide (i ≤ j))) M)
  | .str i, .str j, M => some (.ok (.bl (!decide (j.cps.toList < i.cps.toList))) M)
  | _, _, _ => none
@[simp] def fGt : F2
  | .int i, .int j, M => some (.ok (.bl (decide (j < i))) M)
  | .str i, .str j, M => some (.ok (.bl (decide (j.cps.toList < i.cps.toList))) M)
  | _, _, _ => none
@[simp] def fGe : F2
  | .int i, .int j, M => some (.ok (.bl (decide (j ≤ i))) M)
  | .str i, .str j, M => some (.ok (.bl (!decide (i.cps.toList < j.cps.toList))) M)
  | _, _, _ => none
section
variable {K : Fw} {E : XK}
theorem sim_lt : Sim2 K E (rOr (rI0 fun i j => .bl (decide (i < j))) (fun x y H Q => ∃ i j, x = .str i ∧ y = .str j ∧ Q (.bl (decide (i.cps.toList < j.cps.toList))) H)) fLt := fun μ H M x y a b res Q hm rx ry e q => by
  unfold fLt at e
  split at e <;> cases e <;> cases rx <;> cases ry
  · exact .inl ⟨_, _, rfl, rfl, q μ _ H Le.refl hm (.bl _)⟩
  · exact .inr ⟨_, _, rfl, rfl, q μ _ H Le.refl hm (.bl _)⟩
theorem sim_le : Sim2 K E (rOr (rI0 fun i j => .bl (decide (i ≤ j))) (fun x y H Q => ∃ i j, x = .str i ∧ y = .str j ∧ Q (.bl (!decide (j.cps.toList < i.cps.toList))) H)) fLe := fun μ H M x y a b res Q hm rx ry e q => by
  unfold fLe at e
  split at e <;> cases e <;> cases rx <;> cases ry
  · exact .inl ⟨_, _, rfl, rfl, q μ _ H Le.refl hm (.bl _)⟩
  · exact .inr ⟨_, _, rfl, rfl, q μ _ H Le.refl hm (.bl _)⟩
theorem sim_gt : Sim2 K E (rOr (rI0 fun i j => .bl (decide (j < i))) (fun x y H Q => ∃ i j, x = .str i ∧ y = .str j ∧ Q (.bl (decide (j.cps.toList < i.cps.toList))) H)) fGt := fun μ H M x y a b res Q hm rx ry e q => by
  unfold fGt at e
  split at e <;> cases e <;> cases rx <;> cases ry
  · exact .inl ⟨_, _, rfl, rfl, q μ _ H Le.refl hm (.bl _)⟩
  · exact .inr ⟨_, _, rfl, rfl, q μ _ H Le.refl hm (.bl _)⟩
theorem sim_ge : Sim2 K E (rOr (rI0 fun i j => .bl (decide (j ≤ i))) (fun x y H Q => ∃ i j, x = .str i ∧ y = .str j ∧ Q (.bl (!decide (i.cps.toList < j.cps.toList))) H)) fGe := fun μ H M x y a b res Q hm rx ry e q => by
  unfold fGe at e
  split at e <;> cases e <;> cases rx <;> cases ry
  · exact .inl ⟨_, _, rfl, rfl, q μ _ H Le.refl hm (.bl _)⟩
  · exact .inr ⟨_, _, rfl, rfl, q μ _ H Le.refl hm (.bl _)⟩
end
theorem opr_lt {X : Cx} : OpR X (compareOp .Lt) (rOr (rI0 fun i j => .bl (decide (i < j))) (fun x y H Q => ∃ i j, x = .str i ∧ y = .str j ∧ Q (.bl (decide (i.cps.toList < j.cps.toList))) H)) := opr_or op_lt op_lt_str
theorem opr_le {X : Cx} : OpR X (compareOp .LtE) (rOr (rI0 fun i j => .bl (decide (i ≤ j))) (fun x y H Q => ∃ i j, x = .str i ∧ y = .str j ∧ Q (.bl (!decide (j.cps.toList < i.cps.toList))) H)) := opr_or op_le op_le_str
theorem opr_gt {X : Cx} : OpR X (compareOp .Gt) (rOr (rI0 fun i j => .bl (decide (j < i))) (fun x y H Q => ∃ i j, x = .str i ∧ y = .str j ∧ Q (.bl (decide (j.cps.toList < i.cps.toList))) H)) := opr_or op_gt op_gt_str
theorem opr_ge {X : Cx} : OpR X (compareOp .GtE) (rOr (rI0 fun i j => .bl (decide (j ≤ i))) (fun x y H Q => ∃ i j, x = .str i ∧ y = .str j ∧ Q (.bl (!decide (i.cps.toList < j.cps.toList))) H)) := opr_or op_ge op_ge_str
/-! ### tests -/
@[simp] def tru (M : Mem) : D → Option Bool
  | .non => some false
  | .bl b => some b
  | .int i => some (i != 0)
  | .str y => if y.length ≤ sizeLine then some ((y.length : Int) != 0) else none
  | .dic ks xs => some (!ks.isEmpty)
  | .loc n => match M[n]? with
    | some (.lst xs) => some (!xs.isEmpty)
    | some (.dct kvs) => some (!kvs.isEmpty)
    | _ => none
  | .tup xs => some (!xs.isEmpty)
  | .lst xs => some (!xs.isEmpty)
  | .fro xs => some (!xs.isEmpty)
  | _ => none
theorem RVs.empty {K : Fw} {μ : Wd} {H : Hp} {vs : List V} {ds : List D} (h : RVs K μ H vs ds) : (!vs.isEmpty) = !ds.isEmpty := by cases h <;> rfl
theorem RF.empty {κ : Type} {K : Fw} {μ : Wd} {H : Hp} {vs : List (κ × V)} {ds : List (κ × D)} (h : RF K μ H vs ds) : (!vs.isEmpty) = !ds.isEmpty := by cases h <;> rfl
theorem tru_v {K : Fw} {μ : Wd} {H : Hp} {M : Mem} (hm : RM K μ H M) {x : V} {d : D} {k : Bool} (h : RV K μ H x d) (e : tru M d = some k) : TruV K x H k := by
  cases h with
  | non => cases e; rfl
  | bl b => cases e; rfl
  | int i => cases e; rfl
  | str x h =>
    simp only [tru] at e
    split at e
    · rename_i hl
      cases e
      exact ⟨hl, rfl⟩
    · cases e
  | tup h k => cases e; exact .inr (.inl ⟨_, h, k.empty.symm⟩)
  | lst h n k => cases e; exact .inl ⟨_, SqL.of h, k.empty.symm⟩
  | fro h k => cases e; exact .inl ⟨_, h.sq, k.empty.symm⟩
  | @loc n a hn =>
    simp only [tru] at e
    split at e
    · rename_i xs hx
      cases e
      obtain ⟨vs, h1, h2⟩ := hm.cell n a _ hn hx
      exact .inl ⟨vs, SqL.of h1, h2.empty.symm⟩
    · rename_i xs hx
      cases e
      obtain ⟨us, h1, h2⟩ := hm.cell n a _ hn hx
      exact .inr (.inr ⟨us, h1, h2.empty.symm⟩)
    · cases e
  | obj h n l k => cases e
  | @dic a ks vs ds h n l k =>
    cases e
    refine .inr (.inr ⟨_, h, ?_⟩)
    have := k.length
    cases ks with
    | nil => rfl
    | cons => cases vs with
      | nil => simp at this l; omega
      | cons => rfl
  | dcT h n l k j => cases e
  | glb a => cases e
  | ty n => cases e
  | xob h1 h2 h3 h4 h5 => cases e
section
variable {X : Cx} {E : XK} {a b c : Expr} {va vb vc : Ev} {ta tb : EvT} {pos : Pos}
@[simp] def vTru (v : Ev) : EvT := fun ρ M => bnd (v ρ M) fun d M1 => (tru M1 d).map fun k => .ok k M1
theorem mt_truth (ha : MV X E a va) (he : ∀ whole, isTrue a X.env whole = (do let v ← whole; standAt a.pos; holding [v] (truthy v)) := by intro _; rfl) : MT X E a (vTru va) :=
  PT.imp (pt_truth ha he) fun σ H Q ⟨μ, ρ, M, r, hs, hm, e, q⟩ => tr_bnd hs hm e q fun μ1 x H1 d M1 l hs1 hm1 rx e1 q1 => by
    cases h : tru M1 d with
    | none => rw [h] at e1; cases e1
    | some k =>
      rw [h] at e1; cases e1
      exact ⟨k, tru_v hm1 rx h, q1 μ1 k H1 Le.refl hm1 rfl⟩
@[simp] def vTst (v : Ev) : EvT := fun ρ M => bnd (v ρ M) fun d M1 => match d with
  | .bl k => some (.ok k M1)
  | _ => none
theorem tr_tst {v : Ev} {σ : L2.St} {H : Hp} {Q : Bool → Hp → Prop} (h : trT X.kx E (vTst v) σ H Q) : tTest (trE X.kx E v) σ H Q := by
  obtain ⟨μ, ρ, M, r, hs, hm, e, q⟩ := h
  refine tr_bnd hs hm e q fun μ1 x H1 d M1 l hs1 hm1 rx e1 q1 => ?_
  split at e1 <;> cases e1
  cases rx
  exact ⟨_, rfl, q1 μ1 _ H1 Le.refl hm1 rfl⟩
theorem tTest_imp {t t' : TE} (h : ∀ σ H Q, t' σ H Q → t σ H Q) {σ : L2.St} {H : Hp} {Q : Bool → Hp → Prop} (k : tTest t' σ H Q) : tTest t σ H Q := h _ _ _ k
theorem mt_cmp {op : CmpOp} {r : R2} {f : F2} (ho : OpR X (compareOp op) r) (k : Sim2 X.kx E r f) (ha : MV X E a va) (hb : MV X E b vb) (hm : behindInMarks op b = false) : MT X E (.Compare a [op] [b] pos) (vTst (vOp f va vb)) :=
  PT.imp (pt_cmpR ho ha hb hm) fun _ _ _ h => tTest_imp (fun _ _ _ z => tr_op k z) (tr_tst h)
@[simp] def vNotT (t : EvT) : EvT := fun ρ M => bnd (t ρ M) fun k M1 => some (.ok (!k) M1)
@[simp] def vAndT (t u : EvT) : EvT := fun ρ M => bnd (t ρ M) fun k M1 => if k = true then u ρ M1 else some (.ok false M1)
@[simp] def vOrT (t u : EvT) : EvT := fun ρ M => bnd (t ρ M) fun k M1 => if k = true then some (.ok true M1) else u ρ M1
theorem mt_not (ha : MT X E a ta) : MT X E (.UnaryOp .Not a pos) (vNotT ta) := PT.imp (pt_not ha) fun σ H Q ⟨μ, ρ, M, r, hs, hm, e, q⟩ => tr_bnd hs hm e q fun μ1 x H1 d M1 l hs1 hm1 rx e1 q1 => by
  cases e1; subst rx
  exact q1 μ1 _ H1 Le.refl hm1 rfl
theorem MW.mt (h : MW X E a ta) : MT X E a ta := PW.pt h
theorem mw_and1 (ha : MT X E a ta) : MW X E (.BoolOp .And [a] pos) ta := pw_and1 ha
theorem mw_or1 (ha : MT X E a ta) : MW X E (.BoolOp .Or [a] pos) ta := pw_or1 ha
theorem mw_and {rest : List Expr} (ha : MT X E a ta) (hb : MW X E (.BoolOp .And (b :: rest) pos) tb) : MW X E (.BoolOp .And (a :: b :: rest) pos) (vAndT ta tb) :=
  PW.imp (pw_and ha hb) fun σ H Q ⟨μ, ρ, M, r, hs, hm, e, q⟩ => tr_bnd hs hm e q fun μ1 x H1 d M1 l hs1 hm1 rx e1 q1 => by
    subst rx
    cases x with
    | true => rw [if_pos rfl] at e1 ⊢; exact ⟨μ1, ρ, M1, r, hs1, hm1, e1, q1⟩
    | false => rw [if_neg Bool.false_ne_true] at e1 ⊢; cases e1; exact q1 μ1 _ H1 Le.refl hm1 rfl
theorem mw_or {rest : List Expr} (ha : MT X E a ta) (hb : MW X E (.BoolOp .Or (b :: rest) pos) tb) : MW X E (.BoolOp .Or (a :: b :: rest) pos) (vOrT ta tb) :=
  PW.imp (pw_or ha hb) fun σ H Q ⟨μ, ρ, M, r, hs, hm, e, q⟩ => tr_bnd hs hm e q fun μ1 x H1 d M1 l hs1 hm1 rx e1 q1 => by
    subst rx
    cases x with
    | true => rw [if_pos rfl] at e1 ⊢; cases e1; exact q1 μ1 _ H1 Le.refl hm1 rfl
    | false => rw [if_neg Bool.false_ne_true] at e1 ⊢; exact ⟨μ1, ρ, M1, r, hs1, hm1, e1, q1⟩
/-! ### and, or, not as values; the choice -/
@[simp] def vAnd (va vb : Ev) : Ev := fun ρ M => bnd (va ρ M) fun d M1 => match tru M1 d with
  | some true => vb ρ M1
  | some false => some (.ok d M1)
  | none => none
@[simp] def vOr (va vb : Ev) : Ev := fun ρ M => bnd (va ρ M) fun d M1 => match tru M1 d with
  | some true => some (.ok d M1)
  | some false => vb ρ M1
  | none => none
@[simp] def vNot (va : Ev) : Ev := fun ρ M => bnd (va ρ M) fun d M1 => (tru M1 d).map fun k => .ok (.bl (!k)) M1
@[simp] def vIf (t : EvT) (va vb : Ev) : Ev := fun ρ M => bnd (t ρ M) fun k M1 => if k = true then va ρ M1 else vb ρ M1
theorem mv_one {op} (ha : MV X E a va) : MV X E (.BoolOp op [a] pos) va := pe_one ha
theorem mv_and {rest : List Expr} (ha : MV X E a va) (hb : MV X E (.BoolOp .And (b :: rest) pos) vb) : MV X E (.BoolOp .And (a :: b :: rest) pos) (vAnd va vb) :=
  PE.imp (pe_andT ha hb) fun σ H Q ⟨μ, ρ, M, r, hs, hm, e, q⟩ => tr_bnd hs hm e q fun μ1 x H1 d M1 l hs1 hm1 rx e1 q1 => by
    split at e1
    · rename_i h
      refine ⟨true, tru_v hm1 rx h, ?_⟩
      rw [if_pos rfl]
      exact ⟨μ1, ρ, M1, r, hs1, hm1, e1, q1⟩
    · rename_i h
      refine ⟨false, tru_v hm1 rx h, ?_⟩
      rw [if_neg Bool.false_ne_true]
      cases e1
      exact q1 μ1 _ H1 Le.refl hm1 rx
    · cases e1
theorem mv_or {rest : List Expr} (ha : MV X E a va) (hb : MV X E (.BoolOp .Or (b :: rest) pos) vb) : MV X E (.BoolOp .Or (a :: b :: rest) pos) (vOr va vb) :=
  PE.imp (pe_orT ha hb) fun σ H Q ⟨μ, ρ, M, r, hs, hm, e, q⟩ => tr_bnd hs hm e q fun μ1 x H1 d M1 l hs1 hm1 rx e1 q1 => by
    split at e1
    · rename_i h
      refine ⟨true, tru_v hm1 rx h, ?_⟩
      rw [if_pos rfl]
      cases e1
      exact q1 μ1 _ H1 Le.refl hm1 rx
    · rename_i h
      refine ⟨false, tru_v hm1 rx h, ?_⟩
      rw [if_neg Bool.false_ne_true]
      exact ⟨μ1, ρ, M1, r, hs1, hm1, e1, q1⟩
    · cases e1
theorem mv_not (ha : MV X E a va) : MV X E (.UnaryOp .Not a pos) (vNot va) :=
  PE.imp (pe_notT ha) fun σ H Q ⟨μ, ρ, M, r, hs, hm, e, q⟩ => tr_bnd hs hm e q fun μ1 x H1 d M1 l hs1 hm1 rx e1 q1 => by
    cases h : tru M1 d with
    | none => rw [h] at e1; cases e1
    | some k =>
      rw [h] at e1; cases e1
      exact ⟨k, tru_v hm1 rx h, q1 μ1 _ H1 Le.refl hm1 (.bl _)⟩
theorem mv_if (hc : MT X E c ta) (ha : MV X E a va) (hb : MV X E b vb) : MV X E (.IfExp c a b pos) (vIf ta va vb) :=
  PE.imp (pe_ifExp hc ha hb) fun σ H Q ⟨μ, ρ, M, r, hs, hm, e, q⟩ => tr_bnd hs hm e q fun μ1 x H1 d M1 l hs1 hm1 rx e1 q1 => by
    subst rx
    cases x with
    | true => rw [if_pos rfl] at e1 ⊢; exact ⟨μ1, ρ, M1, r, hs1, hm1, e1, q1⟩
    | false => rw [if_neg Bool.false_ne_true] at e1 ⊢; exact ⟨μ1, ρ, M1, r, hs1, hm1, e1, q1⟩
end
end Mi
set_option autoImplicit false
/-! Expressions and their mirrors: +, parts, displays, calls. -/
namespace Mi
open PySem PySem.Spec L2
theorem strOk_append {x y : Str} (h : PyData.strOk x = true) (k : PyData.strOk y = true) : PyData.strOk (x ++ y) = true := by
  show Array.all (x.cps ++ y.cps) _ = true
  rw [Array.all_append]
  show (PyData.strOk x && PyData.strOk y) = true
  rw [h, k]
  rfl
theorem strOk_of {x : Str} (h : ∀ c ∈ x.cps.toList, c < 0x110000) : PyData.strOk x = true := by
  unfold PyData.strOk
  rw [Array.all_eq_true_iff_forall_mem]
  intro c hc
  exact decide_eq_true (h c (Array.mem_toList_iff.mpr hc))
theorem strOk_mem {x : Str} (h : PyData.strOk x = true) : ∀ c ∈ x.cps.toList, c < 0x110000 := by
  unfold PyData.strOk at h
  rw [Array.all_eq_true_iff_forall_mem] at h
  intro c hc
  exact of_decide_eq_true (h c (Array.mem_toList_iff.mp hc))
section
variable {K : Fw} {E : XK} {μ : Wd} {H : Hp} {M : Mem}
/-- a new tuple, a new list -/
theorem new_tup {vs : List V} {ds : List D} {Q : VK} {p : Addr} (hm : RM K μ H M) (h : RVs K μ H vs ds) (hp : H p = none) (q : OutE K E μ H (.ok (.tup ds) M) Q) : Q (.ref p) (upd H p (.tup vs)) :=
  q μ _ _ (Le.new hp) (hm.new hp) (.tup (.inl (.inl upd_same)) (h.le hm (Le.new hp)))
theorem new_lst {vs : List V} {ds : List D} {Q : VK} {p : Addr} (hm : RM K μ H M) (h : RVs K μ H vs ds) (hp : H p = none) (q : OutE K E μ H (.ok (.lst ds) M) Q) : Q (.ref p) (upd H p (.lst vs)) :=
  q μ _ _ (Le.new hp) (hm.new hp) (.lst upd_same (hm.freshOut hp) (h.le hm (Le.new hp)))
end
/-! ### + -/
/-- a list that can be added -/
@[simp] def lstM (M : Mem) : D → Option (List D)
  | .lst xs => some xs
  | .loc n => match M[n]? with
    | some (.lst xs) => some xs
    | _ => none
  | _ => none
theorem RV.lstM {K : Fw} {μ : Wd} {H : Hp} {M : Mem} (hm : RM K μ H M) {v : V} {d : D} {xs : List D} (h : RV K μ H v d) (e : Mi.lstM M d = some xs) : ∃ a vs, v = .ref a ∧ H a = some (.lst vs) ∧ RVs K μ H vs xs := by
  cases h with
  | @loc n a hn =>
    simp only [Mi.lstM] at e
    split at e
    · rename_i zs hx
      cases e
      obtain ⟨vs, h1, h2⟩ := hm.cell n a _ hn hx
      exact ⟨a, vs, rfl, h1, h2⟩
    · cases e
  | lst h n k => cases e; exact ⟨_, _, rfl, h, k⟩
  | tup h k => cases e
  | fro h k => cases e
  | non => cases e
  | bl b => cases e
  | int i => cases e
  | str x h => cases e
  | obj h n l k => cases e
  | dic h n l k => cases e
  | dcT h n l k j => cases e
  | glb a => cases e
  | ty n => cases e
  | xob h1 h2 h3 h4 h5 => cases e
@[simp] def fAdd : F2
  | .int i, .int j, M => some (.ok (.int (i + j)) M)
  | .str x, .str y, M => if x.length + y.length ≤ sizeLine then some (.ok (.str (x ++ y)) M) else none
  | .tup xs, .tup ys, M => if xs.length + ys.length ≤ sizeLine then some (.ok (.tup (xs ++ ys)) M) else none
  | a, b, M => match lstM M a, lstM M b with
    | some xs, some ys => if xs.length + ys.length ≤ sizeLine then some (.ok (.lst (xs ++ ys)) M) else none
    | _, _ => none
def rAddM (K : PySem.W.Frag) : R2 := rOr (rI0 fun i j => .int (i + j)) (rOr (fun x y H Q => ∃ i j, x = .str i ∧ y = .str j ∧ i.length + j.length ≤ sizeLine ∧ Q (.str (i ++ j)) H) (rOr (rCatA K) rCat))
theorem opr_add {X : Cx} : OpR X (binaryOp .Add) (rAddM X.K) := opr_or op_add (opr_or op_add_str (opr_or op_catA op_cat))
theorem RVs.nil_iff {K : Fw} {μ : Wd} {H : Hp} {vs : List V} {ds : List D} (h : RVs K μ H vs ds) : vs = [] ↔ ds = [] := by cases h <;> simp
theorem sim_add {K : Fw} {E : XK} : Sim2 K E (rAddM K) fAdd := fun μ H M x y a b res Q hm rx ry e q => by
  unfold fAdd at e
  split at e
  · cases e; cases rx; cases ry
    exact .inl ⟨_, _, rfl, rfl, q μ _ H Le.refl hm (.int _)⟩
  · split at e <;> cases e
    rename_i hl
    cases rx with | str _ h1 => cases ry with | str _ h2 =>
    exact .inr (.inl ⟨_, _, rfl, rfl, hl, q μ _ H Le.refl hm (.str _ (strOk_append h1 h2))⟩)
  · split at e <;> cases e
    rename_i hl
    cases rx with | tup s1 k1 => cases ry with | tup s2 k2 =>
    refine .inr (.inr (.inl ⟨_, _, _, _, rfl, rfl, s1, s2, by rw [k1.length, k2.length]; exact hl, fun e1 => ?_, fun e1 e2 => ?_, fun e1 e2 p hp => ?_⟩))
    · have := k1.nil_iff.mp e1
      subst this
      exact q μ _ H Le.refl hm (.tup s2 k2)
    · have := k2.nil_iff.mp e2
      subst this
      rw [List.append_nil] at q
      exact q μ _ H Le.refl hm (.tup s1 k1)
    · exact new_tup hm (k1.append k2) hp q
  · split at e
    · rename_i xs ys h1 h2
      split at e <;> cases e
      rename_i hl
      obtain ⟨p1, vs1, rfl, s1, k1⟩ := rx.lstM hm h1
      obtain ⟨p2, vs2, rfl, s2, k2⟩ := ry.lstM hm h2
      exact .inr (.inr (.inr ⟨_, _, _, _, rfl, rfl, s1, s2, by rw [k1.length, k2.length]; exact hl, fun p hp => new_lst hm (k1.append k2) hp q⟩))
    · cases e
/-! ### a[i] -/
@[simp] def fIx : F2
  | .str z, .int i, M => if z.length ≤ sizeLine then (atI z.cps.toList i).map fun c => .ok (.str ⟨#[c]⟩) M else none
  | a, .int i, M => match itemsM M a with
    | some (_, xs) => (atI xs i).map fun d => .ok d M
    | none => none
  | _, _, _ => none
theorem atI_mem {α : Type} {xs : List α} {i : Int} {x : α} (h : atI xs i = some x) : x ∈ xs := by
  unfold atI at h
  cases q : ixN xs.length i with
  | none => rw [q] at h; cases h
  | some j => rw [q] at h; exact List.mem_of_getElem? h
theorem RVs.atI {K : Fw} {μ : Wd} {H : Hp} {vs : List V} {ds : List D} {i : Int} {d : D} (h : RVs K μ H vs ds) (e : L2.atI ds i = some d) : ∃ v, L2.atI vs i = some v ∧ RV K μ H v d := by
  unfold L2.atI at e ⊢
  rw [h.length]
  cases q : ixN ds.length i with
  | none => rw [q] at e; cases e
  | some j =>
    rw [q] at e
    exact h.get e
theorem sim_ix {K : Fw} {E : XK} : Sim2 K E (rIx K) fIx := fun μ H M x y a b res Q hm rx ry e q => by
  unfold fIx at e
  split at e
  · split at e
    · rename_i z i hl
      cases rx with | str _ h1 =>
      cases ry
      cases h : L2.atI z.cps.toList i with
      | none => rw [h] at e; cases e
      | some c =>
        rw [h] at e; cases e
        exact .inr (.inr ⟨_, _, c, rfl, rfl, hl, h, q μ _ H Le.refl hm (.str _ (strOk_of fun c' hc' => by
          have : c' = c := by simpa using hc'
          rw [this]
          exact strOk_mem h1 c (atI_mem h)))⟩)
    · cases e
  · split at e
    · rename_i i _ _ b xs hx
      cases ry
      cases h : L2.atI xs i with
      | none => rw [h] at e; cases e
      | some d =>
        rw [h] at e; cases e
        obtain ⟨p, vs, rfl, rv, sq⟩ := rx.items hm hx
        obtain ⟨v, e1, e2⟩ := rv.atI h
        cases b with
        | true => exact .inl ⟨p, vs, _, v, rfl, rfl, sq, e1, q μ _ H Le.refl hm e2⟩
        | false => exact .inr (.inl ⟨p, vs, _, v, rfl, rfl, sq, e1, q μ _ H Le.refl hm e2⟩)
    · cases e
  · cases e
section
variable {X : Cx} {E : XK} {a b c e : Expr} {es : List Expr} {va vb vc : Ev} {pos : Pos}
theorem mv_add (ha : MV X E a va) (hb : MV X E b vb) : MV X E (.BinOp a .Add b pos) (vOp fAdd va vb) := mv_op opr_add sim_add ha hb
theorem mv_ix (ha : MV X E a va) (hb : MV X E b vb) (hs : PlainIx b := by intro _ _; rfl) : MV X E (.Subscript a b pos) (vOp fIx va vb) := PE.imp (pe_ix ix_seq ha hb hs) fun _ _ _ h => tr_op sim_ix h
/-! ### a[i:j] -/
abbrev EvP := Sl → Mem → Option (Res (Option Int))
abbrev trP (K : Fw) (E : XK) (v : EvP) : L2.St → Hp → (Option Int → Hp → Prop) → Prop := tr (fun _ _ (x : Option Int) d => x = d) K E v
def MP (X : Cx) (E : XK) (e : Option Expr) (v : EvP) : Prop := PO X e (trP X.kx E v)
@[simp] def vNoP : EvP := fun _ M => some (.ok none M)
@[simp] def vP (v : Ev) : EvP := fun ρ M => bnd (v ρ M) fun d M1 => match d with
  | .int i => some (.ok (some i) M1)
  | _ => none
theorem PO.imp {e : Option Expr} {t t' : L2.St → Hp → (Option Int → Hp → Prop) → Prop} (h : PO X e t) (i : ∀ σ H Q, t' σ H Q → t σ H Q) : PO X e t' := ⟨fun pins s σ H Q I q => h.run pins s σ H Q I (i σ H Q q)⟩
theorem mp_none : MP X E none vNoP := PO.imp po_none fun σ H Q ⟨μ, ρ, M, r, hs, hm, e, q⟩ => by
  cases e
  exact q μ _ H Le.refl hm rfl
theorem mp_some (h : MV X E e va) : MP X E (some e) (vP va) := PO.imp (po_some h) fun σ H Q ⟨μ, ρ, M, r, hs, hm, e, q⟩ => tr_bnd hs hm e q fun μ1 x H1 d M1 l hs1 hm1 rx e1 q1 => by
  split at e1 <;> cases e1
  cases rx
  exact ⟨_, rfl, q1 μ1 _ H1 Le.refl hm1 rfl⟩
def cutD (xs : List D) (lo hi : Option Int) : List D := (xs.drop (HT.sIx xs.length 0 lo)).take (HT.sIx xs.length xs.length hi - HT.sIx xs.length 0 lo)
@[simp] def fSl (a : D) (lo hi : Option Int) (M : Mem) : Option (Res D) := match a with
  | .str z => if z.length ≤ sizeLine then some (.ok (.str (cutS z lo hi)) M) else none
  | .tup xs => some (.ok (.tup (cutD xs lo hi)) M)
  | a => match lstM M a with
    | some xs => some (.ok (.lst (cutD xs lo hi)) M)
    | none => none
@[simp] def vSl (va : Ev) (vl vu : EvP) : Ev := fun ρ M => bnd (va ρ M) fun a M1 => bnd (vl ρ M1) fun l M2 => bnd (vu ρ M2) fun u M3 => fSl a l u M3
theorem RVs.cut {K : Fw} {μ : Wd} {H : Hp} {vs : List V} {ds : List D} (h : RVs K μ H vs ds) (lo hi : Option Int) : RVs K μ H (cutV vs lo hi) (cutD ds lo hi) := by
  unfold cutV cutD
  rw [h.length]
  exact (h.drop _).take _
theorem cut_all {vs : List V} {lo hi : Option Int} (h : HT.sIx vs.length 0 lo = 0 ∧ HT.sIx vs.length vs.length hi = vs.length) : cutV vs lo hi = vs := by
  unfold cutV
  rw [h.1, h.2, List.drop_zero, Nat.sub_zero, List.take_length]
theorem strOk_cut {z : Str} (h : PyData.strOk z = true) (lo hi : Option Int) : PyData.strOk (cutS z lo hi) = true := strOk_of fun c hc => by
  have hc : c ∈ ((z.cps.toList.drop (HT.sIx z.length 0 lo)).take (HT.sIx z.length z.length hi - HT.sIx z.length 0 lo)) := by
    unfold cutS at hc
    simpa using hc
  exact strOk_mem h c (List.mem_of_mem_drop (List.mem_of_mem_take hc))
theorem mv_slice {lo hi : Option Expr} {vl vu : EvP} {p2 : Pos} (he : MV X E e va) (hl : MP X E lo vl) (hu : MP X E hi vu) : MV X E (.Subscript e (.Slice lo hi none p2) pos) (vSl va vl vu) :=
  PE.imp (pe_slice (sl_str.or (sl_tupA.or sl_list)) he hl hu) fun σ H Q ⟨μ, ρ, M, r, hs, hm, e, q⟩ => tr_bnd hs hm e q fun μ1 x H1 a M1 l1 hs1 hm1 rx e1 q1 =>
    tr_bnd hs1 hm1 e1 q1 fun μ2 y H2 lo M2 l2 hs2 hm2 ry e2 q2 => tr_bnd hs2 hm2 e2 q2 fun μ3 z H3 hi M3 l3 hs3 hm3 rz e3 q3 => by
      subst ry rz
      have rx := (rx.le hm1 l2).le hm2 l3
      unfold fSl at e3
      split at e3
      · split at e3 <;> cases e3
        rename_i hl
        cases rx with | str _ h1 =>
        exact .inl ⟨_, rfl, hl, q3 μ3 _ H3 Le.refl hm3 (.str _ (strOk_cut h1 _ _))⟩
      · cases e3
        cases rx with | tup s1 k1 =>
        refine .inr (.inl ⟨_, _, rfl, s1, fun hw => ?_, fun hw p hp => ?_⟩)
        · refine q3 μ3 _ H3 Le.refl hm3 (.tup s1 ?_)
          have := k1.cut y z
          rw [cut_all hw] at this
          exact this
        · exact new_tup hm3 (k1.cut _ _) hp q3
      · split at e3
        · rename_i xs hx
          cases e3
          obtain ⟨p1, vs1, rfl, s1, k1⟩ := rx.lstM hm3 hx
          exact .inr (.inr ⟨_, _, rfl, SqL.of s1, fun p hp => new_lst hm3 (k1.cut _ _) hp q3⟩)
        · cases e3
/-! ### argument lists, displays -/
@[simp] def vNil : EvA := fun _ M => some (.ok [] M)
@[simp] def vCons (v : Ev) (vs : EvA) : EvA := fun ρ M => bnd (v ρ M) fun d M1 => bnd (vs ρ M1) fun ds M2 => some (.ok (d :: ds) M2)
theorem ma_nil : MA X E [] vNil := PA.imp pa_nil fun σ H Q ⟨μ, ρ, M, r, hs, hm, e, q⟩ => by
  cases e
  exact q μ _ H Le.refl hm .nil
theorem ma_cons {vs : EvA} (ha : MV X E e va) (hr : MA X E es vs) (hs : starEach (e :: es) X.env = (false, eval e X.env) :: starEach es X.env := by rfl) : MA X E (e :: es) (vCons va vs) :=
  PA.imp (pa_cons ha hr hs) fun σ H Q ⟨μ, ρ, M, r, hs, hm, e, q⟩ => tr_bnd hs hm e q fun μ1 x H1 d M1 l1 hs1 hm1 rx e1 q1 => tr_bnd hs1 hm1 e1 q1 fun μ2 y H2 ds M2 l2 hs2 hm2 ry e2 q2 => by
    cases e2
    exact q2 μ2 _ H2 Le.refl hm2 (.cons (rx.le hm1 l2) ry)
@[simp] def vTup (vs : EvA) : Ev := fun ρ M => bnd (vs ρ M) fun ds M1 => if ds.length ≤ sizeLine then some (.ok (.tup ds) M1) else none
@[simp] def vLst (vs : EvA) : Ev := fun ρ M => bnd (vs ρ M) fun ds M1 => if ds.length ≤ sizeLine then some (.ok (.lst ds) M1) else none
/-- a list that will be changed -/
@[simp] def vCell (vs : EvA) : Ev := fun ρ M => bnd (vs ρ M) fun ds M1 => if ds.length ≤ sizeLine then some (.ok (.loc M1.length) (M1 ++ [.lst ds])) else none
theorem mv_tup {vs : EvA} {x1} (h : MA X E es vs) : MV X E (.Tuple es x1 pos) (vTup vs) := PE.imp (pe_tup h) fun σ H Q ⟨μ, ρ, M, r, hs, hm, e, q⟩ => tr_bnd hs hm e q fun μ1 x H1 d M1 l1 hs1 hm1 rx e1 q1 => by
  split at e1 <;> cases e1
  rename_i hl
  exact ⟨by rw [rx.length]; exact hl, fun p hp => new_tup hm1 rx hp q1⟩
theorem mv_lst {vs : EvA} (h : MA X E es vs) : MV X E (.List es pos) (vLst vs) := PE.imp (pe_lst h) fun σ H Q ⟨μ, ρ, M, r, hs, hm, e, q⟩ => tr_bnd hs hm e q fun μ1 x H1 d M1 l1 hs1 hm1 rx e1 q1 => by
  split at e1 <;> cases e1
  rename_i hl
  exact ⟨by rw [rx.length]; exact hl, fun p hp => new_lst hm1 rx hp q1⟩
theorem new_cell {K : Fw} {μ : Wd} {H : Hp} {M : Mem} {vs : List V} {ds : List D} {Q : VK} {p : Addr} (hm : RM K μ H M) (h : RVs K μ H vs ds) (hp : H p = none) (q : OutE K E μ H (.ok (.loc M.length) (M ++ [.lst ds])) Q) : Q (.ref p) (upd H p (.lst vs)) :=
  q (μ.push p) _ _ (Le.newc hp) (hm.newc hp ⟨vs, upd_same, h.le hm (Le.newc hp)⟩) (.loc (by rw [← hm.len]; show (μ.c ++ [p])[μ.c.length]? = some p; simp))
theorem mv_cell {vs : EvA} (h : MA X E es vs) : MV X E (.List es pos) (vCell vs) := PE.imp (pe_lst h) fun σ H Q ⟨μ, ρ, M, r, hs, hm, e, q⟩ => tr_bnd hs hm e q fun μ1 x H1 d M1 l1 hs1 hm1 rx e1 q1 => by
  split at e1 <;> cases e1
  rename_i hl
  exact ⟨by rw [rx.length]; exact hl, fun p hp => new_cell hm1 rx hp q1⟩
/-! ### calls of built-ins -/
abbrev FC := List D → Mem → Option (Res D)
def SimC (K : Fw) (E : XK) (r : List V → Hp → VK → Prop) (f : FC) : Prop := ∀ (μ : Wd) (H : Hp) (M : Mem) (xs : List V) (as : List D) (res : Res D) (Q : VK), RM K μ H M → RVs K μ H xs as → f as M = some res → OutE K E μ H res Q → r xs H Q
@[simp] def vCall (f : FC) (vs : EvA) : Ev := fun ρ M => bnd (vs ρ M) fun ds M1 => f ds M1
theorem tr_call {r : List V → Hp → VK → Prop} {f : FC} {vs : EvA} (k : SimC X.kx E r f) {σ : L2.St} {H : Hp} {Q : VK} (h : trE X.kx E (vCall f vs) σ H Q) : tCB r (trA X.kx E vs) σ H Q := by
  obtain ⟨μ, ρ, M, res, hs, hm, e, q⟩ := h
  exact tr_bnd hs hm e q fun μ1 x H1 a M1 l hs1 hm1 rx e1 q1 => k μ1 H1 M1 x a _ Q hm1 rx e1 q1
theorem mv_callB {id : String} {x : Str} {p : Pos} {r : List V → Hp → VK → Prop} {f : FC} {vs : EvA} (hc : CallR X (.builtin id) r) (k : SimC X.kx E r f) (hg : Gl X x) (hm : X.mg x = none) (hv : bootBuiltins x = some (.builtin id)) (ha : MA X E (e :: es) vs)
    (hn : x ≠ "__name__" := by decide) (hdb : (x == ("__debug__" : Str)) = false := by decide) (he : starEach (e :: es) X.env = (false, eval e X.env) :: starEach es X.env := by rfl) (hpl : (backTo pos (starEach es X.env)).any (·.1) = false := by rfl) :
    MV X E (.Call (.Name x p) (e :: es) [] pos) (vCall f vs) := PE.imp (pe_callB hc hg hm hv ha hn hdb he hpl) fun _ _ _ h => tr_call k h
theorem mv_callTy {T : String} {x : Str} {p : Pos} {r : List V → Hp → VK → Prop} {f : FC} {vs : EvA} (hc : CallR X (.type T) r) (k : SimC X.kx E r f) (hg : Gl X x) (hm : X.mg x = none) (hv : bootBuiltins x = some (.type T)) (ha : MA X E (e :: es) vs)
    (hn : x ≠ "__name__" := by decide) (hdb : (x == ("__debug__" : Str)) = false := by decide) (he : starEach (e :: es) X.env = (false, eval e X.env) :: starEach es X.env := by rfl) (hpl : (backTo pos (starEach es X.env)).any (·.1) = false := by rfl) :
    MV X E (.Call (.Name x p) (e :: es) [] pos) (vCall f vs) := PE.imp (pe_callTy hc hg hm hv ha hn hdb he hpl) fun _ _ _ h => tr_call k h
end
section
variable {K : Fw} {E : XK}
theorem RVs.one {μ : Wd} {H : Hp} {xs : List V} {d : D} (h : RVs K μ H xs [d]) : ∃ x, xs = [x] ∧ RV K μ H x d := by
  cases h with | cons h t => cases t; exact ⟨_, rfl, h⟩
theorem RVs.two {μ : Wd} {H : Hp} {xs : List V} {d e : D} (h : RVs K μ H xs [d, e]) : ∃ x y, xs = [x, y] ∧ RV K μ H x d ∧ RV K μ H y e := by
  cases h with | cons h t => cases t with | cons k t => cases t; exact ⟨_, _, rfl, h, k⟩
@[simp] def cAbs : FC
  | [.int i], M => some (.ok (.int (if i < 0 then -i else i)) M)
  | _, _ => none
theorem sim_abs : SimC K E (fun xs H Q => ∃ i, xs = [.int i] ∧ Q (.int (if i < 0 then -i else i)) H) cAbs := fun μ H M xs as res Q hm rx e q => by
  unfold cAbs at e
  split at e <;> cases e
  obtain ⟨x, rfl, r⟩ := rx.one
  cases r
  exact ⟨_, rfl, q μ _ H Le.refl hm (.int _)⟩
@[simp] def cInt : FC
  | [.int i], M => some (.ok (.int i) M)
  | [.bl k], M => some (.ok (.int (if k then 1 else 0)) M)
  | _, _ => none
theorem sim_int : SimC K E (fun xs H Q => (∃ i, xs = [.int i] ∧ Q (.int i) H) ∨ ∃ k, xs = [.bl k] ∧ Q (.int (if k then 1 else 0)) H) cInt := fun μ H M xs as res Q hm rx e q => by
  unfold cInt at e
  split at e <;> cases e <;> obtain ⟨x, rfl, r⟩ := rx.one <;> cases r
  · exact .inl ⟨_, rfl, q μ _ H Le.refl hm (.int _)⟩
  · exact .inr ⟨_, rfl, q μ _ H Le.refl hm (.int _)⟩
@[simp] def cMax2 : FC
  | [.int i, .int j], M => some (.ok (.int (if j > i then j else i)) M)
  | _, _ => none
@[simp] def cMin2 : FC
  | [.int i, .int j], M => some (.ok (.int (if j < i then j else i)) M)
  | _, _ => none
theorem sim_max2 : SimC K E (fun xs H Q => ∃ i j, xs = [.int i, .int j] ∧ Q (.int (if j > i then j else i)) H) cMax2 := fun μ H M xs as res Q hm rx e q => by
  unfold cMax2 at e
  split at e <;> cases e
  obtain ⟨x, y, rfl, r, s⟩ := rx.two
  cases r; cases s
  exact ⟨_, _, rfl, q μ _ H Le.refl hm (.int _)⟩
theorem sim_min2 : SimC K E (fun xs H Q => ∃ i j, xs = [.int i, .int j] ∧ Q (.int (if j < i then j else i)) H) cMin2 := fun μ H M xs as res Q hm rx e q => by
  unfold cMin2 at e
  split at e <;> cases e
  obtain ⟨x, y, rfl, r, s⟩ := rx.two
  cases r; cases s
  exact ⟨_, _, rfl, q μ _ H Le.refl hm (.int _)⟩
/-- how long -/
@[simp] def lenM (M : Mem) : D → Option Nat
  | .str y => if y.length ≤ sizeLine then some y.length else none
  | d => (itemsM M d).map fun p => p.2.length
@[simp] def cLen : FC
  | [d], M => (lenM M d).map fun n => .ok (.int n) M
  | _, _ => none
theorem sim_len : SimC K E (fun xs H Q => ∃ x n, xs = [x] ∧ LenV K x H n ∧ Q (.int n) H) cLen := fun μ H M xs as res Q hm rx e q => by
  unfold cLen at e
  split at e
  · rename_i d
    obtain ⟨x, rfl, r⟩ := rx.one
    cases h : lenM M d with
    | none => rw [h] at e; cases e
    | some n =>
      rw [h] at e; cases e
      refine ⟨x, n, rfl, ?_, q μ _ H Le.refl hm (.int _)⟩
      unfold lenM at h
      split at h
      · split at h <;> cases h
        rename_i hl
        cases r
        exact ⟨hl, rfl⟩
      · cases g : itemsM M d with
        | none => rw [g] at h; cases h
        | some p =>
          rw [g] at h; cases h
          obtain ⟨a, vs, rfl, rv, sq⟩ := r.items hm g
          obtain ⟨b, xs⟩ := p
          cases b with
          | true => exact .inl ⟨vs, sq, rv.length.symm⟩
          | false => exact .inr ⟨vs, sq, rv.length.symm⟩
  · cases e
/-- tuple(..) of a list or a tuple -/
@[simp] def cTup : FC
  | [d], M => (itemsM M d).map fun p => .ok (.tup p.2) M
  | _, _ => none
theorem sim_tup : SimC K E (fun xs H Q => ∃ p ys, xs = [V.ref p] ∧ ((SqL K H p ys ∧ ∀ l, H l = none → Q (.ref l) (upd H l (.tup ys))) ∨ (SqT K H p ys ∧ Q (.ref p) H))) cTup := fun μ H M xs as res Q hm rx e q => by
  unfold cTup at e
  split at e
  · rename_i d
    obtain ⟨x, rfl, r⟩ := rx.one
    cases g : itemsM M d with
    | none => rw [g] at e; cases e
    | some p =>
      rw [g] at e; cases e
      obtain ⟨a, vs, rfl, rv, sq⟩ := r.items hm g
      obtain ⟨b, xs⟩ := p
      cases b with
      | true => exact ⟨a, vs, rfl, .inl ⟨sq, fun l hl => new_tup hm rv hl q⟩⟩
      | false => exact ⟨a, vs, rfl, .inr ⟨sq, q μ _ H Le.refl hm (.tup sq rv)⟩⟩
  · cases e
@[simp] def dBl : List D → Option (List Bool)
  | [] => some []
  | .bl b :: r => (dBl r).map (b :: ·)
  | _ :: _ => none
@[simp] def dIn : List D → Option (List Int)
  | [] => some []
  | .int i :: r => (dIn r).map (i :: ·)
  | _ :: _ => none
@[simp] def dSt : List D → Option (List Str)
  | [] => some []
  | .str x :: r => (dSt r).map (x :: ·)
  | _ :: _ => none
theorem RVs.dBl {μ : Wd} {H : Hp} : ∀ {ds : List D} {vs : List V} {bs : List Bool}, RVs K μ H vs ds → Mi.dBl ds = some bs → vs = bs.map V.bl
  | [], _, _, .nil, e => by cases e; rfl
  | .bl b :: r, _, bs, .cons h t, e => by
    cases h
    simp only [Mi.dBl] at e
    cases q : Mi.dBl r with
    | none => rw [q] at e; cases e
    | some cs => rw [q] at e; cases e; rw [RVs.dBl t q]; rfl
theorem RVs.dIn {μ : Wd} {H : Hp} : ∀ {ds : List D} {vs : List V} {bs : List Int}, RVs K μ H vs ds → Mi.dIn ds = some bs → vs = bs.map V.int
  | [], _, _, .nil, e => by cases e; rfl
  | .int b :: r, _, bs, .cons h t, e => by
    cases h
    simp only [Mi.dIn] at e
    cases q : Mi.dIn r with
    | none => rw [q] at e; cases e
    | some cs => rw [q] at e; cases e; rw [RVs.dIn t q]; rfl
theorem RVs.dSt {μ : Wd} {H : Hp} : ∀ {ds : List D} {vs : List V} {bs : List Str}, RVs K μ H vs ds → Mi.dSt ds = some bs → vs = bs.map V.str ∧ ∀ x ∈ bs, PyData.strOk x = true
  | [], _, _, .nil, e => by cases e; exact ⟨rfl, fun x h => by cases h⟩
  | .str b :: r, _, bs, .cons h t, e => by
    cases h with | str _ hb =>
    simp only [Mi.dSt] at e
    cases q : Mi.dSt r with
    | none => rw [q] at e; cases e
    | some cs =>
      rw [q] at e; cases e
      obtain ⟨h1, h2⟩ := RVs.dSt t q
      rw [h1]
      exact ⟨rfl, fun x hx => by
        rcases List.mem_cons.mp hx with z | z
        · rw [z]; exact hb
        · exact h2 x z⟩
theorem rvs_strs {μ : Wd} {H : Hp} : ∀ {ss : List Str}, (∀ x ∈ ss, PyData.strOk x = true) → RVs K μ H (ss.map V.str) (ss.map D.str)
  | [], _ => .nil
  | x :: r, h => .cons (.str x (h x List.mem_cons_self)) (rvs_strs fun y hy => h y (List.mem_cons_of_mem _ hy))
/-- the items of a list -/
@[simp] def litM (M : Mem) (d : D) : Option (List D) := match itemsM M d with
  | some (true, xs) => some xs
  | _ => none
theorem RV.lit {μ : Wd} {H : Hp} {M : Mem} (hm : RM K μ H M) {v : V} {d : D} {xs : List D} (h : RV K μ H v d) (e : litM M d = some xs) : ∃ a vs, v = .ref a ∧ RVs K μ H vs xs ∧ SqL K H a vs := by
  unfold litM at e
  split at e
  · rename_i ys g
    cases e
    exact h.items hm g
  · cases e
@[simp] def cAll : FC
  | [d], M => match litM M d with
    | some xs => (dBl xs).map fun bs => .ok (.bl (bs.all id)) M
    | none => none
  | _, _ => none
@[simp] def cAny : FC
  | [d], M => match litM M d with
    | some xs => (dBl xs).map fun bs => .ok (.bl (bs.any id)) M
    | none => none
  | _, _ => none
@[simp] def cSum : FC
  | [d], M => match litM M d with
    | some xs => (dIn xs).map fun bs => .ok (.int bs.sum) M
    | none => none
  | _, _ => none
theorem sim_all : SimC K E (rAll K) cAll := fun μ H M xs as res Q hm rx e q => by
  unfold cAll at e
  split at e
  · obtain ⟨x, rfl, r⟩ := rx.one
    split at e
    · rename_i ys g
      cases h : dBl ys with
      | none => rw [h] at e; cases e
      | some bs =>
        rw [h] at e; cases e
        obtain ⟨a, vs, rfl, rv, sq⟩ := r.lit hm g
        rw [rv.dBl h] at sq
        exact ⟨a, bs, rfl, sq, q μ _ H Le.refl hm (.bl _)⟩
    · cases e
  · cases e
theorem sim_any : SimC K E (rAny K) cAny := fun μ H M xs as res Q hm rx e q => by
  unfold cAny at e
  split at e
  · obtain ⟨x, rfl, r⟩ := rx.one
    split at e
    · rename_i ys g
      cases h : dBl ys with
      | none => rw [h] at e; cases e
      | some bs =>
        rw [h] at e; cases e
        obtain ⟨a, vs, rfl, rv, sq⟩ := r.lit hm g
        rw [rv.dBl h] at sq
        exact ⟨a, bs, rfl, sq, q μ _ H Le.refl hm (.bl _)⟩
    · cases e
  · cases e
theorem sim_sum : SimC K E (rSum K) cSum := fun μ H M xs as res Q hm rx e q => by
  unfold cSum at e
  split at e
  · obtain ⟨x, rfl, r⟩ := rx.one
    split at e
    · rename_i ys g
      cases h : dIn ys with
      | none => rw [h] at e; cases e
      | some bs =>
        rw [h] at e; cases e
        obtain ⟨a, vs, rfl, rv, sq⟩ := r.lit hm g
        rw [rv.dIn h] at sq
        exact ⟨a, bs, rfl, sq, q μ _ H Le.refl hm (.int _)⟩
    · cases e
  · cases e
end
/-! ### a def's promise by its mirror -/
def spM (K : Fw) (n : Nat) (g : FC) : Sp := fun vs H Q E => vs.length = n ∧ ∃ μ M ds r, RVs K μ H vs ds ∧ RM K μ H M ∧ g ds M = some r ∧ OutE K E μ H r Q
abbrev OkM (P : Program) (w : World) (K : PySem.W.Frag) (mg : Str → Option Value) (base : Heap) (k : Nat) (f : Addr) (fd : FuncData) (ps : List Str) (g : FC) : Prop := FnOk P w K mg base (L2.CX P w) k f fd ps (spM ⟨K, w⟩ ps.length g)
section
variable {X : Cx} {E : XK} {e : Expr} {es : List Expr} {k : Nat} {f : Addr} {fd : FuncData} {ps : List Str} {g : FC} {x : Str} {p pos : Pos} {vs : EvA} {dvs : List V} {dds : List D} {ds : List Value}
/-- some arguments, then the defaults; as many as there are parameters -/
@[simp] def vFn (g : FC) (n : Nat) (dds : List D) (vs : EvA) : Ev := fun ρ M => bnd (vs ρ M) fun ds M1 => if (ds ++ dds).length = n then g (ds ++ dds) M1 else none
theorem tr_fn (hd : ∀ μ H, RVs X.kx μ H dvs dds) {σ : L2.St} {H : Hp} {Q : VK} (h : trE X.kx E (vFn g ps.length dds vs) σ H Q) : tCall (spM X.kx ps.length g) dvs E (trA X.kx E vs) σ H Q := by
  obtain ⟨μ, ρ, M, res, hs, hm, e, q⟩ := h
  refine tr_bnd hs hm e q fun μ1 xs H1 a M1 l hs1 hm1 rx e1 q1 => ?_
  split at e1
  · rename_i hl
    have r2 := rx.append (hd μ1 H1)
    exact ⟨by rw [r2.length]; exact hl, μ1, M1, _, _, r2, hm1, e1, q1⟩
  · cases e1
theorem mv_fn (F : OkM X.prog X.w X.K X.mg X.base k f fd ps g) (hr : Room k X.A) (hg : Gl X x) (hm : X.mg x = some (.ref f)) (hk : PySem.W.keepIn X.K (.ref f) = true) (hb : Binds X.K fd ps ds) (hv : Vals dvs ds) (hd : ∀ μ H, RVs X.kx μ H dvs dds) (hx : Passes (L2.CX X.prog X.w) X E)
    (ha : MA X E (e :: es) vs) (hdb : (x == ("__debug__" : Str)) = false := by decide) (he : starEach (e :: es) X.env = (false, eval e X.env) :: starEach es X.env := by rfl) (hpl : (backTo pos (starEach es X.env)).any (·.1) = false := by rfl) :
    MV X E (.Call (.Name x p) (e :: es) [] pos) (vFn g ps.length dds vs) := PE.imp (pe_call F hr hg hm hk hb hv hx ha hdb he hpl) fun _ _ _ h => tr_fn hd h
theorem tr_nil {σ : L2.St} {H : Hp} {Q : List V → Hp → Prop} (h : trA X.kx E vNil σ H Q) : tNil σ H Q := by
  obtain ⟨μ, ρ, M, r, hs, hm, e, q⟩ := h
  cases e
  exact q μ _ H Le.refl hm .nil
theorem mv_fn0 (F : OkM X.prog X.w X.K X.mg X.base k f fd ps g) (hr : Room k X.A) (hg : Gl X x) (hm : X.mg x = some (.ref f)) (hk : PySem.W.keepIn X.K (.ref f) = true) (hb : Binds X.K fd ps ds) (hv : Vals dvs ds) (hd : ∀ μ H, RVs X.kx μ H dvs dds) (hx : Passes (L2.CX X.prog X.w) X E)
    (hdb : (x == ("__debug__" : Str)) = false := by decide) : MV X E (.Call (.Name x p) [] [] pos) (vFn g ps.length dds vNil) := PE.imp (pe_call0 F hr hg hm hk hb hv hx hdb) fun _ _ _ h => tr_nil (tr_fn hd h)
end
end Mi
set_option autoImplicit false
/-! Statements and their mirrors. -/
namespace Mi
open PySem PySem.Spec L2
/-- how a statement ends -/
inductive Fl where
  | nx (ρ : Sl) (M : Mem) | rt (d : D) (M : Mem) | bk (ρ : Sl) (M : Mem) | ct (ρ : Sl) (M : Mem) | er (x : Exn) (M : Mem)
abbrev Sv := Sl → Mem → Option Fl
def OutS (K : Fw) (E : XK) (μ : Wd) (H : Hp) (r : Fl) (D : Ends) : Prop := match r with
  | .nx ρ' M' => ∀ μ' σ' H', Le μ H μ' H' → RM K μ' H' M' → RS K μ' H' σ' ρ' → D.nx σ' H'
  | .rt d M' => ∀ μ' x H', Le μ H μ' H' → RM K μ' H' M' → RV K μ' H' x d → D.rt x H'
  | .bk ρ' M' => ∀ μ' σ' H', Le μ H μ' H' → RM K μ' H' M' → RS K μ' H' σ' ρ' → D.bk σ' H'
  | .ct ρ' M' => ∀ μ' σ' H', Le μ H μ' H' → RM K μ' H' M' → RS K μ' H' σ' ρ' → D.ct σ' H'
  | .er x M' => ∀ μ' H' C d, Le μ H μ' H' → RM K μ' H' M' → RX K μ' H' C d x → E C d H'
def trS (K : Fw) (E : XK) (v : Sv) : TS := fun D σ H => ∃ μ ρ M r, RS K μ H σ ρ ∧ RM K μ H M ∧ v ρ M = some r ∧ OutS K E μ H r D
theorem OutS.le {K : Fw} {E : XK} {μ μ1 : Wd} {H H1 : Hp} {r : Fl} {D : Ends} (l : Le μ H μ1 H1) (h : OutS K E μ H r D) : OutS K E μ1 H1 r D := by
  cases r with
  | nx ρ M => exact fun μ' σ' H' l' => h μ' σ' H' (l.trans l')
  | rt d M => exact fun μ' σ' H' l' => h μ' σ' H' (l.trans l')
  | bk ρ M => exact fun μ' σ' H' l' => h μ' σ' H' (l.trans l')
  | ct ρ M => exact fun μ' σ' H' l' => h μ' σ' H' (l.trans l')
  | er x M => exact fun μ' H' C d l' => h μ' H' C d (l.trans l')
def MS (X : Cx) (E : XK) (st : Stmt) (v : Sv) : Prop := PS X st (trS X.kx E v)
def MSs (X : Cx) (E : XK) (sts : List Stmt) (v : Sv) : Prop := PSs X sts (trS X.kx E v)
theorem PS.imp {X : Cx} {st : Stmt} {t t' : TS} (h : PS X st t) (i : ∀ D σ H, t' D σ H → t D σ H) : PS X st t' := ⟨fun pins s σ H D I q => h.run pins s σ H D I (i D σ H q)⟩
theorem PSs.imp {X : Cx} {st : List Stmt} {t t' : TS} (h : PSs X st t) (i : ∀ D σ H, t' D σ H → t D σ H) : PSs X st t' := ⟨fun pins s σ H D I q => h.run pins s σ H D I (i D σ H q)⟩
/-- an expression, then a rest that ends a statement -/
def bndS {α : Type} (r : Option (Res α)) (k : α → Mem → Option Fl) : Option Fl := match r with
  | some (.ok a M) => k a M
  | some (.err x M) => some (.er x M)
  | none => none
@[simp] theorem bndS_ok {α : Type} {a : α} {M : Mem} {k : α → Mem → Option Fl} : bndS (some (.ok a M)) k = k a M := rfl
@[simp] theorem bndS_err {α : Type} {x : Exn} {M : Mem} {k : α → Mem → Option Fl} : bndS (some (.err x M)) k = some (.er x M) := rfl
@[simp] theorem bndS_none {α : Type} {k : α → Mem → Option Fl} : bndS none k = none := rfl
theorem trS_bnd {α β : Type} {R : Wd → Hp → β → α → Prop} {K : Fw} {E : XK} {v : Sl → Mem → Option (Res α)} {k : α → Mem → Option Fl} {μ : Wd} {ρ : Sl} {M : Mem} {σ : L2.St} {H : Hp} {r : Fl} {D : Ends}
    {P : β → Hp → Prop} (hs : RS K μ H σ ρ) (hm : RM K μ H M) (e : bndS (v ρ M) k = some r) (q : OutS K E μ H r D)
    (step : ∀ μ1 x H1 a M1, Le μ H μ1 H1 → RS K μ1 H1 σ ρ → RM K μ1 H1 M1 → R μ1 H1 x a → k a M1 = some r → OutS K E μ1 H1 r D → P x H1) : tr R K E v σ H P := by
  cases h : v ρ M with
  | none => rw [h] at e; cases e
  | some r1 =>
    refine ⟨μ, ρ, M, r1, hs, hm, h, ?_⟩
    rw [h] at e
    cases r1 with
    | err x M1 => cases e; exact q
    | ok a M1 => exact fun μ1 x H1 l m1 rx => step μ1 x H1 a M1 l (hs.le hm l) m1 rx e (q.le l)
section
variable {X : Cx} {E : XK} {st : Stmt} {sts : List Stmt} {va vb : Sv} {e : Expr} {ve : Ev} {pos : Pos}
/-! ### rows of statements -/
@[simp] def vSkip : Sv := fun ρ M => some (.nx ρ M)
@[simp] def vSeq (a b : Sv) : Sv := fun ρ M => match a ρ M with
  | some (.nx ρ1 M1) => b ρ1 M1
  | r => r
theorem mss_nil : MSs X E [] vSkip := PSs.imp pss_nil fun D σ H ⟨μ, ρ, M, r, hs, hm, e, q⟩ => by
  cases e
  exact q μ σ H Le.refl hm hs
theorem mss_cons (h1 : MS X E st va) (h2 : MSs X E sts vb) : MSs X E (st :: sts) (vSeq va vb) := PSs.imp (pss_cons h1 h2) fun D σ H ⟨μ, ρ, M, r, hs, hm, e, q⟩ => by
  unfold vSeq at e
  cases h : va ρ M with
  | none => rw [h] at e; cases e
  | some r1 =>
    refine ⟨μ, ρ, M, r1, hs, hm, h, ?_⟩
    rw [h] at e
    cases r1 with
    | nx ρ1 M1 => exact fun μ1 σ1 H1 l m1 s1 => ⟨μ1, ρ1, M1, r, s1, m1, e, q.le l⟩
    | rt d M1 => cases e; exact q
    | bk ρ1 M1 => cases e; exact q
    | ct ρ1 M1 => cases e; exact q
    | er x M1 => cases e; exact q
theorem mss_one (h1 : MS X E st va) : MSs X E [st] va := pss_one h1
theorem ms_pass : MS X E (.Pass pos) vSkip := PS.imp ps_pass fun D σ H ⟨μ, ρ, M, r, hs, hm, e, q⟩ => by
  cases e
  exact q μ σ H Le.refl hm hs
@[simp] def vBreak : Sv := fun ρ M => some (.bk ρ M)
@[simp] def vCont : Sv := fun ρ M => some (.ct ρ M)
theorem ms_break : MS X E (.Break pos) vBreak := PS.imp ps_break fun D σ H ⟨μ, ρ, M, r, hs, hm, e, q⟩ => by
  cases e
  exact q μ σ H Le.refl hm hs
theorem ms_cont : MS X E (.Continue pos) vCont := PS.imp ps_continue fun D σ H ⟨μ, ρ, M, r, hs, hm, e, q⟩ => by
  cases e
  exact q μ σ H Le.refl hm hs
/-- code that is not come to -/
@[simp] def vNever : Sv := fun _ _ => none
theorem ms_never : MS X E st vNever := PS.imp ps_never fun D σ H ⟨μ, ρ, M, r, hs, hm, e, q⟩ => by cases e
theorem mss_never : MSs X E sts vNever := PSs.imp pss_never fun D σ H ⟨μ, ρ, M, r, hs, hm, e, q⟩ => by cases e
@[simp] def vExpr (v : Ev) : Sv := fun ρ M => bndS (v ρ M) fun _ M1 => some (.nx ρ M1)
theorem ms_expr (he : MV X E e ve) (hs : swapsWith e none pos.line X.env = pure false := by rfl) : MS X E (.Expr e pos) (vExpr ve) := PS.imp (ps_expr he hs) fun D σ H ⟨μ, ρ, M, r, hs, hm, e, q⟩ =>
  trS_bnd hs hm e q fun μ1 x H1 a M1 l hs1 hm1 rx e1 q1 => by
    cases e1
    exact q1 μ1 σ H1 Le.refl hm1 hs1
@[simp] def vRet (v : Ev) : Sv := fun ρ M => bndS (v ρ M) fun d M1 => some (.rt d M1)
theorem ms_ret (he : MV X E e ve) : MS X E (.Return (some e) pos) (vRet ve) := PS.imp (ps_ret he) fun D σ H ⟨μ, ρ, M, r, hs, hm, e, q⟩ =>
  trS_bnd hs hm e q fun μ1 x H1 a M1 l hs1 hm1 rx e1 q1 => by
    cases e1
    exact q1 μ1 x H1 Le.refl hm1 rx
@[simp] def vRetN : Sv := fun _ M => some (.rt .non M)
theorem ms_retN : MS X E (.Return none pos) vRetN := PS.imp ps_retN fun D σ H ⟨μ, ρ, M, r, hs, hm, e, q⟩ => by
  cases e
  exact q μ _ H Le.refl hm .non
@[simp] def vIfS (c : EvT) (a b : Sv) : Sv := fun ρ M => bndS (c ρ M) fun k M1 => if k = true then a ρ M1 else b ρ M1
theorem ms_if {c : Expr} {a b : List Stmt} {tc : EvT} (hc : MT X E c tc) (ha : MSs X E a va) (hb : MSs X E b vb) : MS X E (.If c a b pos) (vIfS tc va vb) := PS.imp (ps_if hc ha hb) fun D σ H ⟨μ, ρ, M, r, hs, hm, e, q⟩ =>
  trS_bnd hs hm e q fun μ1 x H1 a M1 l hs1 hm1 rx e1 q1 => by
    subst rx
    cases x with
    | true => rw [if_pos rfl] at e1 ⊢; exact ⟨μ1, ρ, M1, r, hs1, hm1, e1, q1⟩
    | false => rw [if_neg Bool.false_ne_true] at e1 ⊢; exact ⟨μ1, ρ, M1, r, hs1, hm1, e1, q1⟩
/-! ### targets -/
abbrev Gv := D → Sl → Mem → Option (Res Sl)
abbrev Gvs := List D → Sl → Mem → Option (Res Sl)
def OutG (K : Fw) (E : XK) (μ : Wd) (H : Hp) (r : Res Sl) (Q : L2.St → Hp → Prop) : Prop := match r with
  | .ok ρ' M' => ∀ μ' σ' H', Le μ H μ' H' → RM K μ' H' M' → RS K μ' H' σ' ρ' → Q σ' H'
  | .err x M' => ∀ μ' H' C d, Le μ H μ' H' → RM K μ' H' M' → RX K μ' H' C d x → E C d H'
theorem OutG.le {K : Fw} {E : XK} {μ μ1 : Wd} {H H1 : Hp} {r : Res Sl} {Q : L2.St → Hp → Prop} (l : Le μ H μ1 H1) (h : OutG K E μ H r Q) : OutG K E μ1 H1 r Q := by
  cases r with
  | ok ρ M => exact fun μ' σ' H' l' => h μ' σ' H' (l.trans l')
  | err x M => exact fun μ' H' C d l' => h μ' H' C d (l.trans l')
def trG (K : Fw) (E : XK) (g : Gv) : TG := fun v σ H Q => ∃ μ ρ M d r, RS K μ H σ ρ ∧ RM K μ H M ∧ RV K μ H v d ∧ g d ρ M = some r ∧ OutG K E μ H r Q
def trGs (K : Fw) (E : XK) (g : Gvs) : TGs := fun vs σ H Q => ∃ μ ρ M ds r, RS K μ H σ ρ ∧ RM K μ H M ∧ RVs K μ H vs ds ∧ g ds ρ M = some r ∧ OutG K E μ H r Q
def MG (X : Cx) (E : XK) (tg : Expr) (g : Gv) : Prop := PG X tg (trG X.kx E g)
def MGs (X : Cx) (E : XK) (tgs : List Expr) (g : Gvs) : Prop := PGs X tgs (trGs X.kx E g)
theorem PG.imp {tg : Expr} {t t' : TG} (h : PG X tg t) (i : ∀ v σ H Q, t' v σ H Q → t v σ H Q) : PG X tg t' := ⟨fun pins s σ H v u Q I r q => h.run pins s σ H v u Q I r (i v σ H Q q)⟩
theorem PGs.imp {tg : List Expr} {t t' : TGs} (h : PGs X tg t) (i : ∀ v σ H Q, t' v σ H Q → t v σ H Q) : PGs X tg t' := ⟨fun pins s σ H v u Q I r q => h.run pins s σ H v u Q I r (i v σ H Q q)⟩
@[simp] def gN (i : Nat) : Gv := fun d ρ M => some (.ok (ρ.set i (some d)) M)
theorem mg_name {i : Nat} {x : Str} (h : PG X (.Name x pos) (gName i)) : MG X E (.Name x pos) (gN i) := PG.imp h fun v σ H Q ⟨μ, ρ, M, d, r, hs, hm, rv, e, q⟩ => by
  cases e
  exact q μ _ H Le.refl hm (hs.set i rv)
@[simp] def gsNil : Gvs
  | [], ρ, M => some (.ok ρ M)
  | _ :: _, _, _ => none
@[simp] def gsCons (g : Gv) (gs : Gvs) : Gvs
  | d :: r, ρ, M => bnd (g d ρ M) fun ρ1 M1 => gs r ρ1 M1
  | [], _, _ => none
theorem mgs_nil : MGs X E [] gsNil := PGs.imp pgs_nil fun v σ H Q ⟨μ, ρ, M, ds, r, hs, hm, rv, e, q⟩ => by
  cases rv with
  | nil => cases e; exact ⟨rfl, q μ _ H Le.refl hm hs⟩
  | cons => cases e
theorem mgs_cons {es : List Expr} {g : Gv} {gs : Gvs} (h1 : MG X E e g) (h2 : MGs X E es gs) (hs : (assignEach (e :: es) X.env).map (·.2) = assign e X.env :: (assignEach es X.env).map (·.2) := by rfl) : MGs X E (e :: es) (gsCons g gs) :=
  PGs.imp (pgs_cons h1 h2 hs) fun v σ H Q ⟨μ, ρ, M, ds, r, hs, hm, rv, e, q⟩ => by
    cases rv with
    | nil => cases e
    | @cons v vs d ds h t =>
      refine ⟨v, vs, rfl, ?_⟩
      simp only [gsCons] at e
      cases h1 : g d ρ M with
      | none => rw [h1] at e; cases e
      | some r1 =>
        refine ⟨μ, ρ, M, d, r1, hs, hm, h, h1, ?_⟩
        rw [h1] at e
        cases r1 with
        | err x M1 => cases e; exact q
        | ok ρ1 M1 => exact fun μ1 σ1 H1 l m1 s1 => ⟨μ1, ρ1, M1, ds, r, s1, m1, t.le hm l, e, q.le l⟩
/-- (a, b, ..) = a tuple -/
@[simp] def gT (n : Nat) (gs : Gvs) : Gv := fun d ρ M => match d with
  | .tup xs => if xs.length = n then gs xs ρ M else none
  | _ => none
theorem mg_tup {es : List Expr} {k : Nat} {gs : Gvs} {n : Nat} (hc : X.calm = true) (h : MGs X E es gs) (hn : (assignEach es X.env).length = n := by rfl) (hst : (assignEach es X.env).findIdx? (·.1) = none := by rfl) : MG X E (.Tuple es k pos) (gT n gs) :=
  PG.imp (pg_tup hc h hn hst) fun v σ H Q ⟨μ, ρ, M, d, r, hs, hm, rv, e, q⟩ => by
    unfold gT at e
    split at e
    · split at e
      · rename_i hl
        cases rv with | tup s1 k1 =>
        exact ⟨_, _, rfl, s1, by rw [k1.length]; exact hl, μ, ρ, M, _, r, hs, hm, k1, e, q⟩
      · cases e
    · cases e
/-! ### assignments -/
@[simp] def vAsg (v : Ev) (g : Gv) : Sv := fun ρ M => bndS (v ρ M) fun d M1 => bndS (g d ρ M1) fun ρ1 M2 => some (.nx ρ1 M2)
theorem tr_asg {g : Gv} {D : Ends} {σ : L2.St} {H : Hp} (h : trS X.kx E (vAsg ve g) D σ H) : tAsg (trE X.kx E ve) (trG X.kx E g) D σ H := by
  obtain ⟨μ, ρ, M, r, hs, hm, e, q⟩ := h
  refine trS_bnd hs hm e q fun μ1 x H1 d M1 l hs1 hm1 rx e1 q1 => ?_
  cases h : g d ρ M1 with
  | none => rw [h] at e1; cases e1
  | some r1 =>
    refine ⟨μ1, ρ, M1, d, r1, hs1, hm1, rx, h, ?_⟩
    rw [h] at e1
    cases r1 with
    | ok ρ1 M2 => cases e1; exact q1
    | err x M2 => cases e1; exact q1
theorem ms_asg {tg : Expr} {g : Gv} (he : MV X E e ve) (hg : MG X E tg g) (hs : swapsWithSole [tg] e pos.line X.env = pure false := by rfl) (hw : swappedStores [tg] e X.env = pure none := by rfl)
    (h1 : (assignEach [tg] X.env).map (·.2) = [assign tg X.env] := by rfl) : MS X E (.Assign [tg] e pos) (vAsg ve g) := PS.imp (ps_asg he hg hs hw h1) fun D σ H h => tr_asg h
/-- a name -/
theorem ms_set {i : Nat} {x : Str} {pos' : Pos} (hN : X.N.Nodup) (hi : X.N[i]? = some x) (hx : Loc X.env.scope x) (he : MV X E e ve) (hs : swapsWith e (some (.Name x pos')) pos.line X.env = pure false := by rfl) (hf : X.fn x = true ∨ X.env.scope.names.lookup x = some .local := by first | exact .inl rfl | exact .inr rfl | assumption) :
    MS X E (.Assign [.Name x pos'] e pos) (vAsg ve (gN i)) := PS.imp (ps_set hN hi hx he hs hf) fun D σ H ⟨μ, ρ, M, r, hs, hm, e, q⟩ => trS_bnd hs hm e q fun μ1 x H1 d M1 l hs1 hm1 rx e1 q1 => by
      cases e1
      exact q1 μ1 _ H1 Le.refl hm1 (hs1.set i rx)
/-- a, b = x, y -/
@[simp] def vPar (i j : Nat) (vs : EvA) : Sv := fun ρ M => bndS (vs ρ M) fun ds M1 => match ds with
  | [a, b] => some (.nx ((ρ.set i (some a)).set j (some b)) M1)
  | _ => none
theorem ms_par {i j : Nat} {x y : Str} {a b : Expr} {vs : EvA} {px py pt : Pos} {kt k2 pt2} (hc : X.calm = true) (hN : X.N.Nodup) (hi : X.N[i]? = some x) (hj : X.N[j]? = some y) (hij : i ≠ j)
    (hx : X.env.scope.names.lookup x = some .local) (hy : X.env.scope.names.lookup y = some .local) (ha : MA X E [a, b] vs)
    (hw : swappedStores [.Tuple [.Name x px, .Name y py] kt pt] (.Tuple [a, b] k2 pt2) X.env = pure (some [x, y]))
    (hs : swapsWithSole [.Tuple [.Name x px, .Name y py] kt pt] (.Tuple [a, b] k2 pt2) pos.line X.env = pure false := by rfl) :
    MS X E (.Assign [.Tuple [.Name x px, .Name y py] kt pt] (.Tuple [a, b] k2 pt2) pos) (vPar i j vs) := PS.imp (ps_par hc hN hi hj hij hx hy ha hw hs) fun D σ H ⟨μ, ρ, M, r, hs, hm, e, q⟩ => trS_bnd hs hm e q fun μ1 x H1 d M1 l hs1 hm1 rx e1 q1 => by
      split at e1 <;> cases e1
      obtain ⟨v, w, rfl, r1, r2⟩ := rx.two
      exact ⟨v, w, rfl, q1 μ1 _ H1 Le.refl hm1 ((hs1.set i r1).set j r2)⟩
/-! ### while -/
def whileN (c : EvT) (b : Sv) : Nat → Sv
  | 0, _, _ => none
  | n + 1, ρ, M => bndS (c ρ M) fun k M1 => if k = true then
      match b ρ M1 with
      | some (.nx ρ2 M2) => whileN c b n ρ2 M2
      | some (.ct ρ2 M2) => whileN c b n ρ2 M2
      | some (.bk ρ2 M2) => some (.nx ρ2 M2)
      | r => r
    else some (.nx ρ M1)
theorem ms_while {c : Expr} {body : List Stmt} {tc : EvT} (n : Nat) (hp : PassesOwn (model X.prog X.w) X.A X.env X.xe) (hc : MT X E c tc) (hb : MSs X E body vb) : MS X E (.While c body [] pos) (whileN tc vb n) :=
  PS.imp (ps_while hp hc hb) fun D σ0 H0 ⟨μ0, ρ0, M0, r, hs0, hm0, e0, q0⟩ => by
    refine ⟨fun m σ H => ∃ μ ρ M, Le μ0 H0 μ H ∧ RS X.kx μ H σ ρ ∧ RM X.kx μ H M ∧ whileN tc vb m ρ M = some r, ⟨n, μ0, ρ0, M0, Le.refl, hs0, hm0, e0⟩, ?_⟩
    rintro m σ H ⟨μ, ρ, M, l, hs, hm, e⟩
    cases m with
    | zero => cases e
    | succ m =>
      refine trS_bnd hs hm e (q0.le l) fun μ1 k H1 k' M1 l1 hs1 hm1 rx e1 q1 => ?_
      subst rx
      cases k with
      | false =>
        rw [if_neg Bool.false_ne_true] at e1 ⊢
        cases e1
        exact q1 μ1 σ H1 Le.refl hm1 hs1
      | true =>
        rw [if_pos rfl] at e1 ⊢
        refine ⟨fun σ2 H2 => ∃ μ ρ M, Le μ0 H0 μ H2 ∧ RS X.kx μ H2 σ2 ρ ∧ RM X.kx μ H2 M ∧ whileN tc vb m ρ M = some r, fun σ2 H2 h => ⟨m, Nat.lt_succ_self m, h⟩, ?_⟩
        cases h : vb ρ M1 with
        | none => rw [h] at e1; cases e1
        | some r1 =>
          refine ⟨μ1, ρ, M1, r1, hs1, hm1, h, ?_⟩
          rw [h] at e1
          cases r1 with
          | nx ρ2 M2 => exact fun μ2 σ2 H2 l2 m2 s2 => ⟨μ2, ρ2, M2, (l.trans l1).trans l2, s2, m2, e1⟩
          | ct ρ2 M2 => exact fun μ2 σ2 H2 l2 m2 s2 => ⟨μ2, ρ2, M2, (l.trans l1).trans l2, s2, m2, e1⟩
          | bk ρ2 M2 => cases e1; exact q1
          | rt d M2 => cases e1; exact q1
          | er x M2 => cases e1; exact q1
/-! ### for -/
/-- what is walked yields these -/
def IterOk (K : Fw) (J : It) (μ0 : Wd) (H0 : Hp) (ds : List D) : Prop := ∀ μ H M, Lq μ0 H0 μ H → RM K μ H M → ∀ i,
  (∀ d, ds[i]? = some d → J.go i H ∧ ∀ x H', J.yld i H x H' → Le μ H μ H' ∧ RM K μ H' M ∧ RV K μ H' x d) ∧ (ds.length ≤ i → J.stop i H)
def OutI (K : Fw) (E : XK) (μ : Wd) (H : Hp) (r : Res (List D)) (Q : It → Hp → Prop) : Prop := match r with
  | .ok ds M' => ∀ μ' J H', Le μ H μ' H' → RM K μ' H' M' → IterOk K J μ' H' ds → Q J H'
  | .err x M' => ∀ μ' H' C d, Le μ H μ' H' → RM K μ' H' M' → RX K μ' H' C d x → E C d H'
def trI (K : Fw) (E : XK) (v : EvA) : TI := fun σ H R => ∃ μ ρ M r, RS K μ H σ ρ ∧ RM K μ H M ∧ v ρ M = some r ∧ OutI K E μ H r R
def MI (X : Cx) (E : XK) (tg iter : Expr) (v : EvA) : Prop := PI X tg iter (trI X.kx E v)
theorem PI.imp {tg it : Expr} {t t' : TI} (h : PI X tg it t) (i : ∀ σ H R, t' σ H R → t σ H R) : PI X tg it t' := ⟨fun pins s σ H R I q => h.run pins s σ H R I (i σ H R q)⟩
theorem PI.or {tg it : Expr} {t t' : TI} (h : PI X tg it t) (h' : PI X tg it t') : PI X tg it (fun σ H R => t σ H R ∨ t' σ H R) := ⟨fun pins s σ H R I q => q.elim (h.run pins s σ H R I) (h'.run pins s σ H R I)⟩
@[simp] def forL (g : Gv) (b : Sv) : List D → Sl → Mem → Option Fl
  | [], ρ, M => some (.nx ρ M)
  | d :: r, ρ, M => bndS (g d ρ M) fun ρ1 M1 => match b ρ1 M1 with
    | some (.nx ρ2 M2) => forL g b r ρ2 M2
    | some (.ct ρ2 M2) => forL g b r ρ2 M2
    | some (.bk ρ2 M2) => some (.nx ρ2 M2)
    | r => r
@[simp] def vFor (vi : EvA) (g : Gv) (b : Sv) : Sv := fun ρ M => bndS (vi ρ M) fun ds M1 => forL g b ds ρ M1
theorem ms_for {tg iter : Expr} {body : List Stmt} {vi : EvA} {g : Gv} (hp : PassesOwn (model X.prog X.w) X.A X.env X.xe) (hc : X.calm = true) (hi : MI X E tg iter vi) (hg : MG X E tg g) (hb : MSs X E body vb)
    (hs : ∀ x, foldedSetIterable iter X.env x = pure x := by intro _; rfl) : MS X E (.For tg iter body [] pos) (vFor vi g vb) :=
  PS.imp (ps_for hp hc hi hg hb hs) fun D σ00 H00 ⟨μ00, ρ00, M00, r, hs00, hm00, e00, q00⟩ => by
    unfold vFor at e00
    cases h : vi ρ00 M00 with
    | none => rw [h] at e00; cases e00
    | some r1 =>
      refine ⟨μ00, ρ00, M00, r1, hs00, hm00, h, ?_⟩
      rw [h] at e00
      cases r1 with
      | err x M1 => cases e00; exact q00
      | ok ds M0 =>
        intro μ0 J H0 l0 hm0 iok
        have q0 := q00.le l0
        have hs0 := hs00.le hm00 l0
        replace e00 : forL g vb ds ρ00 M0 = some r := e00
        refine ⟨fun i m σ H => i + m = ds.length ∧ ∃ μ ρ M, Le μ0 H0 μ H ∧ RS X.kx μ H σ ρ ∧ RM X.kx μ H M ∧ forL g vb (ds.drop i) ρ M = some r, ⟨ds.length, by omega, μ0, ρ00, M0, Le.refl, hs0, hm0, e00⟩, ?_⟩
        rintro i m σ H ⟨him, μ, ρ, M, l, hs, hm, e⟩
        obtain ⟨iok1, iok2⟩ := iok μ H M l.lq hm i
        by_cases hlt : i < ds.length
        · rw [List.drop_eq_getElem_cons hlt] at e
          obtain ⟨jg, jy⟩ := iok1 ds[i] (List.getElem?_eq_getElem hlt)
          refine .inr ⟨jg, fun σ2 H2 => ∃ μ ρ M, Le μ0 H0 μ H2 ∧ RS X.kx μ H2 σ2 ρ ∧ RM X.kx μ H2 M ∧ forL g vb (ds.drop (i + 1)) ρ M = some r, fun σ2 H2 h2 => ⟨m - 1, by omega, by omega, h2⟩, fun x H' y => ?_⟩
          obtain ⟨l1, hm1, rx⟩ := jy x H' y
          unfold forL at e
          cases h1 : g ds[i] ρ M with
          | none => rw [h1] at e; cases e
          | some r2 =>
            refine ⟨μ, ρ, M, ds[i], r2, hs.le hm l1, hm1, rx, h1, ?_⟩
            rw [h1] at e
            have q1 := q0.le (l.trans l1)
            cases r2 with
            | err x M1 => cases e; exact q1
            | ok ρ1 M1 =>
              intro μ2 σ2 H2 l2 m2 s2
              simp only [bndS] at e
              cases h2 : vb ρ1 M1 with
              | none => rw [h2] at e; cases e
              | some r3 =>
                refine ⟨μ2, ρ1, M1, r3, s2, m2, h2, ?_⟩
                rw [h2] at e
                have q2 := q1.le l2
                cases r3 with
                | nx ρ3 M3 => exact fun μ3 σ3 H3 l3 m3 s3 => ⟨μ3, ρ3, M3, ((l.trans l1).trans l2).trans l3, s3, m3, e⟩
                | ct ρ3 M3 => exact fun μ3 σ3 H3 l3 m3 s3 => ⟨μ3, ρ3, M3, ((l.trans l1).trans l2).trans l3, s3, m3, e⟩
                | bk ρ3 M3 => cases e; exact q2
                | rt d M3 => cases e; exact q2
                | er x M3 => cases e; exact q2
        · rw [List.drop_of_length_le (by omega)] at e
          cases e
          exact .inl ⟨iok2 (by omega), (q0.le l) μ σ H Le.refl hm hs⟩
/-! ### what is walked -/
@[simp] def vItems (v : Ev) : EvA := fun ρ M => bnd (v ρ M) fun d M1 => match d with
  | .tup xs => some (.ok xs M1)
  | .lst xs => some (.ok xs M1)
  | .fro xs => some (.ok xs M1)
  | _ => none
theorem iter_tup {K : Fw} {μ0 : Wd} {H0 : Hp} {M0 : Mem} {a : Addr} {vs : List V} {ds : List D} (hm0 : RM K μ0 H0 M0) (s : SqT K H0 a vs) (k : RVs K μ0 H0 vs ds) : IterOk K (Itt K a) μ0 H0 ds := fun μ H M l hm i => by
  have s' := (go_lq hm0 l).t _ _ s
  have k' := k.go (go_lq hm0 l)
  refine ⟨fun d hd => ?_, fun hi => ⟨vs, s', by rw [k.length]; exact hi⟩⟩
  obtain ⟨v, e1, e2⟩ := k'.get hd
  refine ⟨⟨vs, v, s', e1⟩, fun x H' ⟨e, y⟩ => ?_⟩
  subst e
  have := y vs s'
  rw [e1] at this
  cases this
  exact ⟨Le.refl, hm, e2⟩
theorem iter_lst {K : Fw} {μ0 : Wd} {H0 : Hp} {M0 : Mem} {a : Addr} {vs : List V} {ds : List D} (hm0 : RM K μ0 H0 M0) (s : ∀ μ H, Lq μ0 H0 μ H → SqL K H a vs) (k : RVs K μ0 H0 vs ds) : IterOk K (Itl K a) μ0 H0 ds := fun μ H M l hm i => by
  have s' := s μ H l
  have k' := k.go (go_lq hm0 l)
  refine ⟨fun d hd => ?_, fun hi => ⟨vs, s', by rw [k.length]; exact hi⟩⟩
  obtain ⟨v, e1, e2⟩ := k'.get hd
  refine ⟨⟨vs, v, s', e1⟩, fun x H' ⟨e, y⟩ => ?_⟩
  subst e
  have := y vs s'
  rw [e1] at this
  cases this
  exact ⟨Le.refl, hm, e2⟩
/-- code, then a rest of another kind -/
theorem tr_bndI {α β : Type} {R : Wd → Hp → β → α → Prop} {K : Fw} {E : XK} {v : Sl → Mem → Option (Res α)} {k : α → Mem → Option (Res (List D))} {μ : Wd} {ρ : Sl} {M : Mem} {σ : L2.St} {H : Hp} {r : Res (List D)} {Q : It → Hp → Prop}
    {P : β → Hp → Prop} (hs : RS K μ H σ ρ) (hm : RM K μ H M) (e : bnd (v ρ M) k = some r) (q : OutI K E μ H r Q)
    (step : ∀ μ1 x H1 a M1, Le μ H μ1 H1 → RS K μ1 H1 σ ρ → RM K μ1 H1 M1 → R μ1 H1 x a → k a M1 = some r → OutI K E μ1 H1 r Q → P x H1) : tr R K E v σ H P := by
  cases h : v ρ M with
  | none => rw [h] at e; cases e
  | some r1 =>
    refine ⟨μ, ρ, M, r1, hs, hm, h, ?_⟩
    rw [h] at e
    cases r1 with
    | err x M1 => cases e; exact q
    | ok a M1 =>
      intro μ1 x H1 l m1 rx
      refine step μ1 x H1 a M1 l (hs.le hm l) m1 rx e ?_
      cases r with
      | ok d M' => exact fun μ' y H' l' m' ry => q μ' y H' (l.trans l') m' ry
      | err z M' => exact fun μ' H' C d l' m' rz => q μ' H' C d (l.trans l') m' rz
theorem mi_seq {tg : Expr} (he : MV X E e ve) : MI X E tg e (vItems ve) := PI.imp (PI.or (pi_tup he) (pi_list he)) fun σ H R ⟨μ, ρ, M, r, hs, hm, e, q⟩ => by
  unfold vItems at e
  cases h : ve ρ M with
  | none => rw [h] at e; cases e
  | some r1 =>
    rw [h] at e
    cases r1 with
    | err x M1 =>
      cases e
      exact .inl ⟨μ, ρ, M, .err x M1, hs, hm, h, q⟩
    | ok d M1 =>
      cases d with
      | tup xs =>
        cases e
        refine .inl ⟨μ, ρ, M, .ok (.tup xs) M1, hs, hm, h, fun μ1 x H1 l hm1 rx => ?_⟩
        cases rx with | tup s k =>
        exact ⟨_, rfl, ⟨_, s⟩, q μ1 _ H1 l hm1 (iter_tup hm1 s k)⟩
      | lst xs =>
        cases e
        refine .inr ⟨μ, ρ, M, .ok (.lst xs) M1, hs, hm, h, fun μ1 x H1 l hm1 rx => ?_⟩
        cases rx with | lst s n k =>
        exact ⟨_, rfl, ⟨_, SqL.of s⟩, q μ1 _ H1 l hm1 (iter_lst hm1 (fun μ2 H2 l2 => SqL.of (l2.out s n).1) k)⟩
      | fro xs =>
        cases e
        refine .inr ⟨μ, ρ, M, .ok (.fro xs) M1, hs, hm, h, fun μ1 x H1 l hm1 rx => ?_⟩
        cases rx with | fro s k =>
        exact ⟨_, rfl, ⟨_, s.sq⟩, q μ1 _ H1 l hm1 (iter_lst hm1 (fun μ2 H2 l2 => ((go_lq hm1 l2).l _ _ s).sq) k)⟩
      | non => cases e
      | bl _ => cases e
      | int _ => cases e
      | str _ => cases e
      | obj _ _ _ => cases e
      | dic _ _ => cases e
      | dcT _ _ => cases e
      | loc _ => cases e
      | glb _ => cases e
      | ty _ => cases e
      | xob _ _ _ => cases e
/-- a text, sign by sign -/
def chars (z : Str) : List D := z.cps.toList.map fun c => D.str ⟨#[c]⟩
def vChars (v : Ev) : EvA := fun ρ M => bnd (v ρ M) fun d M1 => match d with
  | .str z => if z.length ≤ sizeLine then some (.ok (chars z) M1) else none
  | _ => none
/-- range(..) -/
def rngD (lo : Int) (n : Nat) : List D := (List.range n).map fun (i : Nat) => D.int (lo + (i : Int))
theorem iter_rng {K : Fw} {μ0 : Wd} {H0 : Hp} {lo : Int} {n : Nat} : IterOk K (Itr lo n) μ0 H0 (rngD lo n) := fun μ H M l hm i => by
  refine ⟨fun d hd => ?_, fun hi => ?_⟩
  · unfold rngD at hd
    rw [List.getElem?_map] at hd
    have hin : i < n := by
      have : i < (List.range n).length := by
        cases q : (List.range n)[i]? with
        | none => rw [q] at hd; cases hd
        | some z => exact (List.getElem?_eq_some_iff.mp q).1
      simpa using this
    rw [List.getElem?_range hin] at hd
    cases hd
    refine ⟨hin, fun x H' ⟨e, y⟩ => ?_⟩
    subst e; subst y
    exact ⟨Le.refl, hm, .int _⟩
  · show n ≤ i
    simpa [rngD] using hi
@[simp] def vRng1 (vs : EvA) : EvA := fun ρ M => bnd (vs ρ M) fun ds M1 => match ds with
  | [.int j] => if -1000000000 ≤ j ∧ j ≤ 1000000000 then some (.ok (rngD 0 j.toNat) M1) else none
  | _ => none
@[simp] def vRng2 (vs : EvA) : EvA := fun ρ M => bnd (vs ρ M) fun ds M1 => match ds with
  | [.int i, .int j] => if -1000000000 ≤ i ∧ i ≤ 1000000000 ∧ -1000000000 ≤ j ∧ j ≤ 1000000000 then some (.ok (rngD i (j - i).toNat) M1) else none
  | _ => none
theorem mi_range1 {tg a : Expr} {vs : EvA} {p : Pos} (hg : Gl X "range") (hm : X.mg "range" = none) (ha : MA X E [a] vs) (hs : starEach [a] X.env = [(false, eval a X.env)] := by rfl) : MI X E tg (.Call (.Name "range" p) [a] [] pos) (vRng1 vs) :=
  PI.imp (pi_range1 hg hm ha hs) fun σ H R ⟨μ, ρ, M, r, hs, hm, e, q⟩ => tr_bndI hs hm e q fun μ1 x H1 a M1 l hs1 hm1 rx e1 q1 => by
    split at e1
    · split at e1 <;> cases e1
      rename_i hj
      obtain ⟨v, rfl, r1⟩ := rx.one
      cases r1
      exact ⟨_, rfl, by omega, by omega, q1 μ1 _ H1 Le.refl hm1 iter_rng⟩
    · cases e1
theorem mi_range2 {tg a b : Expr} {vs : EvA} {p : Pos} (hg : Gl X "range") (hm : X.mg "range" = none) (ha : MA X E [a, b] vs) (hs : starEach [a, b] X.env = [(false, eval a X.env), (false, eval b X.env)] := by rfl) (hs2 : starEach [b] X.env = [(false, eval b X.env)] := by rfl) : MI X E tg (.Call (.Name "range" p) [a, b] [] pos) (vRng2 vs) :=
  PI.imp (pi_range2 hg hm ha hs hs2) fun σ H R ⟨μ, ρ, M, r, hs, hm, e, q⟩ => tr_bndI hs hm e q fun μ1 x H1 a M1 l hs1 hm1 rx e1 q1 => by
    split at e1
    · split at e1 <;> cases e1
      rename_i hj
      obtain ⟨v, w, rfl, r1, r2⟩ := rx.two
      cases r1; cases r2
      exact ⟨_, _, rfl, ⟨by omega, by omega, by omega, by omega⟩, q1 μ1 _ H1 Le.refl hm1 iter_rng⟩
    · cases e1
end
/-! ### a def by its body -/
@[simp] def runB (n : Nat) (b : Sv) : FC := fun ds M => match b (ds.map some ++ List.replicate (n - ds.length) none) M with
  | some (.nx _ M1) => some (.ok .non M1)
  | some (.rt d M1) => some (.ok d M1)
  | some (.er x M1) => some (.err x M1)
  | _ => none
theorem rs_start {K : Fw} {μ : Wd} {H : Hp} {vs : List V} {ds : List D} (N : List Str) (r : RVs K μ H vs ds) : RS K μ H (start N vs) (ds.map some ++ List.replicate (N.length - ds.length) none) := by
  refine ⟨by unfold L2.start; simp [r.length], fun i d h => ?_⟩
  by_cases hi : i < ds.length
  · rw [List.getElem?_append_left (by simpa using hi), List.getElem?_map] at h
    have hd : ds[i]? = some d := by
      cases q : ds[i]? with
      | none => rw [q] at h; cases h
      | some z => rw [q] at h; cases h; rfl
    obtain ⟨v, e1, e2⟩ := r.get hd
    refine ⟨v, ?_, e2⟩
    unfold L2.start
    rw [List.getElem?_append_left (by rw [List.length_map, r.length]; exact hi), List.getElem?_map, e1]
    rfl
  · rw [List.getElem?_append_right (by simpa using hi), List.getElem?_replicate] at h
    split at h <;> cases h
section
variable {P : Program} {w : World} {K : PySem.W.Frag} {mg : Str → Option Value} {base : Heap}
theorem okM {x qual : Str} {st : Stmt} {f : Addr} {fd : FuncData} {N ps : List Str} {k : Nat} {b : Sv} (F : Fun K x qual st f fd) (S : FnScope N ps (defScope st))
    (hb : ∀ (cdv : Value) (A : Around) (outer : List Env) (s : Shared) (H : Hp) (E : XK), Room k (A.deeper (PyProof.Rows.envOfC qual (defScope st) s.heap.objs.size f cdv)) → MSs (cxOf (L2.CX P w) P w K mg base N qual (defScope st) f cdv A outer s H E) E (defBody st) b) :
    OkM P w K mg base (k + 1) f fd ps (runB N.length b) := by
  refine F.okX S (fun vs H Q E h => h.1) (fun cdv A outer s H vs Q E hr h => ?_)
  obtain ⟨hl, μ, M, ds, r, rv, hm, e, q⟩ := h
  refine ⟨_, hb cdv A outer s H E hr, ?_⟩
  unfold runB at e
  cases h : b (ds.map some ++ List.replicate (N.length - ds.length) none) M with
  | none => rw [h] at e; cases e
  | some r1 =>
    refine ⟨μ, _, M, r1, rs_start N rv, hm, h, ?_⟩
    rw [h] at e
    cases r1 with
    | nx ρ M1 => cases e; exact fun μ' σ' H' l m' s' => q μ' .non H' l m' .non
    | rt d M1 => cases e; exact q
    | er x M1 => cases e; exact q
    | bk ρ M1 => cases e
    | ct ρ M1 => cases e
end
end Mi
set_option autoImplicit false
/-! Comprehensions and their mirrors. -/
namespace Mi
open PySem PySem.Spec L2
section
variable {K : Fw} {μ μ' : Wd} {H H' : Hp} {M M' : Mem}
/-- a list that is being made changes -/
theorem go_hid (r : RM K μ H M) {a : Addr} {vs : List V} (h : a ∈ μ.h) : Go K μ H μ (upd H a (.lst vs)) := by
  obtain ⟨⟨us, e⟩, n⟩ := r.hid a h
  have ne : ∀ b o, H b = some o → (∀ xs, o ≠ .lst xs) → b ≠ a := fun b o hb ho z => by
    rw [z, e] at hb; cases hb; exact ho us rfl
  have keep : ∀ b o, H b = some o → (∀ xs, o ≠ .lst xs) → upd H a (.lst vs) b = some o := fun b o hb ho => by rw [upd_ne (ne b o hb ho)]; exact hb
  refine ⟨fun b xs z => z.imp (fun q => ?_) id, fun b xs z => z.imp (fun ⟨⟨o, q⟩, m⟩ => ⟨⟨o, keep b _ q fun xs z => (by cases z)⟩, m⟩) id, fun b o q m => ⟨?_, m⟩, fun _ _ z => z⟩
  · rcases q with q | ⟨o, q⟩
    · exact .inl (keep b _ q fun xs z => (by cases z))
    · exact .inr ⟨o, keep b _ q fun xs z => (by cases z)⟩
  · rw [upd_ne (show b ≠ a from fun z => m.2 (by rw [z]; exact h))]; exact q
theorem RM.hidUpd (r : RM K μ H M) {a : Addr} {vs : List V} (h : a ∈ μ.h) : RM K μ (upd H a (.lst vs)) M := by
  obtain ⟨⟨us, e⟩, n⟩ := r.hid a h
  refine ⟨r.len, r.nd, fun b hb => ?_, fun i b c e1 e2 => ?_⟩
  · obtain ⟨⟨ws, e'⟩, n'⟩ := r.hid b hb
    by_cases q : b = a
    · rw [q]; exact ⟨⟨vs, upd_same⟩, n⟩
    · exact ⟨⟨ws, by rw [upd_ne q]; exact e'⟩, n'⟩
  · exact (r.cell i b c e1 e2).go (go_hid r h) (upd_ne fun z => n (by rw [← z]; exact List.mem_of_getElem? e1))
def Wd.hide (μ : Wd) (a : Addr) : Wd := ⟨μ.c, a :: μ.h⟩
theorem Lq.hide {a : Addr} {o : HO} (h : H a = none) : Lq μ H (μ.hide a) (upd H a o) :=
  ⟨⟨[], by simp [Wd.hide], by simp⟩, ⟨[a], rfl, fun b hb => by rw [List.mem_singleton.mp hb]; exact h⟩, fun b u e => ⟨u, by rw [upd_ne (ne_of_none e h)]; exact e⟩, fun b u e _ => by rw [upd_ne (ne_of_none e h)]; exact e⟩
theorem RM.hide (r : RM K μ H M) {a : Addr} (h : H a = none) : RM K (μ.hide a) (upd H a (.lst [])) M := by
  refine ⟨r.len, r.nd, fun b hb => ?_, fun i b c e1 e2 => ?_⟩
  · rcases List.mem_cons.mp hb with q | q
    · rw [q]; exact ⟨⟨[], upd_same⟩, r.fresh h⟩
    · obtain ⟨⟨ws, e'⟩, n'⟩ := r.hid b q
      exact ⟨⟨ws, by rw [upd_ne (ne_of_none e' h)]; exact e'⟩, n'⟩
  · have rc := r.cell i b c e1 e2
    obtain ⟨u, hu⟩ := rc.some
    exact rc.go (go_lq r (Lq.hide h)) (upd_ne (ne_of_none hu h))
theorem go_unhide {c h : List Addr} {a : Addr} : Go K ⟨c, a :: h⟩ H ⟨c, h⟩ H :=
  ⟨fun _ _ z => z, fun b vs z => z.imp (fun ⟨q, m⟩ => ⟨q, m.1, fun x => m.2 (List.mem_cons_of_mem _ x)⟩) id, fun b o q m => ⟨q, m.1, fun x => m.2 (List.mem_cons_of_mem _ x)⟩, fun _ _ z => z⟩
theorem RM.unhide {c h : List Addr} {a : Addr} (r : RM K ⟨c, a :: h⟩ H M) : RM K ⟨c, h⟩ H M :=
  ⟨r.len, r.nd, fun b hb => r.hid b (List.mem_cons_of_mem _ hb), fun i b x e1 e2 => (r.cell i b x e1 e2).go go_unhide rfl⟩
theorem Lq.trans {μ1 μ2 : Wd} {H1 H2 : Hp} (a : Lq μ H μ1 H1) (b : Le μ1 H1 μ2 H2) : Lq μ H μ2 H2 := by
  obtain ⟨ν, e1, f1⟩ := a.ex
  obtain ⟨ν2, e2, f2⟩ := b.ex
  have none1 : ∀ x, H1 x = none → H x = none := fun x h => by
    cases q : H x with
    | none => rfl
    | some o =>
      obtain ⟨o', h'⟩ := a.dom x o q
      rw [h] at h'
      cases h'
  refine ⟨⟨ν ++ ν2, by rw [e2, e1, List.append_assoc], fun x hx => ?_⟩, by rw [b.hid]; exact a.hid, fun x o h => ?_, fun x o h hn => ?_⟩
  · rcases List.mem_append.mp hx with h | h
    · exact f1 x h
    · exact none1 x (f2 x h)
  · obtain ⟨o', h'⟩ := a.dom x o h
    exact b.dom x o' h'
  · refine b.fr x o (a.fr x o h hn) fun hm => ?_
    rw [e1] at hm
    rcases List.mem_append.mp hm with q | q
    · exact hn q
    · rw [f1 x q] at h; cases h
theorem Lq.updNew {μ1 : Wd} {H1 : Hp} (l : Lq μ H μ1 H1) {a : Addr} {o : HO} (h : H a = none) : Lq μ H μ1 (upd H1 a o) :=
  ⟨l.ex, l.hid, fun b u e => by
    obtain ⟨u', e'⟩ := l.dom b u e
    exact ⟨u', by rw [upd_ne (ne_of_none e h)]; exact e'⟩, fun b u e n => by rw [upd_ne (ne_of_none e h)]; exact l.fr b u e n⟩
end
/-! ### slots that are set and forgotten -/
def setV : L2.St → List Nat → List V → L2.St
  | σ, i :: is, v :: vs => setV (σ.set i (some v)) is vs
  | σ, _, _ => σ
@[simp] def setD : Sl → List Nat → List D → Sl
  | ρ, i :: is, d :: ds => setD (ρ.set i (some d)) is ds
  | ρ, _, _ => ρ
@[simp] def wipeD (ρ : Sl) : List Nat → Sl
  | [] => ρ
  | i :: is => (wipeD ρ is).set i none
theorem RS.setAll {K : Fw} {μ : Wd} {H : Hp} : ∀ {is : List Nat} {vs : List V} {ds : List D} {σ : L2.St} {ρ : Sl}, RS K μ H σ ρ → RVs K μ H vs ds → RS K μ H (setV σ is vs) (setD ρ is ds) := by
  intro is
  induction is with
  | nil => intro vs ds σ ρ s h; cases h <;> exact s
  | cons i is ih =>
    intro vs ds σ ρ s h
    cases h with
    | nil => exact s
    | cons h k => exact ih (s.set i h) k
theorem RS.wipe {K : Fw} {μ : Wd} {H : Hp} {σ : L2.St} {ρ : Sl} (s : RS K μ H σ ρ) : ∀ is : List Nat, RS K μ H (L2.wipe σ is) (wipeD ρ is)
  | [] => s
  | i :: is => by
    have z := RS.wipe s is
    refine ⟨by show ((L2.wipe σ is).set i none).length = ((wipeD ρ is).set i none).length; rw [List.length_set, List.length_set]; exact z.len, fun j d hj => ?_⟩
    replace hj : ((wipeD ρ is).set i none)[j]? = some (some d) := hj
    show ∃ v, ((L2.wipe σ is).set i none)[j]? = some (some v) ∧ _
    rw [List.getElem?_set] at hj ⊢
    by_cases q : i = j
    · rw [if_pos q] at hj
      split at hj <;> cases hj
    · rw [if_neg q] at hj ⊢
      exact z.get j d hj
theorem wipe_set {σ : L2.St} {i : Nat} {v : V} : ∀ {vs : List Nat}, i ∈ vs → L2.wipe (σ.set i (some v)) vs = L2.wipe σ vs
  | j :: vs, h => by
    show (L2.wipe (σ.set i (some v)) vs).set j none = (L2.wipe σ vs).set j none
    by_cases q : i ∈ vs
    · rw [wipe_set q]
    · have hij : i = j := (List.mem_cons.mp h).resolve_right q
      subst hij
      have e : ∀ (ws : List Nat) (σ : L2.St), i ∉ ws → L2.wipe (σ.set i (some v)) ws = (L2.wipe σ ws).set i (some v) := by
        intro ws
        induction ws with
        | nil => intro σ _; rfl
        | cons w ws ih =>
          intro σ hw
          show (L2.wipe (σ.set i (some v)) ws).set w none = ((L2.wipe σ ws).set w none).set i (some v)
          rw [ih σ (fun z => hw (List.mem_cons_of_mem _ z)), List.set_comm _ _ (fun z => hw (by rw [z]; exact List.mem_cons_self))]
      rw [e vs σ q, List.set_set]
theorem wipe_wipe {σ : L2.St} : ∀ vs : List Nat, L2.wipe (L2.wipe σ vs) vs = L2.wipe σ vs := by
  intro vs
  have gen : ∀ (ws vs : List Nat), (∀ w ∈ ws, w ∈ vs) → ∀ τ : L2.St, L2.wipe (L2.wipe τ ws) vs = L2.wipe τ vs := by
    intro ws
    induction ws with
    | nil => intro vs _ τ; rfl
    | cons w ws ih =>
      intro vs hv τ
      show L2.wipe ((L2.wipe τ ws).set w none) vs = _
      have k : ∀ (us : List Nat) (τ : L2.St), w ∈ us → L2.wipe (τ.set w none) us = L2.wipe τ us := by
        intro us
        induction us with
        | nil => intro τ h; cases h
        | cons u us ih2 =>
          intro τ h
          show (L2.wipe (τ.set w none) us).set u none = (L2.wipe τ us).set u none
          by_cases q : w ∈ us
          · rw [ih2 τ q]
          · have hw : w = u := (List.mem_cons.mp h).resolve_right q
            subst hw
            have e : ∀ (ys : List Nat) (τ : L2.St), w ∉ ys → L2.wipe (τ.set w none) ys = (L2.wipe τ ys).set w none := by
              intro ys
              induction ys with
              | nil => intro τ _; rfl
              | cons y ys ih3 =>
                intro τ hy
                show (L2.wipe (τ.set w none) ys).set y none = ((L2.wipe τ ys).set y none).set w none
                rw [ih3 τ (fun z => hy (List.mem_cons_of_mem _ z)), List.set_comm _ _ (fun z => hy (by rw [z]; exact List.mem_cons_self))]
            rw [e us τ q, List.set_set]
      rw [k vs _ (hv w List.mem_cons_self), ih vs (fun x hx => hv x (List.mem_cons_of_mem _ hx)) τ]
  exact gen vs vs (fun _ h => h) σ
theorem wipe_setV : ∀ {is : List Nat} {us : List V} {vs : List Nat} {σ : L2.St}, (∀ i ∈ is, i ∈ vs) → L2.wipe (setV σ is us) vs = L2.wipe σ vs
  | [], _, _, _, _ => rfl
  | _ :: _, [], _, _, _ => rfl
  | i :: is, u :: us, vs, σ, h => by
    show L2.wipe (setV (σ.set i (some u)) is us) vs = _
    rw [wipe_setV (fun j hj => h j (List.mem_cons_of_mem _ hj)), wipe_set (h i List.mem_cons_self)]
/-- a comprehension's target: the slots it sets, how a value is taken apart -/
def TgOk (K : Fw) (G : TG) (is : List Nat) (bd : D → Option (List D)) : Prop := ∀ (μ : Wd) (H : Hp) (v : V) (d : D) (ds : List D), RV K μ H v d → bd d = some ds → ∃ us, RVs K μ H us ds ∧ ∀ σ Q, Q (setV σ is us) H → G v σ H Q
def TgsOk (K : Fw) (G : TGs) (is : List Nat) (bd : List D → Option (List D)) : Prop := ∀ (μ : Wd) (H : Hp) (vs : List V) (xs ds : List D), RVs K μ H vs xs → bd xs = some ds → ∃ us, RVs K μ H us ds ∧ us.length = is.length ∧ ∀ σ Q, Q (setV σ is us) H → G vs σ H Q
@[simp] def bN : D → Option (List D) := fun d => some [d]
theorem tg_name {K : Fw} (i : Nat) : TgOk K (gName i) [i] bN := fun μ H v d ds h e => by
  cases e
  exact ⟨[v], .cons h .nil, fun σ Q q => q⟩
@[simp] def bsNil : List D → Option (List D)
  | [] => some []
  | _ => none
@[simp] def bsN (bd : List D → Option (List D)) : List D → Option (List D)
  | d :: r => (bd r).map (d :: ·)
  | [] => none
theorem tgs_nil {K : Fw} : TgsOk K gNil [] bsNil := fun μ H vs xs ds h e => by
  unfold bsNil at e
  split at e <;> cases e
  cases h
  exact ⟨[], .nil, rfl, fun σ Q q => ⟨rfl, q⟩⟩
theorem tgs_name {K : Fw} {G : TGs} {is : List Nat} {bd : List D → Option (List D)} (i : Nat) (h : TgsOk K G is bd) : TgsOk K (gCons (gName i) G) (i :: is) (bsN bd) := fun μ H vs xs ds hv e => by
  unfold bsN at e
  split at e
  · rename_i d r
    cases q : bd r with
    | none => rw [q] at e; cases e
    | some es =>
      rw [q] at e; cases e
      cases hv with | cons h1 h2 =>
      obtain ⟨us, r1, r2, r3⟩ := h μ H _ _ _ h2 q
      exact ⟨_ :: us, .cons h1 r1, by rw [List.length_cons, List.length_cons, r2], fun σ Q z => ⟨_, _, rfl, r3 _ Q z⟩⟩
  · cases e
@[simp] def bT (n : Nat) (bd : List D → Option (List D)) : D → Option (List D)
  | .tup xs => if xs.length = n then bd xs else none
  | _ => none
theorem tg_tup {K : Fw} {G : TGs} {is : List Nat} {bd : List D → Option (List D)} {n : Nat} (h : TgsOk K G is bd) : TgOk K (gTup K n G) is (bT n bd) := fun μ H v d ds hv e => by
  unfold bT at e
  split at e
  · split at e
    · rename_i hl
      cases hv with | tup s k =>
      obtain ⟨us, r1, _, r3⟩ := h μ H _ _ _ k e
      exact ⟨us, r1, fun σ Q q => ⟨_, _, rfl, s, by rw [k.length]; exact hl, r3 σ Q q⟩⟩
    · cases e
  · cases e
/-! ### the comprehension -/
/-- an outcome without exception, then a rest -/
@[simp] def bndO {α β : Type} (r : Option (Res α)) (k : α → Mem → Option (Res β)) : Option (Res β) := match r with
  | some (.ok a M) => k a M
  | _ => none
def compL (is : List Nat) (bd : D → Option (List D)) (tt : EvT) (te : Ev) (ρ : Sl) : List D → List D → Mem → Option (Res D)
  | [], acc, M => some (.ok (.lst acc) M)
  | d :: r, acc, M => match bd d with
    | some ds => bndO (tt (setD ρ is ds) M) fun b M1 => if b = true then bndO (te (setD ρ is ds) M1) fun y M2 => if acc.length < sizeLine then compL is bd tt te ρ r (acc ++ [y]) M2 else none else compL is bd tt te ρ r acc M1
    | none => none
@[simp] def vComp (vs is : List Nat) (vi : EvA) (bd : D → Option (List D)) (tt : EvT) (te : Ev) : Ev := fun ρ M => bnd (vi ρ M) fun ds M1 => compL is bd tt te (wipeD ρ vs) ds [] M1
section
variable {X : Cx} {E : XK} {elt tg iter : Expr} {ifs : List Expr} {scope : Scope} {own : List (Str × Nat)} {pos : Pos} {vi : EvA} {G : TG} {is : List Nat} {bd : D → Option (List D)} {tt : EvT} {te : Ev}
def MTs (X : Cx) (E : XK) (ifs : List Expr) (t : EvT) : Prop := PTs X ifs (trT X.kx E t)
@[simp] def vYes : EvT := fun _ M => some (.ok true M)
theorem mts_nil : MTs X E [] vYes := ⟨fun pins s σ H Q I ⟨μ, ρ, M, r, hs, hm, e, q⟩ => pts_nil.run pins s σ H Q I (by
  cases e
  exact q μ _ H Le.refl hm rfl)⟩
theorem mts_one {c : Expr} (h : MT X E c tt) : MTs X E [c] tt := pts_one h
theorem tr_lcF (tgo : TgOk X.kx G is bd) (hv : ∀ i ∈ is, i ∈ own.map (·.2)) {σ : L2.St} {H : Hp} {Q : VK} {μ : Wd} {ρ : Sl} {M : Mem} {r : Res D} (hs : RS X.kx μ H σ ρ) (hm : RM X.kx μ H M) (e : vComp (own.map (·.2)) is vi bd tt te ρ M = some r)
    (qe : ∀ x M', r = .err x M' → ∀ μ' H' C d, Le μ H μ' H' → RM X.kx μ' H' M' → RX X.kx μ' H' C d x → E C d H')
    (qo : ∀ acc M', r = .ok (.lst acc) M' → ∀ c h a vs H', h = μ.h → Le μ H ⟨c, h⟩ H' → RM X.kx ⟨c, a :: h⟩ H' M' → H a = none → H' a = some (.lst vs) → a ∉ h → RVs X.kx ⟨c, a :: h⟩ H' vs acc → Q (.ref a) H') : tLc (trI X.kx E vi) G (trT X.kx E0 tt) (trE X.kx E0 te) (own.map (·.2)) σ H Q := by
  unfold vComp at e
  cases h1 : vi ρ M with
  | none => rw [h1] at e; cases e
  | some r1 =>
    refine ⟨μ, ρ, M, r1, hs, hm, h1, ?_⟩
    rw [h1] at e
    cases r1 with
    | err x M1 => cases e; exact qe x M1 rfl
    | ok ds M1 =>
      intro μ1 J H1 l1 hm1 iok D hD
      replace e : compL is bd tt te (wipeD ρ (own.map (·.2))) ds [] M1 = some r := e
      have hs1 := hs.le hm l1
      refine ⟨fun i m H => i + m = ds.length ∧ ∃ c M acc vals, Lq μ1 H1 ⟨c, D :: μ1.h⟩ H ∧ RM X.kx ⟨c, D :: μ1.h⟩ H M ∧ H D = some (.lst vals) ∧ RVs X.kx ⟨c, D :: μ1.h⟩ H vals acc ∧ compL is bd tt te (wipeD ρ (own.map (·.2))) (ds.drop i) acc M = some r,
        ⟨ds.length, by omega, μ1.c, M1, [], [], Lq.hide hD, hm1.hide hD, upd_same, .nil, e⟩, ?_⟩
      rintro i m H2 ⟨him, c, M2, acc, vals, l2, hm2, hd2, rv2, e2⟩
      have hs2 : RS X.kx ⟨c, D :: μ1.h⟩ H2 (L2.wipe σ (own.map (·.2))) (wipeD ρ (own.map (·.2))) := by
        have z := hs1.wipe (own.map (·.2))
        exact ⟨z.len, fun i d hi => let ⟨v, a, b⟩ := z.get i d hi; ⟨v, a, b.go (go_lq hm1 l2)⟩⟩
      obtain ⟨iok1, iok2⟩ := iok ⟨c, D :: μ1.h⟩ H2 M2 l2 hm2 i
      by_cases hlt : i < ds.length
      · rw [List.drop_eq_getElem_cons hlt] at e2
        obtain ⟨jg, jy⟩ := iok1 ds[i] (List.getElem?_eq_getElem hlt)
        refine .inr ⟨jg, fun H => ∃ c M acc vals, Lq μ1 H1 ⟨c, D :: μ1.h⟩ H ∧ RM X.kx ⟨c, D :: μ1.h⟩ H M ∧ H D = some (.lst vals) ∧ RVs X.kx ⟨c, D :: μ1.h⟩ H vals acc ∧ compL is bd tt te (wipeD ρ (own.map (·.2))) (ds.drop (i + 1)) acc M = some r,
          fun H' hq => ⟨m - 1, by omega, by omega, hq⟩, fun x H3 y => ?_⟩
        obtain ⟨l3, hm3, rx⟩ := jy x H3 y
        unfold compL at e2
        split at e2
        · rename_i bs hbs
          obtain ⟨us, ru, gk⟩ := tgo _ H3 x ds[i] bs rx hbs
          refine gk _ _ ⟨by rw [wipe_setV hv, wipe_wipe], ?_⟩
          have hs3 := (hs2.le hm2 l3).setAll (is := is) ru
          have keepD : ∀ {c' : List Addr} {H' : Hp}, Le ⟨c, D :: μ1.h⟩ H3 ⟨c', D :: μ1.h⟩ H' → H' D = some (.lst vals) := fun {c' H'} l => l.fr D _ (l3.fr D _ hd2 (hm2.hid D List.mem_cons_self).2) (hm3.hid D List.mem_cons_self).2
          have rv3 := rv2.le hm2 l3
          have L3 := l2.trans l3
          cases ht : tt (setD (wipeD ρ (own.map (·.2))) is bs) M2 with
          | none => rw [ht] at e2; cases e2
          | some rt =>
            rw [ht] at e2
            cases rt with
            | err z Mz => cases e2
            | ok b M3 =>
              refine ⟨_, _, M2, .ok b M3, hs3, hm3, ht, fun μ4 b' H4 l4 hm4 eb => ?_⟩
              subst eb
              obtain ⟨c4, h4⟩ := μ4
              obtain rfl : h4 = D :: μ1.h := l4.hid
              cases b' with
              | false =>
                rw [if_neg Bool.false_ne_true]
                simp only [bndO, if_neg Bool.false_ne_true] at e2
                exact ⟨c4, M3, acc, vals, L3.trans l4, hm4, keepD l4, rv3.le hm3 l4, e2⟩
              | true =>
                rw [if_pos rfl]
                simp only [bndO, if_pos] at e2
                have hs4 := hs3.le hm3 l4
                cases hte : te (setD (wipeD ρ (own.map (·.2))) is bs) M3 with
                | none => rw [hte] at e2; cases e2
                | some re =>
                  rw [hte] at e2
                  cases re with
                  | err z Mz => cases e2
                  | ok yv M4 =>
                    simp only at e2
                    split at e2
                    · rename_i hsz
                      refine ⟨_, _, M3, .ok yv M4, hs4, hm4, hte, fun μ5 y' H5 l5 hm5 ry => ?_⟩
                      obtain ⟨c5, h5⟩ := μ5
                      obtain rfl : h5 = D :: μ1.h := l5.hid
                      have mem5 : D ∈ (Wd.mk c5 (D :: μ1.h)).h := List.mem_cons_self
                      have g := go_hid (vs := vals ++ [y']) hm5 mem5
                      refine ⟨vals, keepD (l4.trans l5), by rw [rv2.length]; exact hsz, c5, M4, acc ++ [yv], vals ++ [y'], ((L3.trans l4).trans l5).updNew hD, hm5.hidUpd mem5, upd_same, ?_, e2⟩
                      exact ((((rv3.le hm3 l4).le hm4 l5).go g).append (.cons (ry.go g) .nil))
                    · cases e2
        · cases e2
      · rw [List.drop_of_length_le (by omega)] at e2
        cases e2
        refine .inl ⟨iok2 (by omega), ?_⟩
        obtain ⟨ν, ec, f⟩ := l2.ex
        have hD0 : H D = none := by
          cases hz : H D with
          | none => rfl
          | some o =>
            obtain ⟨o', h'⟩ := l1.dom D o hz
            rw [hD] at h'; cases h'
        refine qo _ _ rfl c μ1.h _ _ H2 l1.hid (l1.trans ⟨⟨ν, ec, f⟩, rfl, l2.dom, l2.fr⟩) hm2 hD0 hd2 (fun z => ?_) rv2
        obtain ⟨⟨vs, e'⟩, _⟩ := hm1.hid D z
        rw [hD] at e'
        cases e'
theorem tr_lc (tgo : TgOk X.kx G is bd) (hv : ∀ i ∈ is, i ∈ own.map (·.2)) {σ : L2.St} {H : Hp} {Q : VK} (h : trE X.kx E (vComp (own.map (·.2)) is vi bd tt te) σ H Q) : tLc (trI X.kx E vi) G (trT X.kx E0 tt) (trE X.kx E0 te) (own.map (·.2)) σ H Q := by
  obtain ⟨μ, ρ, M, r, hs, hm, e, q⟩ := h
  refine tr_lcF tgo hv hs hm e (fun x M' hr => ?_) (fun acc M' hr c h a vs H' eh l hm' h0 h1 h2 h3 => ?_)
  · subst hr; exact q
  · subst hr; exact q ⟨c, h⟩ _ H' l hm'.unhide (.lst h1 ⟨(hm'.hid a List.mem_cons_self).2, h2⟩ (h3.go go_unhide))
/-- a list that is put into a cell -/
@[simp] def toCell (r : Option (Res D)) : Option (Res D) := match r with
  | some (.ok (.lst xs) M) => some (.ok (.loc M.length) (M ++ [.lst xs]))
  | some (.err x M) => some (.err x M)
  | _ => none
@[simp] def vToC (v : Ev) : Ev := fun ρ M => toCell (v ρ M)
theorem go_cell {K : Fw} {H : Hp} {c h : List Addr} {a : Addr} : Go K ⟨c, a :: h⟩ H ⟨c ++ [a], h⟩ H := by
  have key : ∀ b, (Wd.mk c (a :: h)).out b → (Wd.mk (c ++ [a]) h).out b := fun b m => ⟨fun z => by
    rcases List.mem_append.mp z with q | q
    · exact m.1 q
    · exact m.2 (by rw [List.mem_singleton.mp q]; exact List.mem_cons_self), fun z => m.2 (List.mem_cons_of_mem _ z)⟩
  refine ⟨fun _ _ z => z, fun b vs z => z.imp (fun ⟨q, m⟩ => ⟨q, key b m⟩) id, fun b o q m => ⟨q, key b m⟩, fun n b z => ?_⟩
  show (c ++ [a])[n]? = some b
  rw [List.getElem?_append_left (List.getElem?_eq_some_iff.mp z).1]
  exact z
/-- what was being made becomes a cell -/
theorem RM.asCell {K : Fw} {c h : List Addr} {H : Hp} {M : Mem} {a : Addr} {vs : List V} {ds : List D} (hm : RM K ⟨c, a :: h⟩ H M) (e : H a = some (.lst vs)) (n2 : a ∉ h) (rv : RVs K ⟨c, a :: h⟩ H vs ds) : RM K ⟨c ++ [a], h⟩ H (M ++ [.lst ds]) := by
  have n : a ∉ c := (hm.hid a List.mem_cons_self).2
  have hl : c.length = M.length := hm.len
  refine ⟨by show (c ++ [a]).length = _; rw [List.length_append, List.length_append, hl]; rfl, List.nodup_append.mpr ⟨hm.nd, List.pairwise_singleton _ _, fun x hx b hb => by
      rw [List.mem_singleton.mp hb]
      exact fun e => n (e ▸ hx)⟩, fun x hx => ?_, fun i x k e1 e2 => ?_⟩
  · obtain ⟨y, z⟩ := hm.hid x (List.mem_cons_of_mem _ hx)
    refine ⟨y, fun w => ?_⟩
    rcases List.mem_append.mp w with q | q
    · exact z q
    · exact n2 (by rw [← List.mem_singleton.mp q]; exact hx)
  · replace e1 : (c ++ [a])[i]? = some x := e1
    by_cases hi : i < c.length
    · rw [List.getElem?_append_left hi] at e1
      rw [List.getElem?_append_left (by rw [← hl]; exact hi)] at e2
      exact (hm.cell i x k e1 e2).go go_cell rfl
    · rw [List.getElem?_append_right (by omega)] at e1
      rw [List.getElem?_append_right (by rw [← hl]; omega)] at e2
      cases q : i - c.length with
      | zero =>
        rw [q] at e1
        rw [← hl, q] at e2
        cases e1
        cases e2
        exact ⟨vs, e, rv.go go_cell⟩
      | succ k => rw [q] at e1; cases e1
theorem tr_lcC (tgo : TgOk X.kx G is bd) (hv : ∀ i ∈ is, i ∈ own.map (·.2)) {σ : L2.St} {H : Hp} {Q : VK} (h : trE X.kx E (vToC (vComp (own.map (·.2)) is vi bd tt te)) σ H Q) : tLc (trI X.kx E vi) G (trT X.kx E0 tt) (trE X.kx E0 te) (own.map (·.2)) σ H Q := by
  obtain ⟨μ, ρ, M, r, hs, hm, e, q⟩ := h
  unfold vToC at e
  cases h1 : vComp (own.map (·.2)) is vi bd tt te ρ M with
  | none => rw [h1] at e; cases e
  | some r1 =>
    rw [h1] at e
    refine tr_lcF tgo hv hs hm h1 (fun x M' hr => ?_) (fun acc M' hr c h a vs H' eh l hm' h0 k1 h2 h3 => ?_)
    · subst hr; cases e; exact q
    · subst hr; cases e
      have hn : a ∉ c := (hm'.hid a List.mem_cons_self).2
      have hl : c.length = M'.length := hm'.len
      refine q ⟨c ++ [a], h⟩ _ H' ?_ (hm'.asCell k1 h2 h3) (.loc (by show (c ++ [a])[M'.length]? = some a; rw [← hl]; simp))
      obtain ⟨ν, ec, f⟩ := l.ex
      refine ⟨⟨ν ++ [a], by rw [← List.append_assoc]; exact congrArg (· ++ [a]) ec, fun x hx => ?_⟩, l.hid, l.dom, l.fr⟩
      rcases List.mem_append.mp hx with z | z
      · exact f x z
      · rw [List.mem_singleton.mp z]; exact h0
theorem mv_lc (hc : X.calm = true) (hN : X.N.Nodup) (hi : MI X E tg iter vi) (ok : BlkOk X.N X.env.scope scope own) (tgo : TgOk X.kx G is bd) (hv : ∀ i ∈ is, i ∈ own.map (·.2))
    (hg : ∀ (s : Shared) (H : Hp) (C : Addr) (cl : List (Str × Addr)) (fp : List Addr), PG (X.blk s H scope (compEnvC scope cl C X.env) fp) tg G) (ht : ∀ (s : Shared) (H : Hp) (C : Addr) (cl : List (Str × Addr)) (fp : List Addr), MTs (X.blk s H scope (compEnvC scope cl C X.env) fp) E0 ifs tt)
    (he : ∀ (s : Shared) (H : Hp) (C : Addr) (cl : List (Str × Addr)) (fp : List Addr), MV (X.blk s H scope (compEnvC scope cl C X.env) fp) E0 elt te) (hs : ∀ x, foldedSetIterable iter X.env x = pure x := by intro _; rfl) :
    MV X E (.ListComp elt [⟨tg, iter, ifs, 0⟩] scope pos) (vComp (own.map (·.2)) is vi bd tt te) := PE.imp (pe_lc (tt := trT X.kx E0 tt) (te := trE X.kx E0 te) hc hN hi ok hg ht he hs) fun σ H Q h => tr_lc tgo hv h
theorem ms_setLc {i : Nat} {y : Str} {py spos : Pos} (hc : X.calm = true) (hN : X.N.Nodup) (hy : X.N[i]? = some y) (hyl : X.env.scope.names.lookup y = some .local)
    (hsw : swapsWith (.ListComp elt [⟨tg, iter, ifs, 0⟩] scope pos) (some (.Name y py)) spos.line X.env = pure true) (hi : MI X E tg iter vi) (ok : BlkOk X.N X.env.scope scope own) (tgo : TgOk X.kx G is bd) (hv : ∀ i ∈ is, i ∈ own.map (·.2))
    (hg : ∀ (s : Shared) (H : Hp) (C : Addr) (cl : List (Str × Addr)) (fp : List Addr), PG (X.blk s H scope (compEnvC scope cl C X.env) fp) tg G) (ht : ∀ (s : Shared) (H : Hp) (C : Addr) (cl : List (Str × Addr)) (fp : List Addr), MTs (X.blk s H scope (compEnvC scope cl C X.env) fp) E0 ifs tt)
    (he : ∀ (s : Shared) (H : Hp) (C : Addr) (cl : List (Str × Addr)) (fp : List Addr), MV (X.blk s H scope (compEnvC scope cl C X.env) fp) E0 elt te) (hs : ∀ x, foldedSetIterable iter X.env x = pure x := by intro _; rfl) :
    MS X E (.Assign [.Name y py] (.ListComp elt [⟨tg, iter, ifs, 0⟩] scope pos) spos) (vAsg (vComp (own.map (·.2)) is vi bd tt te) (gN i)) := PS.imp (ps_setLc (tt := trT X.kx E0 tt) (te := trE X.kx E0 te) hc hN hy hyl hsw hi ok hg ht he hs) fun D σ H ⟨μ, ρ, M, r, hs, hm, e, q⟩ => by
      refine tr_lc tgo hv (E := E) ?_
      refine trS_bnd hs hm e q fun μ1 x H1 d M1 l hs1 hm1 rx e1 q1 => ?_
      cases e1
      exact q1 μ1 _ H1 Le.refl hm1 (hs1.set i rx)
theorem mv_lcC (hc : X.calm = true) (hN : X.N.Nodup) (hi : MI X E tg iter vi) (ok : BlkOk X.N X.env.scope scope own) (tgo : TgOk X.kx G is bd) (hv : ∀ i ∈ is, i ∈ own.map (·.2))
    (hg : ∀ (s : Shared) (H : Hp) (C : Addr) (cl : List (Str × Addr)) (fp : List Addr), PG (X.blk s H scope (compEnvC scope cl C X.env) fp) tg G) (ht : ∀ (s : Shared) (H : Hp) (C : Addr) (cl : List (Str × Addr)) (fp : List Addr), MTs (X.blk s H scope (compEnvC scope cl C X.env) fp) E0 ifs tt)
    (he : ∀ (s : Shared) (H : Hp) (C : Addr) (cl : List (Str × Addr)) (fp : List Addr), MV (X.blk s H scope (compEnvC scope cl C X.env) fp) E0 elt te) (hs : ∀ x, foldedSetIterable iter X.env x = pure x := by intro _; rfl) :
    MV X E (.ListComp elt [⟨tg, iter, ifs, 0⟩] scope pos) (vToC (vComp (own.map (·.2)) is vi bd tt te)) := PE.imp (pe_lc (tt := trT X.kx E0 tt) (te := trE X.kx E0 te) hc hN hi ok hg ht he hs) fun σ H Q h => tr_lcC tgo hv h
theorem ms_setLcC {i : Nat} {y : Str} {py spos : Pos} (hc : X.calm = true) (hN : X.N.Nodup) (hy : X.N[i]? = some y) (hyl : X.env.scope.names.lookup y = some .local)
    (hsw : swapsWith (.ListComp elt [⟨tg, iter, ifs, 0⟩] scope pos) (some (.Name y py)) spos.line X.env = pure true) (hi : MI X E tg iter vi) (ok : BlkOk X.N X.env.scope scope own) (tgo : TgOk X.kx G is bd) (hv : ∀ i ∈ is, i ∈ own.map (·.2))
    (hg : ∀ (s : Shared) (H : Hp) (C : Addr) (cl : List (Str × Addr)) (fp : List Addr), PG (X.blk s H scope (compEnvC scope cl C X.env) fp) tg G) (ht : ∀ (s : Shared) (H : Hp) (C : Addr) (cl : List (Str × Addr)) (fp : List Addr), MTs (X.blk s H scope (compEnvC scope cl C X.env) fp) E0 ifs tt)
    (he : ∀ (s : Shared) (H : Hp) (C : Addr) (cl : List (Str × Addr)) (fp : List Addr), MV (X.blk s H scope (compEnvC scope cl C X.env) fp) E0 elt te) (hs : ∀ x, foldedSetIterable iter X.env x = pure x := by intro _; rfl) :
    MS X E (.Assign [.Name y py] (.ListComp elt [⟨tg, iter, ifs, 0⟩] scope pos) spos) (vAsg (vToC (vComp (own.map (·.2)) is vi bd tt te)) (gN i)) := PS.imp (ps_setLc (tt := trT X.kx E0 tt) (te := trE X.kx E0 te) hc hN hy hyl hsw hi ok hg ht he hs) fun D σ H ⟨μ, ρ, M, r, hs, hm, e, q⟩ => by
      refine tr_lcC tgo hv (E := E) ?_
      refine trS_bnd hs hm e q fun μ1 x H1 d M1 l hs1 hm1 rx e1 q1 => ?_
      cases e1
      exact q1 μ1 _ H1 Le.refl hm1 (hs1.set i rx)
end
end Mi
set_option autoImplicit false
/-! Objects and their mirrors. -/
namespace Mi
open PySem PySem.Spec L2
theorem Out.mono {α β : Type} {R : Wd → Hp → β → α → Prop} {K : Fw} {E : XK} {μ : Wd} {H : Hp} {r : Res α} {Q Q' : β → Hp → Prop} (h : Out R K E μ H r Q) (k : ∀ x H, Q x H → Q' x H) : Out R K E μ H r Q' := by
  cases r with
  | ok d M => exact fun μ' x H' l m rx => k x H' (h μ' x H' l m rx)
  | err x M => exact h
theorem tr_mono {α β : Type} {R : Wd → Hp → β → α → Prop} {K : Fw} {E : XK} {v : Sl → Mem → Option (Res α)} {σ : L2.St} {H : Hp} {Q Q' : β → Hp → Prop} (h : tr R K E v σ H Q) (k : ∀ x H, Q x H → Q' x H) : tr R K E v σ H Q' :=
  let ⟨μ, ρ, M, r, hs, hm, e, q⟩ := h
  ⟨μ, ρ, M, r, hs, hm, e, q.mono k⟩
/-- an outcome that is no exception -/
@[simp] def noErr (g : FC) : FC := fun ds M => match g ds M with
  | some (.ok d M1) => some (.ok d M1)
  | _ => none
theorem noErr_ok {g : FC} {ds : List D} {M : Mem} {r : Res D} (h : noErr g ds M = some r) : g ds M = some r ∧ ∃ d M1, r = .ok d M1 := by
  unfold noErr at h
  split at h
  · rename_i d M1 hg
    cases h
    exact ⟨hg, d, M1, rfl⟩
  · cases h
/-- an instance: its class, its fields -/
@[simp] def insM (M : Mem) : D → Option (Str × List (Str × D))
  | .obj C ks xs => some (C, ks.zip xs)
  | .loc n => match M[n]? with
    | some (.ins C fs) => some (C, fs)
    | _ => none
  | _ => none
section
variable {K : Fw} {μ : Wd} {H : Hp} {M : Mem}
theorem RVs.zip {κ : Type} : ∀ {ks : List κ} {vs : List V} {ds : List D}, RVs K μ H vs ds → RF K μ H (ks.zip vs) (ks.zip ds)
  | [], _, _, _ => by simp only [List.zip_nil_left]; exact .nil
  | k :: ks, _, _, .nil => by simp only [List.zip_nil_right]; exact .nil
  | k :: ks, _, _, .cons h t => .cons h (RVs.zip t)
theorem RV.insM (hm : RM K μ H M) {v : V} {d : D} {C : Str} {fs : List (Str × D)} (h : RV K μ H v d) (e : Mi.insM M d = some (C, fs)) : ∃ a dx gs, v = .ref a ∧ H a = some (.ins (cad K C) dx gs) ∧ RF K μ H gs fs := by
  cases h with
  | @loc n a hn =>
    simp only [Mi.insM] at e
    split at e
    · rename_i C' fs' hx
      cases e
      obtain ⟨dx, gs, h1, h2⟩ := hm.cell n a _ hn hx
      exact ⟨a, dx, gs, rfl, h1, h2⟩
    · cases e
  | obj h n l k => cases e; exact ⟨_, _, _, rfl, h, k.zip⟩
  | lst h n k => cases e
  | tup h k => cases e
  | fro h k => cases e
  | non => cases e
  | bl b => cases e
  | int i => cases e
  | str x h => cases e
  | dic h n l k => cases e
  | dcT h n l k j => cases e
  | glb a => cases e
  | ty n => cases e
  | xob h1 h2 h3 h4 h5 => cases e
end
section
variable {X : Cx} {E : XK} {e o : Expr} {es : List Expr} {ve vo : Ev} {vs : EvA} {pos apos p : Pos} {f m x C : Str}
/-! ### fields -/
@[simp] def vFld (cs : List Str) (f : Str) (v : Ev) : Ev := fun ρ M => bnd (v ρ M) fun d M1 => match insM M1 d with
  | some (C, fs) => if C ∈ cs then (fs.lookup f).map fun x => .ok x M1 else none
  | none => none
theorem mv_fld {cs : List Str} (hc : ∀ C ∈ cs, Cls X.K (cad X.K C) ∧ NoAttr X.K (cad X.K C) f) (he : MV X E e ve) (hb : attributeBase e f X.env (eval e X.env) = eval e X.env := by rfl) : MV X E (.Attribute e f pos) (vFld cs f ve) :=
  PE.imp (pe_fld he hb) fun σ H Q ⟨μ, ρ, M, r, hs, hm, e, q⟩ => tr_bnd hs hm e q fun μ1 x H1 d M1 l hs1 hm1 rx e1 q1 => by
    split at e1
    · rename_i C fs hi
      split at e1
      · rename_i hC
        obtain ⟨a, dx, gs, rfl, h1, h2⟩ := rx.insM hm1 hi
        cases h : fs.lookup f with
        | none => rw [h] at e1; cases e1
        | some y =>
          rw [h] at e1; cases e1
          obtain ⟨v, k1, k2⟩ := (h2.lookup f).1 y h
          exact ⟨a, cad X.K C, dx, gs, v, rfl, h1, (hc C hC).1, (hc C hC).2, k1, q1 μ1 _ H1 Le.refl hm1 k2⟩
      · cases e1
    · cases e1
theorem RF.putF {K : Fw} {μ : Wd} {H : Hp} {v : V} {d : D} (f : Str) (h : RV K μ H v d) : ∀ {gs : List (Str × V)} {fs : List (Str × D)}, RF K μ H gs fs → RF K μ H (L2.putF f v gs) (putD f d fs)
  | _, _, .nil => .cons h .nil
  | _, _, .cons (k := k) q t => by
    unfold L2.putF putD
    by_cases z : k = f
    · subst z
      rw [if_pos rfl, if_pos rfl]
      exact .cons h t
    · rw [if_neg z, if_neg z]
      exact .cons q (RF.putF f h t)
/-- o.f = e, o a cell -/
@[simp] def vSetF (cs : List Str) (f : Str) (vo ve : Ev) : Sv := fun ρ M => bndS (ve ρ M) fun d M1 => bndS (vo ρ M1) fun o M2 => match o with
  | .loc n => match M2[n]? with
    | some (.ins C fs) => if C ∈ cs ∧ fs.length < 1000 then some (.nx ρ (M2.set n (.ins C (putD f d fs)))) else none
    | _ => none
  | _ => none
theorem ms_fld {cs : List Str} {pos' : Pos} (hc : ∀ C ∈ cs, Cls X.K (cad X.K C) ∧ NoAttr X.K (cad X.K C) f) (ho : MV X E o vo) (he : MV X E e ve) (hs : swapsWith e (some (.Attribute o f pos')) pos.line X.env = pure false := by rfl) : MS X E (.Assign [.Attribute o f pos'] e pos) (vSetF cs f vo ve) :=
  PS.imp (ps_fld ho he hs) fun D σ H ⟨μ, ρ, M, r, hs, hm, e, q⟩ => trS_bnd hs hm e q fun μ1 x H1 d M1 l hs1 hm1 rx e1 q1 => trS_bnd hs1 hm1 e1 q1 fun μ2 y H2 o M2 l2 hs2 hm2 ry e2 q2 => by
    have rx2 := rx.le hm1 l2
    split at e2
    · rename_i n
      split at e2
      · rename_i C fs hn
        split at e2
        · rename_i hC
          cases e2
          cases ry with
          | @loc _ a ha =>
            obtain ⟨dx, gs, h1, h2⟩ := hm2.cell n a _ ha hn
            refine ⟨a, cad X.K C, dx, gs, rfl, h1, (hc C hC.1).1, (hc C hC.1).2, by rw [h2.length]; exact hC.2, ?_⟩
            have l3 : Le μ2 H2 μ2 (upd H2 a (.ins (cad X.K C) dx (L2.putF f x gs))) := Le.put (List.mem_of_getElem? ha)
            exact q2 μ2 σ _ l3 (hm2.put ha ⟨dx, _, upd_same, RF.putF f (rx2.le hm2 l3) (h2.le hm2 l3)⟩) (hs2.le hm2 l3)
        · cases e2
      · cases e2
    · cases e2
/-! ### methods -/
@[simp] def vMeth (C : Str) (m : Str) (g : FC) (n : Nat) (dds : List D) (vo : Ev) (vs : EvA) : Ev := fun ρ M => bnd (vo ρ M) fun o M1 => match insM M1 o with
  | some (C', fs) => if C' = C ∧ fs.lookup m = none then bnd (vs ρ M1) fun ds M2 => if (o :: (ds ++ dds)).length = n then g (o :: (ds ++ dds)) M2 else none else none
  | none => none
section
variable {k : Nat} {fa : Addr} {fd : FuncData} {ps : List Str} {g : FC} {dvs : List V} {dds : List D} {ds : List Value}
theorem tr_meth (hd : ∀ μ H, RVs X.kx μ H dvs dds) {σ : L2.St} {H : Hp} {Q : VK} (h : trE X.kx E (vMeth C m g ps.length dds vo vs) σ H Q)   : tMeth (cad X.K C) m (spM X.kx ps.length g) dvs E (trE X.kx E vo) (trA X.kx E vs) σ H Q := by
  obtain ⟨μ, ρ, M, r, hs, hm, e, q⟩ := h
  refine tr_bnd hs hm e q fun μ1 x H1 o M1 l hs1 hm1 rx e1 q1 => ?_
  split at e1
  · rename_i C' fs hi
    split at e1
    · rename_i hC
      obtain ⟨a, dx, gs, rfl, h1, h2⟩ := rx.insM hm1 hi
      rw [hC.1] at h1
      refine ⟨a, dx, gs, rfl, h1, (h2.lookup m).2 hC.2, ?_⟩
      refine tr_bnd hs1 hm1 e1 q1 fun μ2 xs H2 as M2 l2 hs2 hm2 rxs e2 q2 => ?_
      split at e2
      · rename_i hl
        have r2 := rxs.append (hd μ2 H2)
        have r3 : RVs X.kx μ2 H2 (V.ref a :: (xs ++ dvs)) (o :: (as ++ dds)) := .cons (rx.le hm1 l2) r2
        exact ⟨by rw [r3.length]; exact hl, μ2, M2, _, _, r3, hm2, e2, q2⟩
      · cases e2
    · cases e1
  · cases e1
theorem mv_meth {pl : Sem Bool} (ho : MV X E o vo) (c : Cls X.K (cad X.K C)) (hm : Meth X.K (cad X.K C) m fa) (F : OkM X.prog X.w X.K X.mg X.base k fa fd ps g) (hr : Room k X.A) (hb : Binds X.K fd ps ds) (hv : Vals dvs ds) (hd : ∀ μ H, RVs X.kx μ H dvs dds) (hx : Passes (L2.CX X.prog X.w) X E) (ha : MA X E (e :: es) vs)
    (hst : starEach (e :: es) X.env = (false, eval e X.env) :: starEach es X.env := by rfl) (hpl : (backTo pos (starEach es X.env)).any (·.1) = false := by rfl)
    (ht : eval (.Call (.Attribute o m apos) (e :: es) [] pos) X.env = (do
      let ov ← eval o X.env
      standAt apos.atName
      let (f, first) ← holding [ov] (getMethod ov m pl)
      callWith pos f first (backTo pos (starEach (e :: es) X.env)) (backToKw pos (keywordEach [] X.env))) := by rfl) :
    MV X E (.Call (.Attribute o m apos) (e :: es) [] pos) (vMeth C m g ps.length dds vo vs) := PE.imp (pe_meth (pl := pl) ho c hm F hr hb hv hx ha hst hpl ht) fun _ _ _ h => tr_meth hd h
theorem mv_meth0 {pl : Sem Bool} (ho : MV X E o vo) (c : Cls X.K (cad X.K C)) (hm : Meth X.K (cad X.K C) m fa) (F : OkM X.prog X.w X.K X.mg X.base k fa fd ps g) (hr : Room k X.A) (hb : Binds X.K fd ps ds) (hv : Vals dvs ds) (hd : ∀ μ H, RVs X.kx μ H dvs dds) (hx : Passes (L2.CX X.prog X.w) X E)
    (ht : eval (.Call (.Attribute o m apos) [] [] pos) X.env = (do
      let ov ← eval o X.env
      standAt apos.atName
      let (f, first) ← holding [ov] (getMethod ov m pl)
      callWith pos f first (backTo pos (starEach [] X.env)) (backToKw pos (keywordEach [] X.env))) := by rfl) :
    MV X E (.Call (.Attribute o m apos) [] [] pos) (vMeth C m g ps.length dds vo vNil) := PE.imp (pe_meth0 (pl := pl) ho c hm F hr hb hv hx ht) fun σ H Q h => by
      exact tr_mono (tr_meth hd h) fun x H1 ⟨a, dx, fs, h1, h2, h3, h4⟩ => ⟨a, dx, fs, h1, h2, h3, tr_nil h4⟩
/-! ### properties -/
@[simp] def vProp (C : Str) (g : FC) (vo : Ev) : Ev := fun ρ M => bnd (vo ρ M) fun o M1 => match insM M1 o with
  | some (C', fs) => if C' = C then g [o] M1 else none
  | none => none
theorem mv_prop {pa : Addr} (ho : MV X E o vo) (c : Cls X.K (cad X.K C)) (hp : PropOf X.K (cad X.K C) f pa fa) (F : OkM X.prog X.w X.K X.mg X.base k fa fd ["self"] g) (hr : Room (k + 1) X.A) (hb : Binds X.K fd ["self"] []) (hab : attributeBase o f X.env (eval o X.env) = eval o X.env := by rfl) :
    MV X E (.Attribute o f pos) (vProp C (noErr g) vo) := PE.imp (pe_prop (E := E0) ho c hp F hr hb .nil passL hab) fun σ H Q ⟨μ, ρ, M, r, hs, hm, e, q⟩ => tr_bnd hs hm e q fun μ1 x H1 o M1 l hs1 hm1 rx e1 q1 => by
      split at e1
      · rename_i C' fs hi
        split at e1
        · rename_i hC
          obtain ⟨a, dx, gs, rfl, h1, h2⟩ := rx.insM hm1 hi
          rw [hC] at h1
          obtain ⟨hg, d, M2, rfl⟩ := noErr_ok e1
          exact ⟨a, dx, gs, rfl, h1, rfl, μ1, M1, [o], _, .cons rx .nil, hm1, hg, q1⟩
        · cases e1
      · cases e1
end
end
end Mi
set_option autoImplicit false
/-! Making objects; operators, truth, membership by methods; isinstance. -/
namespace Mi
open PySem PySem.Spec L2
mutual
/-- it speaks of cells below N alone -/
def low (N : Nat) : D → Bool
  | .loc n => decide (n < N)
  | .tup xs => lows N xs
  | .lst xs => lows N xs
  | .fro xs => lows N xs
  | .obj _ _ xs => lows N xs
  | .dic _ xs => lows N xs
  | .dcT ks xs => lows N ks && lows N xs
  | .xob _ _ xs => lows N xs
  | _ => true
def lows (N : Nat) : List D → Bool
  | [] => true
  | d :: r => low N d && lows N r
end
theorem lows_mem {N : Nat} : ∀ {ds : List D}, lows N ds = true ↔ ∀ d ∈ ds, low N d = true
  | [] => by simp [lows]
  | d :: r => by simp [lows, lows_mem (ds := r)]
section
variable {K : Fw} {μ μ' : Wd} {H H' : Hp} {M : Mem}
mutual
theorem RV.low : ∀ {v : V} {d : D}, RV K μ H v d → Mi.low μ.c.length d = true
  | _, _, .non => rfl
  | _, _, .bl b => rfl
  | _, _, .int i => rfl
  | _, _, .str x h => rfl
  | _, _, .tup h k => RVs.lows k
  | _, _, .lst h n k => RVs.lows k
  | _, _, .fro h k => RVs.lows k
  | _, _, .obj h n e k => RVs.lows k
  | _, _, .dic h n e k => RVs.lows k
  | _, _, .dcT h n e k j => Bool.and_eq_true_iff.mpr ⟨RVs.lows k, RVs.lows j⟩
  | _, _, .loc h => decide_eq_true (List.getElem?_eq_some_iff.mp h).1
  | _, _, .glb a => rfl
  | _, _, .ty n => rfl
  | _, _, .xob h n x e k => RVs.lows k
theorem RVs.lows : ∀ {vs : List V} {ds : List D}, RVs K μ H vs ds → Mi.lows μ.c.length ds = true
  | _, _, .nil => rfl
  | _, _, .cons h k => by
    show (Mi.low _ _ && Mi.lows _ _) = true
    rw [RV.low h, RVs.lows k]
    rfl
end
theorem XD.fewer {c ν h : List Addr} {o : Option Addr} {fs : List (Str × V)} (q : XD ⟨c ++ ν, h⟩ H o fs) : XD ⟨c, h⟩ H o fs := by
  cases o with
  | none => exact q
  | some dx => exact ⟨q.1, fun y => q.2.1 (List.mem_append_left _ y), q.2.2⟩
mutual
theorem RV.fewer {c ν h : List Addr} : ∀ {v : V} {d : D}, RV K ⟨c ++ ν, h⟩ H v d → Mi.low c.length d = true → RV K ⟨c, h⟩ H v d
  | _, _, .non, _ => .non
  | _, _, .bl b, _ => .bl b
  | _, _, .int i, _ => .int i
  | _, _, .str x h, _ => .str x h
  | _, _, .tup q k, z => .tup q (RVs.fewer k z)
  | _, _, .lst q n k, z => .lst q ⟨fun y => n.1 (List.mem_append_left _ y), n.2⟩ (RVs.fewer k z)
  | _, _, .fro q k, z => .fro (q.imp (fun ⟨a, n⟩ => ⟨a, fun y => n.1 (List.mem_append_left _ y), n.2⟩) id) (RVs.fewer k z)
  | _, _, .obj q n e k, z => .obj q ⟨fun y => n.1 (List.mem_append_left _ y), n.2⟩ e (RVs.fewer k z)
  | _, _, .dic q n e k, z => .dic q ⟨fun y => n.1 (List.mem_append_left _ y), n.2⟩ e (RVs.fewer k z)
  | _, _, .dcT q n e k j, z => .dcT q ⟨fun y => n.1 (List.mem_append_left _ y), n.2⟩ e (RVs.fewer k (Bool.and_eq_true_iff.mp z).1) (RVs.fewer j (Bool.and_eq_true_iff.mp z).2)
  | _, _, .loc q, z => .loc (by
    rw [List.getElem?_append_left (of_decide_eq_true z)] at q
    exact q)
  | _, _, .glb a, _ => .glb a
  | _, _, .ty n, _ => .ty n
  | _, _, .xob q n x e k, z => .xob q ⟨fun y => n.1 (List.mem_append_left _ y), n.2⟩ (x.fewer) e (RVs.fewer k z)
theorem RVs.fewer {c ν h : List Addr} : ∀ {vs : List V} {ds : List D}, RVs K ⟨c ++ ν, h⟩ H vs ds → Mi.lows c.length ds = true → RVs K ⟨c, h⟩ H vs ds
  | _, _, .nil, _ => .nil
  | _, _, .cons q k, z => by
    obtain ⟨z1, z2⟩ := Bool.and_eq_true_iff.mp (show (Mi.low _ _ && Mi.lows _ _) = true from z)
    exact .cons (RV.fewer q z1) (RVs.fewer k z2)
end
theorem RF.vals {κ : Type} : ∀ {gs : List (κ × V)} {fs : List (κ × D)}, RF K μ H gs fs → RVs K μ H (gs.map (·.2)) (fs.map (·.2)) ∧ gs.map (·.1) = fs.map (·.1)
  | _, _, .nil => ⟨.nil, rfl⟩
  | _, _, .cons h t => ⟨.cons h (RF.vals t).1, by rw [List.map_cons, List.map_cons, (RF.vals t).2]⟩
theorem RVs.rf {κ : Type} : ∀ {gs : List (κ × V)} {fs : List (κ × D)}, RVs K μ H (gs.map (·.2)) (fs.map (·.2)) → gs.map (·.1) = fs.map (·.1) → RF K μ H gs fs
  | [], [], _, _ => .nil
  | [], _ :: _, _, e => by cases e
  | _ :: _, [], _, e => by cases e
  | (k, v) :: gs, (k', d) :: fs, h, e => by
    cases h with | cons h1 h2 =>
    obtain ⟨e1, e2⟩ := List.cons.inj e
    obtain rfl : k = k' := e1
    exact .cons h1 (RVs.rf h2 e2)
theorem zip_unzip {α β : Type} : ∀ l : List (α × β), (l.map (·.1)).zip (l.map (·.2)) = l
  | [] => rfl
  | (a, b) :: r => by rw [List.map_cons, List.map_cons, List.zip_cons_cons, zip_unzip r]
/-- what a cell says is of cells below N alone -/
def lowC (N : Nat) : Cell → Bool
  | .lst xs => lows N xs
  | .ins _ fs => lows N (fs.map (·.2))
  | .dct kvs => lows N (kvs.map (·.2))
  | .dcT ks xs => lows N ks && lows N xs
  | .exc _ m => match m with
    | none => true
    | some m => decide (m < N)
  | .xdc fs => lows N (fs.map (·.2))
theorem RC.low {a : Addr} {c : Cell} (h : RC K μ H a c) : lowC μ.c.length c = true := by
  cases c with
  | lst ds => obtain ⟨vs, q, k⟩ := h; exact k.lows
  | ins C fs => obtain ⟨dx, gs, q, k⟩ := h; exact k.vals.1.lows
  | dct kvs => obtain ⟨us, q, k⟩ := h; exact k.vals.1.lows
  | dcT ks xs => obtain ⟨us, q, e, k, j⟩ := h; exact Bool.and_eq_true_iff.mpr ⟨k.lows, j.lows⟩
  | exc C m =>
    cases m with
    | none => rfl
    | some m => obtain ⟨dx, q, _⟩ := h; exact decide_eq_true (List.getElem?_eq_some_iff.mp q).1
  | xdc fs => obtain ⟨gs, q, k⟩ := h; exact k.vals.1.lows
theorem RC.fewer {c0 ν h : List Addr} {a : Addr} {c : Cell} (q : RC K ⟨c0 ++ ν, h⟩ H a c) (z : lowC c0.length c = true) : RC K ⟨c0, h⟩ H a c := by
  cases c with
  | lst ds => obtain ⟨vs, e, k⟩ := q; exact ⟨vs, e, k.fewer z⟩
  | ins C fs => obtain ⟨dx, gs, e, k⟩ := q; exact ⟨dx, gs, e, RVs.rf (k.vals.1.fewer z) k.vals.2⟩
  | dct kvs => obtain ⟨us, e, k⟩ := q; exact ⟨us, e, RVs.rf (k.vals.1.fewer z) k.vals.2⟩
  | dcT ks xs => obtain ⟨us, e, e', k, j⟩ := q; exact ⟨us, e, e', k.fewer (Bool.and_eq_true_iff.mp z).1, j.fewer (Bool.and_eq_true_iff.mp z).2⟩
  | exc C m =>
    cases m with
    | none => exact q
    | some m =>
      obtain ⟨dx, e1, e2⟩ := q
      refine ⟨dx, ?_, e2⟩
      have hm : m < c0.length := of_decide_eq_true z
      replace e1 : (c0 ++ ν)[m]? = Option.some dx := e1
      rw [List.getElem?_append_left hm] at e1
      exact e1
  | xdc fs => obtain ⟨gs, e, k⟩ := q; exact ⟨gs, e, RVs.rf (k.vals.1.fewer z) k.vals.2⟩
/-- cells at the end are forgotten -/
theorem RM.fewer {c0 ν h : List Addr} {M G : Mem} (r : RM K ⟨c0 ++ ν, h⟩ H (M ++ G)) (hl : c0.length = M.length) (z : ∀ c ∈ M, lowC M.length c = true) : RM K ⟨c0, h⟩ H M :=
  ⟨hl, (List.nodup_append.mp r.nd).1, fun a ha => ⟨(r.hid a ha).1, fun y => (r.hid a ha).2 (List.mem_append_left _ y)⟩, fun n a c e1 e2 => by
    have rc := r.cell n a c (by
      show (c0 ++ ν)[n]? = some a
      rw [List.getElem?_append_left (List.getElem?_eq_some_iff.mp e1).1]
      exact e1) (by rw [List.getElem?_append_left (List.getElem?_eq_some_iff.mp e2).1]; exact e2)
    exact rc.fewer (by rw [hl]; exact z c (List.mem_of_getElem? e2))⟩
theorem RM.lows (r : RM K μ H M) : ∀ c ∈ M, lowC M.length c = true := fun c hc => by
  obtain ⟨n, hn⟩ := List.getElem?_of_mem hc
  obtain ⟨a, _, rc⟩ := r.at_ hn
  rw [← r.len]
  exact rc.low
end
/-- an __init__ that puts fields into the new object and nothing else -/
def InitV (C : Str) (g : FC) (gi : List D → Option (List (Str × D))) : Prop := ∀ ds M fs, gi ds = some fs → g (.loc M.length :: ds) (M ++ [.ins C []]) = some (.ok .non (M ++ [.ins C fs])) ∧ ∀ N, lows N ds = true → lows N (fs.map (·.2)) = true
section
variable {X : Cx} {E : XK} {e o : Expr} {es : List Expr} {ve vo : Ev} {vs : EvA} {pos apos p : Pos} {m x C : Str} {fa : Addr} {k : Nat} {fd : FuncData} {ps : List Str} {g : FC} {gi : List D → Option (List (Str × D))}
/-- C(..), an object that is not changed afterwards -/
@[simp] def vMakeV (C : Str) (gi : List D → Option (List (Str × D))) (n : Nat) (vs : EvA) : Ev := fun ρ M => bnd (vs ρ M) fun ds M1 => if ds.length + 1 = n then (gi ds).map fun fs => .ok (.obj C (fs.map (·.1)) (fs.map (·.2))) M1 else none
/-- C(..), an object with a cell -/
def vMakeC (C : Str) (g : FC) (n : Nat) (vs : EvA) : Ev := fun ρ M => bnd (vs ρ M) fun ds M1 => if ds.length + 1 = n then
    match g (.loc M1.length :: ds) (M1 ++ [.ins C []]) with
    | some (.ok .non M2) => some (.ok (.loc M1.length) M2)
    | some (.err z M2) => some (.err z M2)
    | _ => none
  else none
theorem make_world {K : Fw} {μ : Wd} {H : Hp} {M : Mem} {C : Str} {x dx : Addr} (hm : RM K μ H M) (h1 : H x = none) (h2 : H dx = none) (h3 : dx ≠ x) :
    RM K (μ.push x) (upd (upd H dx (.own x)) x (.ins (cad K C) dx [])) (M ++ [.ins C []]) ∧ Le μ H (μ.push x) (upd (upd H dx (.own x)) x (.ins (cad K C) dx [])) := by
  have hx : (upd H dx (.own x)) x = none := by rw [upd_ne h3.symm]; exact h1
  exact ⟨(hm.new h2).newc hx ⟨dx, [], upd_same, .nil⟩, (Le.new h2).trans (Le.newc hx)⟩
theorem make_v {K : Fw} {μ : Wd} {H : Hp} {M : Mem} {xs : List V} {ds : List D} {fs : List (Str × D)} {Q : VK} (hi : InitV C g gi) (hl : ds.length + 1 = ps.length) (hm : RM K μ H M) (rx : RVs K μ H xs ds) (hg : gi ds = some fs) (q : OutE K E μ H (.ok (.obj C (fs.map (·.1)) (fs.map (·.2))) M) Q) {x dx : Addr} (h1 : H x = none) (h2 : H dx = none) (h3 : dx ≠ x) :
    spM K ps.length g (.ref x :: xs) (upd (upd H dx (.own x)) x (.ins (cad K C) dx [])) (fun v H2 => v = .non ∧ Q (.ref x) H2) E := by
  obtain ⟨hm2, l2⟩ := make_world (C := C) hm h1 h2 h3
  obtain ⟨e, lo⟩ := hi ds M fs hg
  refine ⟨by rw [List.length_cons, rx.length]; exact hl, μ.push x, _, .loc M.length :: ds, _, .cons (.loc (by rw [← hm.len]; show (μ.c ++ [x])[μ.c.length]? = some x; simp)) (rx.le hm l2), hm2, e, fun μ3 v H3 l3 hm3 rv => ?_⟩
  cases rv
  refine ⟨rfl, ?_⟩
  obtain ⟨ν, ec, f⟩ := l3.ex
  obtain ⟨c3, h3'⟩ := μ3
  obtain rfl : h3' = μ.h := l3.hid
  have ec' : c3 = μ.c ++ ([x] ++ ν) := by rw [← List.append_assoc]; exact ec
  subst ec'
  have hm4 : RM K ⟨μ.c, μ.h⟩ H3 M := RM.fewer hm3 hm.len hm.lows
  have ll := l2.trans l3
  refine q ⟨μ.c, μ.h⟩ _ H3 ⟨⟨[], by simp, by simp⟩, rfl, ll.dom, ll.fr⟩ hm4 ?_
  have hc := hm3.cell M.length x (.ins C fs) (by show (μ.c ++ ([x] ++ ν))[M.length]? = some x; rw [← hm.len]; simp) (by simp)
  obtain ⟨dx', gs, hh, rf⟩ := hc
  have rv := rf.vals
  have nd := hm3.nd
  refine .obj (vs := gs.map (·.2)) (dx := dx') ?_ ⟨fun hm' => ?_, fun hh' => ?_⟩ (by rw [List.length_map, List.length_map]) (rv.1.fewer (lo _ rx.lows))
  · rw [← rv.2, zip_unzip]; exact hh
  · obtain ⟨_, _, dj⟩ := List.nodup_append.mp (show (μ.c ++ ([x] ++ ν)).Nodup from nd)
    exact dj x hm' x (by simp) rfl
  · obtain ⟨⟨us, e'⟩, _⟩ := hm.hid x hh'
    rw [h1] at e'; cases e'
theorem mv_makeV (hi : InitV C g gi) (Mk : L2.Mk X.K (cad X.K C) fa) (F : OkM X.prog X.w X.K X.mg X.base k fa fd ps g) (hr : Room (k + 1) X.A) (hg : Gl X x) (hm : X.mg x = some (.ref (cad X.K C))) (hb : Binds X.K fd ps []) (hx : Passes (L2.CX X.prog X.w) X E) (ha : MA X E (e :: es) vs)
    (hdb : (x == ("__debug__" : Str)) = false := by decide) (he : starEach (e :: es) X.env = (false, eval e X.env) :: starEach es X.env := by rfl) (hpl : (backTo pos (starEach es X.env)).any (·.1) = false := by rfl) :
    MV X E (.Call (.Name x p) (e :: es) [] pos) (vMakeV C gi ps.length vs) := PE.imp (pe_make Mk F hr hg hm hb .nil hx ha hdb he hpl) fun σ H Q ⟨μ, ρ, M, r, hs, hm, e, q⟩ => tr_bnd hs hm e q fun μ1 xs H1 ds M1 l hs1 hm1 rx e1 q1 => by
      split at e1
      · rename_i hl
        cases h : gi ds with
        | none => rw [h] at e1; cases e1
        | some fs =>
          rw [h] at e1; cases e1
          intro x dx h1 h2 h3
          rw [List.append_nil]
          exact make_v hi hl hm1 rx h q1 h1 h2 h3
      · cases e1
/-- .. the class held by a name -/
@[simp] def vMakeL (i : Nat) (C : Str) (gi : List D → Option (List (Str × D))) (n : Nat) (vs : EvA) : Ev := fun ρ M => match ρ[i]? with
  | some (some (.glb C')) => if C' = C then vMakeV C gi n vs ρ M else none
  | _ => none
theorem mv_makeL {i : Nat} (hi : InitV C g gi) (Mk : L2.Mk X.K (cad X.K C) fa) (F : OkM X.prog X.w X.K X.mg X.base k fa fd ps g) (hr : Room (k + 1) X.A) (hN : X.N[i]? = some x) (hv : Vis X.env.scope x) (hb : Binds X.K fd ps []) (hx : Passes (L2.CX X.prog X.w) X E) (ha : MA X E (e :: es) vs)
    (hdb : (x == ("__debug__" : Str)) = false := by decide) (hcd : (x == ("__classdict__" : Str)) = false := by decide) (he : starEach (e :: es) X.env = (false, eval e X.env) :: starEach es X.env := by rfl) (hpl : (backTo pos (starEach es X.env)).any (·.1) = false := by rfl) :
    MV X E (.Call (.Name x p) (e :: es) [] pos) (vMakeL i C gi ps.length vs) := PE.imp (Fh.pe_makeL Mk F hr hN hv hb hx ha hdb hcd he hpl) fun σ H Q ⟨μ, ρ, M, r, hs, hm, e, q⟩ => by
      unfold vMakeL at e
      split at e
      · rename_i C' hρ
        split at e
        · rename_i hC
          subst hC
          obtain ⟨v, e1, e2⟩ := hs.get i _ hρ
          cases e2
          refine ⟨e1, tr_bnd hs hm e q fun μ1 xs H1 ds M1 l hs1 hm1 rx e1 q1 => ?_⟩
          split at e1
          · rename_i hl
            cases h : gi ds with
            | none => rw [h] at e1; cases e1
            | some fs =>
              rw [h] at e1; cases e1
              intro x dx h1 h2 h3
              exact make_v hi hl hm1 rx h q1 h1 h2 h3
          · cases e1
        · cases e
      · cases e
/-! ### classmethods -/
@[simp] def vCMeth (C : Str) (g : FC) (n : Nat) (vs : EvA) : Ev := fun ρ M => bnd (vs ρ M) fun ds M1 => if ds.length + 1 = n then g (.glb C :: ds) M1 else none
theorem tr_cm {ta : TE} (hta : ∀ σ H Q, Q (.ref (cad X.K C)) H → ta σ H Q) {σ : L2.St} {H : Hp} {Q : VK} (h : trE X.kx E (vCMeth C g ps.length vs) σ H Q) : ClX.tCMeth (cad X.K C) (fun vs H Q E => spM X.kx ps.length g (vs ++ []) H Q E) E ta (trA X.kx E vs) σ H Q := by
  obtain ⟨μ, ρ, M, r, hs, hm, e, q⟩ := h
  refine hta σ H _ ⟨rfl, tr_bnd hs hm e q fun μ1 xs H1 ds M1 l hs1 hm1 rx e1 q1 => ?_⟩
  split at e1
  · rename_i hl
    refine ⟨by rw [List.append_nil, List.length_cons, rx.length]; exact hl, μ1, M1, .glb C :: ds, _, ?_, hm1, e1, q1⟩
    rw [List.append_nil]
    exact .cons (.glb C) rx
  · cases e1
theorem mv_cmeth {mc : Value} {pa : Addr} {pl : Sem Bool} {px : Pos} (hg : Gl X x) (hmC : X.mg x = some (.ref (cad X.K C))) (r : ClX.CRead X.K (cad X.K C) mc) (c : ClX.CMet X.K (cad X.K C) mc m pa fa) (F : OkM X.prog X.w X.K X.mg X.base k fa fd ps g) (hb : Binds X.K fd ps []) (hr : Room k X.A) (hx : Passes (L2.CX X.prog X.w) X E) (ha : MA X E (e :: es) vs)
    (hdb : (x == ("__debug__" : Str)) = false := by decide) (hst : starEach (e :: es) X.env = (false, eval e X.env) :: starEach es X.env := by rfl) (hpl : (backTo pos (starEach es X.env)).any (·.1) = false := by rfl)
    (ht : eval (.Call (.Attribute (.Name x px) m apos) (e :: es) [] pos) X.env = (do
      let ov ← eval (.Name x px) X.env
      standAt apos.atName
      let (f, first) ← holding [ov] (getMethod ov m pl)
      callWith pos f first (backTo pos (starEach (e :: es) X.env)) (backToKw pos (keywordEach [] X.env))) := by rfl) :
    MV X E (.Call (.Attribute (.Name x px) m apos) (e :: es) [] pos) (vCMeth C g ps.length vs) := PE.imp (ClX.pe_cmeth (pl := pl) (pe_glob (v := .ref (cad X.K C)) hg hmC rfl hdb) r c (F.raw hb .nil) hr hx ha hst hpl ht) fun σ H Q h => tr_cm (fun _ _ _ z => z) h
theorem mv_cmeth0 {mc : Value} {pa : Addr} {pl : Sem Bool} {px : Pos} (hg : Gl X x) (hmC : X.mg x = some (.ref (cad X.K C))) (r : ClX.CRead X.K (cad X.K C) mc) (c : ClX.CMet X.K (cad X.K C) mc m pa fa) (F : OkM X.prog X.w X.K X.mg X.base k fa fd ps g) (hb : Binds X.K fd ps []) (hr : Room k X.A) (hx : Passes (L2.CX X.prog X.w) X E)
    (hdb : (x == ("__debug__" : Str)) = false := by decide)
    (ht : eval (.Call (.Attribute (.Name x px) m apos) [] [] pos) X.env = (do
      let ov ← eval (.Name x px) X.env
      standAt apos.atName
      let (f, first) ← holding [ov] (getMethod ov m pl)
      callWith pos f first (backTo pos (starEach [] X.env)) (backToKw pos (keywordEach [] X.env))) := by rfl) :
    MV X E (.Call (.Attribute (.Name x px) m apos) [] [] pos) (vCMeth C g ps.length vNil) := PE.imp (Fh.pe_cmeth0 (pl := pl) (pe_glob (v := .ref (cad X.K C)) hg hmC rfl hdb) r c (F.raw hb .nil) hr hx ht) fun σ H Q h => by
      obtain ⟨h1, h2⟩ := tr_cm (ta := tC (.ref (cad X.K C))) (fun _ _ _ z => z) h
      exact ⟨h1, tr_nil h2⟩
/-! ### operators by methods -/
/-- a | b, both of the class at C -/
@[simp] def fOwn (C : Str) (g : FC) : F2 := fun a b M => match insM M a, insM M b with
  | some (C1, _), some (C2, _) => if C1 = C ∧ C2 = C then g [a, b] M else none
  | _, _ => none
theorem sim_own (hl : ps.length = 2) : Sim2 X.kx E (Fh.rBin (cad X.K C) (spM X.kx ps.length g) E) (fOwn C g) := fun μ H M x y a b res Q hm rx ry e q => by
  unfold fOwn at e
  split at e
  · rename_i C1 fs1 C2 fs2 h1 h2
    split at e
    · rename_i hC
      obtain ⟨rfl, rfl⟩ := hC
      obtain ⟨p1, dx1, gs1, rfl, e1, _⟩ := rx.insM hm h1
      obtain ⟨p2, dx2, gs2, rfl, e2, _⟩ := ry.insM hm h2
      exact ⟨p1, p2, dx1, gs1, dx2, gs2, rfl, rfl, e1, e2, by rw [hl]; rfl, μ, M, [a, b], res, .cons rx (.cons ry .nil), hm, e, q⟩
    · cases e
  · cases e
/-- a text, then an object of the class at C: the object's method -/
@[simp] def fRef (C : Str) (g : FC) : F2 := fun a b M => match a, insM M b with
  | .str z, some (C1, _) => if C1 = C then g [b, .str z] M else none
  | _, _ => none
theorem sim_ref (hl : ps.length = 2) : Sim2 X.kx E (Fh.rRef (cad X.K C) (spM X.kx ps.length g) E) (fRef C g) := fun μ H M x y a b res Q hm rx ry e q => by
  unfold fRef at e
  split at e
  · rename_i z C1 fs1 h1
    split at e
    · rename_i hC
      subst hC
      cases rx with | str _ hz =>
      obtain ⟨p1, dx1, gs1, rfl, e1, _⟩ := ry.insM hm h1
      exact ⟨_, p1, dx1, gs1, rfl, rfl, e1, by rw [hl]; rfl, μ, M, [b, .str z], res, .cons ry (.cons (.str _ hz) .nil), hm, e, q⟩
    · cases e
  · cases e
/-- a truth value out of a method, then a rest -/
@[simp] def bndB (r : Option (Res D)) (k : Bool → Bool) : Option (Res D) := match r with
  | some (.ok (.bl c) M) => some (.ok (.bl (k c)) M)
  | some (.err x M) => some (.err x M)
  | _ => none
theorem out_bl {K : Fw} {μ : Wd} {H : Hp} {r0 : Option (Res D)} {res : Res D} {k : Bool → Bool} {Q : VK} (e : bndB r0 k = some res) (q : OutE K E μ H res Q) : ∃ r, r0 = some r ∧ OutE K E μ H r (fun r H' => ∃ c, r = .bl c ∧ Q (.bl (k c)) H') := by
  unfold bndB at e
  split at e
  · cases e
    exact ⟨_, rfl, fun μ' x H' l hm rx => by cases rx; exact ⟨_, rfl, q μ' _ H' l hm (.bl _)⟩⟩
  · cases e
    exact ⟨_, rfl, q⟩
  · cases e
/-- x in o, o of the class at C -/
@[simp] def fHas (C : Str) (g : FC) (k : Bool → Bool) : F2 := fun a b M => match insM M b with
  | some (C1, _) => if C1 = C then bndB (g [b, a] M) k else none
  | none => none
theorem sim_has {kk : Bool → Bool} (hl : ps.length = 2) : Sim2 X.kx E (Fh.rHas (cad X.K C) (spM X.kx ps.length g) E kk) (fHas C g kk) := fun μ H M x y a b res Q hm rx ry e q => by
  unfold fHas at e
  split at e
  · rename_i C1 fs1 h1
    split at e
    · rename_i hC
      subst hC
      obtain ⟨p1, dx1, gs1, rfl, e1, _⟩ := ry.insM hm h1
      obtain ⟨r, e2, q2⟩ := out_bl e q
      exact ⟨p1, dx1, gs1, rfl, e1, by rw [hl]; rfl, μ, M, [b, a], r, .cons ry (.cons rx .nil), hm, e2, q2⟩
    · cases e
  · cases e
/-- o == p, both of the class at C -/
@[simp] def fEqO (C : Str) (g : FC) (k : Bool → Bool) : F2 := fun a b M => match insM M a, insM M b with
  | some (C1, _), some (C2, _) => if C1 = C ∧ C2 = C then bndB (g [a, b] M) k else none
  | _, _ => none
theorem sim_eqO {kk : Bool → Bool} (hl : ps.length = 2) : Sim2 X.kx E (Fh.rOwn (cad X.K C) (spM X.kx ps.length g) E kk) (fEqO C g kk) := fun μ H M x y a b res Q hm rx ry e q => by
  unfold fEqO at e
  split at e
  · rename_i C1 fs1 C2 fs2 h1 h2
    split at e
    · rename_i hC
      obtain ⟨rfl, rfl⟩ := hC
      obtain ⟨p1, dx1, gs1, rfl, e1, _⟩ := rx.insM hm h1
      obtain ⟨p2, dx2, gs2, rfl, e2, _⟩ := ry.insM hm h2
      obtain ⟨r, e3, q2⟩ := out_bl e q
      exact ⟨p1, p2, dx1, gs1, dx2, gs2, rfl, rfl, e1, e2, by rw [hl]; rfl, μ, M, [a, b], r, .cons rx (.cons ry .nil), hm, e3, q2⟩
    · cases e
  · cases e
/-- bool(o), o of the class at C; bool(t), t a tuple -/
@[simp] def cBool (C : Str) (g : FC) : FC
  | [.tup xs], M => some (.ok (.bl (!xs.isEmpty)) M)
  | [d], M => match insM M d with
    | some (C1, _) => if C1 = C then bndB (g [d] M) id else none
    | none => none
  | _, _ => none
def rCOr (r s : List V → Hp → VK → Prop) : List V → Hp → VK → Prop := fun xs H Q => r xs H Q ∨ s xs H Q
theorem callr_or {f : Value} {r s : List V → Hp → VK → Prop} (h : CallR X f r) (k : CallR X f s) : CallR X f (rCOr r s) := fun pins st σ H xs us Q I rx q => q.elim (h pins st σ H xs us Q I rx) (k pins st σ H xs us Q I rx)
theorem sim_bool (hl : ps.length = 1) : SimC X.kx E (rCOr (fun xs H Q => ∃ (a : Addr) (zs : List V), xs = [.ref a] ∧ SqT X.K H a zs ∧ Q (.bl (!zs.isEmpty)) H) (Fh.rBoolO (cad X.K C) (spM X.kx ps.length g) E)) (cBool C g) := fun μ H M xs as res Q hm rx e q => by
  unfold cBool at e
  split at e
  · cases e
    obtain ⟨x, rfl, r⟩ := rx.one
    cases r with | tup s k =>
    exact .inl ⟨_, _, rfl, s, by rw [k.empty]; exact q μ _ H Le.refl hm (.bl _)⟩
  · rename_i d _
    obtain ⟨x, rfl, r⟩ := rx.one
    split at e
    · rename_i C1 fs1 h1
      split at e
      · rename_i hC
        subst hC
        obtain ⟨p1, dx1, gs1, rfl, e1, _⟩ := r.insM hm h1
        obtain ⟨r2, e2, q2⟩ := out_bl e q
        exact .inr ⟨p1, dx1, gs1, rfl, e1, by rw [hl]; rfl, μ, M, _, r2, .cons r .nil, hm, e2, q2⟩
      · cases e
    · cases e
  · cases e
theorem opr_bool (hm : Meth X.K (cad X.K C) "__bool__" fa) (F : OkM X.prog X.w X.K X.mg X.base k fa fd ps g) (hr : Room (k + 2) X.A) (hb : Binds X.K fd ps []) (hx : Passes (L2.CX X.prog X.w) X E) :
    CallR X (.type "bool") (rCOr (fun xs H Q => ∃ (a : Addr) (zs : List V), xs = [.ref a] ∧ SqT X.K H a zs ∧ Q (.bl (!zs.isEmpty)) H) (Fh.rBoolO (cad X.K C) (spM X.kx ps.length g) E)) := callr_or Fh.call_boolT (Fh.call_boolO hm F hr hb hx)
/-- the truth of an object of the class at C -/
@[simp] def vTruO (C : Str) (g : FC) (v : Ev) : EvT := fun ρ M => bnd (v ρ M) fun d M1 => match insM M1 d with
  | some (C1, _) => if C1 = C then
      match g [d] M1 with
      | some (.ok (.bl c) M2) => some (.ok c M2)
      | some (.err x M2) => some (.err x M2)
      | _ => none
    else none
  | none => none
theorem mt_truO (hm : Meth X.K (cad X.K C) "__bool__" fa) (F : OkM X.prog X.w X.K X.mg X.base k fa fd ps g) (hl : ps.length = 1) (hr : Room k X.A) (hb : Binds X.K fd ps []) (hx : Passes (L2.CX X.prog X.w) X E) (he : MV X E e ve)
    (hi : ∀ whole, isTrue e X.env whole = (do let v ← whole; standAt e.pos; holding [v] (truthy v)) := by intro _; rfl) : MT X E e (vTruO C g ve) :=
  PT.imp (pt_truthR he (Fh.tru_own hm F hr hb hx) hi) fun σ H Q ⟨μ, ρ, M, r, hs, hm, e, q⟩ => tr_bnd hs hm e q fun μ1 x H1 d M1 l hs1 hm1 rx e1 q1 => by
    split at e1
    · rename_i C1 fs1 h1
      split at e1
      · rename_i hC
        subst hC
        obtain ⟨p1, dx1, gs1, rfl, e2, _⟩ := rx.insM hm1 h1
        split at e1
        · rename_i c M2 hg
          cases e1
          refine ⟨p1, dx1, gs1, rfl, e2, by rw [hl]; rfl, μ1, M1, [d], _, .cons rx .nil, hm1, hg, fun μ' x' H' l' hm' rx' => ?_⟩
          cases rx'
          exact ⟨c, rfl, q1 μ' c H' l' hm' rfl⟩
        · rename_i x M2 hg
          cases e1
          exact ⟨p1, dx1, gs1, rfl, e2, by rw [hl]; rfl, μ1, M1, [d], _, .cons rx .nil, hm1, hg, q1⟩
        · cases e1
      · cases e1
    · cases e1
end
end Mi
set_option autoImplicit false
/-! Methods of built-ins, isinstance, enumerate, sets of texts. -/
namespace Mi
open PySem PySem.Spec L2
abbrev FM2 := D → List D → Mem → Option (Res D)
def SimM (K : Fw) (E : XK) (r : V → List V → Hp → VK → Prop) (f : FM2) : Prop := ∀ (μ : Wd) (H : Hp) (M : Mem) (x : V) (xs : List V) (a : D) (as : List D) (res : Res D) (Q : VK), RM K μ H M → RV K μ H x a → RVs K μ H xs as → f a as M = some res → OutE K E μ H res Q → r x xs H Q
/-- the type, where methods are looked up -/
@[simp] def tyM (M : Mem) (T : String) : D → Bool
  | .str _ => T == "str"
  | .int _ => T == "int"
  | .lst _ => T == "list"
  | .fro _ => T == "list"
  | .dic _ _ => T == "dict"
  | .loc n => match M[n]? with
    | some (.lst _) => T == "list"
    | some (.dct _) => T == "dict"
    | _ => false
  | _ => false
theorem RV.tyM {K : Fw} {μ : Wd} {H : Hp} {M : Mem} (hm : RM K μ H M) {T : String} {v : V} {d : D} (h : RV K μ H v d) (e : Mi.tyM M T d = true) : tyV K T v H := by
  cases h with
  | @loc n a hn =>
    simp only [Mi.tyM] at e
    split at e
    · rename_i xs hx
      obtain ⟨vs, h1, h2⟩ := hm.cell n a _ hn hx
      exact .inl ⟨beq_iff_eq.mp e, vs, SqL.of h1⟩
    · rename_i xs hx
      obtain ⟨vs, h1, h2⟩ := hm.cell n a _ hn hx
      exact .inr (.inr (.inl ⟨beq_iff_eq.mp e, .inl ⟨vs, h1⟩⟩))
    · cases e
  | lst h n k => exact .inl ⟨beq_iff_eq.mp e, _, SqL.of h⟩
  | fro h k => exact .inl ⟨beq_iff_eq.mp e, _, h.sq⟩
  | dic h n l k => exact .inr (.inr (.inl ⟨beq_iff_eq.mp e, .inl ⟨_, h⟩⟩))
  | dcT h n l k j => cases e
  | str x h => exact beq_iff_eq.mp e
  | int i => exact beq_iff_eq.mp e
  | obj h n l k => cases e
  | tup h k => cases e
  | non => cases e
  | bl b => cases e
  | glb a => cases e
  | ty n => cases e
  | xob h1 h2 h3 h4 h5 => cases e
@[simp] def vBM (T : String) (f : FM2) (vo : Ev) (vs : EvA) : Ev := fun ρ M => bnd (vo ρ M) fun o M1 => if tyM M1 T o = true then bnd (vs ρ M1) fun ds M2 => f o ds M2 else none
section
variable {X : Cx} {E : XK} {e o : Expr} {es : List Expr} {ve vo : Ev} {vs : EvA} {pos apos cpos p : Pos} {name x : Str} {T id : String} {r : V → List V → Hp → VK → Prop} {f : FM2}
theorem tr_bm (k : SimM X.kx E r f) {σ : L2.St} {H : Hp} {Q : VK} (h : trE X.kx E (vBM T f vo vs) σ H Q) : tBM X.K T r (trE X.kx E vo) (trA X.kx E vs) σ H Q := by
  obtain ⟨μ, ρ, M, res, hs, hm, e, q⟩ := h
  refine tr_bnd hs hm e q fun μ1 x H1 o M1 l hs1 hm1 rx e1 q1 => ?_
  split at e1
  · rename_i ht
    exact ⟨rx.tyM hm1 ht, tr_bnd hs1 hm1 e1 q1 fun μ2 xs H2 as M2 l2 hs2 hm2 rxs e2 q2 => k μ2 H2 M2 x xs o as _ Q hm2 (rx.le hm1 l2) rxs e2 q2⟩
  · cases e1
theorem mv_bm (pa : PlainAttrs T) (slot : Slot T name id) (hty : typeOf (.builtin id) = pure (.type "method_descriptor")) (hm : MtR X id r) (k : SimM X.kx E r f) (ho : MV X E o vo) (ha : MA X E (e :: es) vs)
    (hbase : attributeBase o name X.env (eval o X.env) = eval o X.env := by rfl)
    (hfew : ((backTo cpos (starEach (e :: es) X.env)).all (fun x => !x.1) && (backToKw cpos (keywordEach [] X.env)).all (fun x => x.1.isSome)
      && decide ((e :: es).length + ([] : List Keyword).length + (if ([] : List Keyword).isEmpty then 0 else 1) < 30)) = true := by rfl)
    (hline : (apos.endLine == cpos.line) = true := by rfl) (hs : starEach (e :: es) X.env = (false, eval e X.env) :: starEach es X.env := by rfl) (hplain : (backTo cpos (starEach es X.env)).any (·.1) = false := by rfl) :
    MV X E (.Call (.Attribute o name apos) (e :: es) [] cpos) (vBM T f vo vs) := PE.imp (pe_bm pa slot hty hm ho ha hbase hfew hline hs hplain) fun _ _ _ h => tr_bm k h
theorem mv_bm0 (pa : PlainAttrs T) (slot : Slot T name id) (hty : typeOf (.builtin id) = pure (.type "method_descriptor")) (hm : MtR X id r) (k : SimM X.kx E r f) (ho : MV X E o vo)
    (hbase : attributeBase o name X.env (eval o X.env) = eval o X.env := by rfl) (hline : (apos.endLine == cpos.line) = true := by rfl) :
    MV X E (.Call (.Attribute o name apos) [] [] cpos) (vBM T f vo vNil) := PE.imp (pe_bm0 pa slot hty hm ho hbase hline) fun σ H Q h => by
      exact tr_mono (tr_bm k h) fun x H1 ⟨h1, h2⟩ => ⟨h1, tr_nil h2⟩
end
section
variable {K : Fw} {E : XK}
/-- l.append(x) -/
@[simp] def mAppend : FM2
  | .loc n, [d], M => match M[n]? with
    | some (.lst xs) => if xs.length < sizeLine then some (.ok .non (M.set n (.lst (xs ++ [d])))) else none
    | _ => none
  | _, _, _ => none
theorem sim_append : SimM K E rAppend mAppend := fun μ H M x xs a as res Q hm rx rxs e q => by
  unfold mAppend at e
  split at e
  · rename_i n d
    split at e
    · rename_i ys hn
      split at e
      · rename_i hl
        cases e
        obtain ⟨y, rfl, ry⟩ := rxs.one
        cases rx with
        | @loc _ a ha =>
          obtain ⟨vs, h1, h2⟩ := hm.cell n a _ ha hn
          have l : Le μ H μ (upd H a (.lst (vs ++ [y]))) := Le.put (List.mem_of_getElem? ha)
          exact ⟨a, vs, y, rfl, rfl, h1, by rw [h2.length]; exact hl, q μ _ _ l (hm.put ha ⟨_, upd_same, (h2.le hm l).append (.cons (ry.le hm l) .nil)⟩) .non⟩
      · cases e
    · cases e
  · cases e
/-- texts out of a method -/
def okStrs (ys : List Str) : Bool := ys.all fun y => PyData.strOk y
theorem okStrs_mem {ys : List Str} (h : okStrs ys = true) : ∀ x ∈ ys, PyData.strOk x = true := fun x hx => List.all_eq_true.mp h x hx
@[simp] def mSplit : FM2
  | .str a, [.str b], M => if (b.length == 0) = false ∧ a.length + 2 ≤ sizeLine ∧ okStrs (Txt.split a b) = true then some (.ok (.lst ((Txt.split a b).map D.str)) M) else none
  | _, _, _ => none
theorem sim_split : SimM K E (fun x xs H Q => ∃ a b, x = .str a ∧ xs = [.str b] ∧ (b.length == 0) = false ∧ a.length + 2 ≤ sizeLine ∧ rNewStrs (Txt.split a b) H Q) mSplit := fun μ H M x xs a as res Q hm rx rxs e q => by
  unfold mSplit at e
  split at e
  · split at e
    · rename_i h
      cases e
      obtain ⟨y, rfl, ry⟩ := rxs.one
      cases rx; cases ry
      exact ⟨_, _, rfl, rfl, h.1, h.2.1, fun p hp => new_lst hm (rvs_strs (okStrs_mem h.2.2)) hp q⟩
    · cases e
  · cases e
@[simp] def mJoin : FM2
  | .str a, [d], M => match itemsM M d with
    | some (_, xs) => match dSt xs with
      | some ys => if (ys.map (·.length)).sum + ys.length * a.length ≤ 16777216 ∧ PyData.strOk (Txt.join a ys) = true then some (.ok (.str (Txt.join a ys)) M) else none
      | none => none
    | none => none
  | _, _, _ => none
theorem sim_join : SimM K E (fun x xs H Q => ∃ a p, ∃ ys : List Str, x = .str a ∧ xs = [.ref p] ∧ (SqL K H p (ys.map V.str) ∨ SqT K H p (ys.map V.str)) ∧
    (ys.map (·.length)).sum + ys.length * a.length ≤ 16777216 ∧ Q (.str (Txt.join a ys)) H) mJoin := fun μ H M x xs a as res Q hm rx rxs e q => by
  unfold mJoin at e
  split at e
  · obtain ⟨y, rfl, ry⟩ := rxs.one
    split at e
    · rename_i b zs hz
      split at e
      · rename_i ys hy
        split at e
        · rename_i h
          cases e
          cases rx
          obtain ⟨p, vs, rfl, rv, sq⟩ := ry.items hm hz
          rw [(rv.dSt hy).1] at sq
          refine ⟨_, p, ys, rfl, rfl, ?_, h.1, q μ _ H Le.refl hm (.str _ h.2)⟩
          cases b with
          | true => exact .inl sq
          | false => exact .inr sq
        · cases e
      · cases e
    · cases e
  · cases e
@[simp] def mUpper : FM2
  | .str a, [], M => if a.length ≤ 5592405 ∧ PyData.strOk (Txt.upper a) = true then some (.ok (.str (Txt.upper a)) M) else none
  | _, _, _ => none
theorem sim_upper : SimM K E (fun x xs H Q => ∃ a, x = .str a ∧ xs = [] ∧ a.length ≤ 5592405 ∧ Q (.str (Txt.upper a)) H) mUpper := fun μ H M x xs a as res Q hm rx rxs e q => by
  unfold mUpper at e
  split at e
  · split at e
    · rename_i h
      cases e
      cases rxs
      cases rx
      exact ⟨_, rfl, rfl, h.1, q μ _ H Le.refl hm (.str _ h.2)⟩
    · cases e
  · cases e
@[simp] def mEnds : FM2
  | .str a, [.str b], M => some (.ok (.bl (Txt.endswith a b)) M)
  | _, _, _ => none
theorem sim_ends : SimM K E (fun x xs H Q => ∃ a b, x = .str a ∧ xs = [.str b] ∧ Q (.bl (Txt.endswith a b)) H) mEnds := fun μ H M x xs a as res Q hm rx rxs e q => by
  unfold mEnds at e
  split at e
  · cases e
    obtain ⟨y, rfl, ry⟩ := rxs.one
    cases rx; cases ry
    exact ⟨_, _, rfl, rfl, q μ _ H Le.refl hm (.bl _)⟩
  · cases e
@[simp] def mPart : FM2
  | .str a, [.str b], M => if (b.length == 0) = false ∧ a.length ≤ sizeLine ∧ okStrs [(Txt.partition a b).1, (Txt.partition a b).2.1, (Txt.partition a b).2.2] = true then some (.ok (.tup [.str (Txt.partition a b).1, .str (Txt.partition a b).2.1, .str (Txt.partition a b).2.2]) M) else none
  | _, _, _ => none
theorem sim_part : SimM K E (fun x xs H Q => ∃ a b, x = .str a ∧ xs = [.str b] ∧ (b.length == 0) = false ∧ a.length ≤ sizeLine ∧
    ∀ p, H p = none → Q (.ref p) (upd H p (.tup [.str (Txt.partition a b).1, .str (Txt.partition a b).2.1, .str (Txt.partition a b).2.2]))) mPart := fun μ H M x xs a as res Q hm rx rxs e q => by
  unfold mPart at e
  split at e
  · split at e
    · rename_i h
      cases e
      obtain ⟨y, rfl, ry⟩ := rxs.one
      cases rx; cases ry
      exact ⟨_, _, rfl, rfl, h.1, h.2.1, fun p hp => new_tup hm (rvs_strs (ss := [_, _, _]) (okStrs_mem h.2.2)) hp q⟩
    · cases e
  · cases e
@[simp] def mLstrip : FM2
  | .str a, [.str b], M => if a.length ≤ sizeLine ∧ PyData.strOk (Txt.lstripChars a b) = true then some (.ok (.str (Txt.lstripChars a b)) M) else none
  | _, _, _ => none
theorem sim_lstrip : SimM K E (fun x xs H Q => ∃ a b, x = .str a ∧ xs = [.str b] ∧ a.length ≤ sizeLine ∧ Q (.str (Txt.lstripChars a b)) H) mLstrip := fun μ H M x xs a as res Q hm rx rxs e q => by
  unfold mLstrip at e
  split at e
  · split at e
    · rename_i h
      cases e
      obtain ⟨y, rfl, ry⟩ := rxs.one
      cases rx; cases ry
      exact ⟨_, _, rfl, rfl, h.1, q μ _ H Le.refl hm (.str _ h.2)⟩
    · cases e
  · cases e
/-! ### isinstance -/
@[simp] def tyD (M : Mem) : D → Option Ty
  | .non => some (.b "NoneType")
  | .bl _ => some (.b "bool")
  | .int _ => some (.b "int")
  | .str _ => some (.b "str")
  | .tup _ => some (.b "tuple")
  | .lst _ => some (.b "list")
  | .loc n => match M[n]? with
    | some (.lst _) => some (.b "list")
    | some (.ins C _) => some (.c C)
    | _ => none
  | .obj C _ _ => some (.c C)
  | _ => none
/-- what is asked of a class for isinstance of its instances -/
structure IsT (K : PySem.W.Frag) (C : Addr) : Prop where
  cl : Cls K C
  a : PySem.W.findIn K (.ref C) "__class__" = some (some (.builtin "object.__class__"))
  g : PySem.W.specialIn K (.builtin "object.__class__") "__get__" = some (some (.builtin "getset_descriptor.__get__"))
  k : PySem.W.takesIn K (.builtin "object.__class__") = some true
  o : PySem.W.mroIn K C (.type "object") = some true
@[simp] def isiM (cs : List Str) (kit : Ty → Option Bool) (M : Mem) (d : D) : Option Bool := match tyD M d with
  | some t => match t with
    | .c C => if C ∈ cs then kit t else none
    | _ => kit t
  | none => none
theorem sqt_ty {H : Hp} {a : Addr} {vs : List V} (h : SqT K H a vs) : TyX K H (.ref a) (.type "tuple") := by
  rcases h with (h | ⟨o, h⟩) | ⟨o, its, n, h1, h2, _⟩
  · exact .base (.tup h)
  · exact .fTuple h
  · exact .kTuple h1 h2
theorem isi_ty {cs : List Str} {kit : Ty → Option Bool} {μ : Wd} {H : Hp} {M : Mem} (hcs : ∀ C ∈ cs, IsT K (cad K C)) (hm : RM K μ H M) {x : V} {d : D} {b : Bool} (r1 : RV K μ H x d) (e : isiM cs kit M d = some b) : ∃ t : Ty, TyX K H x (t.val K) ∧ kit t = some b := by
  unfold isiM at e
  cases ht : tyD M d with
  | none => rw [ht] at e; cases e
  | some t =>
    rw [ht] at e
    have own : ∀ C, t = .c C → C ∈ cs ∧ kit t = some b := fun C hC => by
      subst hC
      simp only at e
      split at e
      · rename_i h; exact ⟨h, e⟩
      · cases e
    have oth : (∀ C, t ≠ .c C) → kit t = some b := fun hC => by
      cases t <;> first | exact e | exact absurd rfl (hC _)
    cases r1 with
    | obj h n l k =>
      cases ht
      obtain ⟨hC, h2⟩ := own _ rfl
      have T := hcs _ hC
      exact ⟨.c _, .base (.ins h T.cl T.a T.g T.k T.o), h2⟩
    | @loc n a hn =>
      simp only [tyD] at ht
      split at ht
      · rename_i ys hx
        cases ht
        obtain ⟨vs, h1, _⟩ := hm.cell n a _ hn hx
        exact ⟨.b "list", .base (.lst h1), oth fun C z => by cases z⟩
      · rename_i C' fs hx
        cases ht
        obtain ⟨hC, h2⟩ := own _ rfl
        have T := hcs _ hC
        obtain ⟨dx, gs, h1, _⟩ := hm.cell n a _ hn hx
        exact ⟨.c _, .base (.ins h1 T.cl T.a T.g T.k T.o), h2⟩
      · cases ht
    | non => cases ht; exact ⟨.b "NoneType", .base .non, oth fun C z => by cases z⟩
    | bl b => cases ht; exact ⟨.b "bool", .base (.bl b), oth fun C z => by cases z⟩
    | int i => cases ht; exact ⟨.b "int", .base (.int i), oth fun C z => by cases z⟩
    | str x h => cases ht; exact ⟨.b "str", .base (.str x), oth fun C z => by cases z⟩
    | tup h k => cases ht; exact ⟨.b "tuple", sqt_ty h, oth fun C z => by cases z⟩
    | lst h n k => cases ht; exact ⟨.b "list", .base (.lst h), oth fun C z => by cases z⟩
    | fro h k => cases ht
    | dic h n l k => cases ht
    | dcT h n l k j => cases ht
    | glb a => cases ht
    | ty n => cases ht
    | xob h1 h2 h3 h4 h5 => cases ht
end
section
variable {X : Cx} {E : XK} {e : Expr} {ve : Ev} {pos p pT : Pos} {x : Str}
@[simp] def vIsi (cs : List Str) (kit : Ty → Option Bool) (v : Ev) : Ev := fun ρ M => bnd (v ρ M) fun d M1 => (isiM cs kit M1 d).map fun b => .ok (.bl b) M1
theorem mv_isi {cs : List Str} {kit : Ty → Option Bool} {c : V} {u : Value} (hcs : ∀ C ∈ cs, IsT X.K (cad X.K C)) (hc : ClsV c u) (hk : ∀ (t : Ty) b, kit t = some b → PySem.W.kitOne X.K (t.val X.K) u = some b) (hT : PE X (.Name x pT) (tC c)) (hg : Gl X "isinstance") (hm : X.mg "isinstance" = none) (he : MV X E e ve)
    (hs1 : starEach [e, .Name x pT] X.env = (false, eval e X.env) :: starEach [.Name x pT] X.env := by rfl) (hs2 : starEach [.Name x pT] X.env = (false, eval (.Name x pT) X.env) :: starEach [] X.env := by rfl) (hpl : (backTo pos (starEach [.Name x pT] X.env)).any (·.1) = false := by rfl) :
    MV X E (.Call (.Name "isinstance" p) [e, .Name x pT] [] pos) (vIsi cs kit ve) :=
  PE.imp (pe_callB call_isi hg hm Fh.bt_isinstance (pa_cons he (pa_cons hT pa_nil hs2) hs1) (by decide) (by decide) hs1 hpl) fun σ H Q ⟨μ, ρ, M, r, hs, hm, e, q⟩ => tr_bnd hs hm e q fun μ1 y H1 d M1 l hs1 hm1 rx e1 q1 => by
    cases h : isiM cs kit M1 d with
    | none => rw [h] at e1; cases e1
    | some b =>
      rw [h] at e1; cases e1
      obtain ⟨t, h1, h2⟩ := isi_ty hcs hm1 rx h
      exact ⟨y, c, t.val X.K, u, b, rfl, hc, h1, hk t b h2, q1 μ1 _ H1 Le.refl hm1 (.bl b)⟩
/-- isinstance with a built-in type -/
@[simp] def kitT (n : String) (cs : List Str) : Ty → Option Bool
  | .b a => kitB a n
  | .c C => if C ∈ cs then some false else none
theorem kitT_ok {K : PySem.W.Frag} {n : String} {cs : List Str} (h : ∀ C ∈ cs, PySem.W.kitOne K (.ref (cad K C)) (.type n) = some false) : ∀ (t : Ty) b, kitT n cs t = some b → PySem.W.kitOne K (t.val K) (.type n) = some b := fun t b e => by
  cases t with
  | b a => exact kit_ty e
  | c C =>
    simp only [kitT] at e
    split at e
    · rename_i hC; cases e; exact h C hC
    · cases e
/-- isinstance with an own class: data are none of it -/
@[simp] def kitC (yes no : List Str) : Ty → Option Bool
  | .b a => if a ∈ ["NoneType", "bool", "int", "str", "tuple", "list"] then some false else none
  | .c C => if C ∈ yes then some true else if C ∈ no then some false else none
theorem kitC_ok {K : PySem.W.Frag} {C0 : Addr} {yes no : List Str} (hb : ∀ a ∈ (["NoneType", "bool", "int", "str", "tuple", "list"] : List String), PySem.W.kitOne K (.type a) (.ref C0) = some false) (hy : ∀ C ∈ yes, PySem.W.kitOne K (.ref (cad K C)) (.ref C0) = some true) (hn : ∀ C ∈ no, PySem.W.kitOne K (.ref (cad K C)) (.ref C0) = some false) :
    ∀ (t : Ty) b, kitC yes no t = some b → PySem.W.kitOne K (t.val K) (.ref C0) = some b := fun t b e => by
  cases t with
  | b a =>
    simp only [kitC] at e
    split at e
    · rename_i ha; cases e; exact hb a ha
    · cases e
  | c C =>
    simp only [kitC] at e
    split at e
    · rename_i hC; cases e; exact hy C hC
    · split at e
      · rename_i hC; cases e; exact hn C hC
      · cases e
/-! ### enumerate -/
@[simp] def enumD : Nat → List D → List D
  | _, [] => []
  | i, d :: r => .tup [.int (i : Int), d] :: enumD (i + 1) r
theorem enumD_get : ∀ {i j : Nat} {ds : List D}, (enumD i ds)[j]? = (ds[j]?).map fun d => .tup [.int ((i + j : Nat) : Int), d]
  | _, _, [] => by simp [enumD]
  | i, 0, d :: r => by simp [enumD]
  | i, j + 1, d :: r => by
    show (enumD (i + 1) r)[j]? = _
    rw [enumD_get, show i + 1 + j = i + (j + 1) by omega]
    rfl
theorem enumD_len : ∀ {i : Nat} {ds : List D}, (enumD i ds).length = ds.length
  | _, [] => rfl
  | i, d :: r => by show (enumD (i + 1) r).length + 1 = r.length + 1; rw [enumD_len]
@[simp] def vEnum (v : Ev) : EvA := fun ρ M => bnd (v ρ M) fun d M1 => match d with
  | .tup xs => some (.ok (enumD 0 xs) M1)
  | .lst xs => some (.ok (enumD 0 xs) M1)
  | _ => none
theorem iter_enumL {K : Fw} {μ0 : Wd} {H0 : Hp} {M0 : Mem} {a : Addr} {vs : List V} {ds : List D} (hm0 : RM K μ0 H0 M0) (s : ∀ μ H, Lq μ0 H0 μ H → SqL K H a vs) (k : RVs K μ0 H0 vs ds) : IterOk K (Ite K a) μ0 H0 (enumD 0 ds) := fun μ H M l hm i => by
  have s' := s μ H l
  have k' := k.go (go_lq hm0 l)
  refine ⟨fun d hd => ?_, fun hi => ⟨vs, s', by rw [k.length]; rw [enumD_len] at hi; exact hi⟩⟩
  rw [enumD_get, Nat.zero_add] at hd
  cases q : ds[i]? with
  | none => rw [q] at hd; cases hd
  | some d0 =>
    rw [q] at hd; cases hd
    obtain ⟨v, e1, e2⟩ := k'.get q
    refine ⟨⟨vs, v, s', e1⟩, fun x H' ⟨T, x0, ex, hT, eH, y⟩ => ?_⟩
    subst ex eH
    have := y vs s'
    rw [e1] at this
    cases this
    exact ⟨Le.new hT, hm.new hT, .tup (.inl (.inl upd_same)) (.cons (.int _) (.cons (e2.le hm (Le.new hT)) .nil))⟩
theorem iter_enumT {K : Fw} {μ0 : Wd} {H0 : Hp} {M0 : Mem} {a : Addr} {vs : List V} {ds : List D} (hm0 : RM K μ0 H0 M0) (s : SqT K H0 a vs) (k : RVs K μ0 H0 vs ds) : IterOk K (Fh.Itet K a vs) μ0 H0 (enumD 0 ds) := fun μ H M l hm i => by
  have s' := (go_lq hm0 l).t _ _ s
  have k' := k.go (go_lq hm0 l)
  refine ⟨fun d hd => ?_, fun hi => ⟨s', by rw [k.length]; rw [enumD_len] at hi; exact hi⟩⟩
  rw [enumD_get, Nat.zero_add] at hd
  cases q : ds[i]? with
  | none => rw [q] at hd; cases hd
  | some d0 =>
    rw [q] at hd; cases hd
    obtain ⟨v, e1, e2⟩ := k'.get q
    refine ⟨⟨(List.getElem?_eq_some_iff.mp e1).1, s'⟩, fun x H' ⟨T, x0, ex, hT, eH, y⟩ => ?_⟩
    subst ex eH
    rw [e1] at y
    cases y
    exact ⟨Le.new hT, hm.new hT, .tup (.inl (.inl upd_same)) (.cons (.int _) (.cons (e2.le hm (Le.new hT)) .nil))⟩
theorem mi_enum {tpos : Pos} {elts : List Expr} {kk : Nat} (hg : Gl X "enumerate") (hmg : X.mg "enumerate" = none) (he : MV X E e ve) (hs : starEach [e] X.env = [(false, eval e X.env)] := by rfl) : MI X E (.Tuple elts kk tpos) (.Call (.Name "enumerate" p) [e] [] pos) (vEnum ve) :=
  PI.imp (PI.or (Fh.pi_enumT hg hmg (pa_cons he pa_nil hs) hs) (pi_enum hg hmg (pa_cons he pa_nil hs) hs)) fun σ H R ⟨μ, ρ, M, r, hs, hm, e, q⟩ => by
    unfold vEnum at e
    cases h : ve ρ M with
    | none => rw [h] at e; cases e
    | some r1 =>
      rw [h] at e
      cases r1 with
      | err x M1 =>
        cases e
        exact .inl ⟨μ, ρ, M, .err x M1, hs, hm, h, q⟩
      | ok d M1 =>
        simp only [bnd] at e
        split at e
        · cases e
          refine .inl ⟨μ, ρ, M, _, hs, hm, h, fun μ1 x H1 l hm1 rx => ?_⟩
          cases rx with | tup s k =>
          exact ⟨_, _, rfl, s, q μ1 _ H1 l hm1 (iter_enumT hm1 s k)⟩
        · cases e
          refine .inr ⟨μ, ρ, M, _, hs, hm, h, fun μ1 x H1 l hm1 rx => ?_⟩
          cases rx with | lst s n k =>
          exact ⟨_, _, rfl, SqL.of s, q μ1 _ H1 l hm1 (iter_enumL hm1 (fun μ2 H2 l2 => SqL.of (l2.out s n).1) k)⟩
        · cases e
/-! ### a text, sign by sign -/
theorem chars_get {z : Str} {i : Nat} : (chars z)[i]? = (z.cps.toList[i]?).map fun c => D.str ⟨#[c]⟩ := by unfold chars; rw [List.getElem?_map]
theorem iter_str {K : Fw} {μ0 : Wd} {H0 : Hp} {z : Str} (ok : PyData.strOk z = true) : IterOk K (Its z) μ0 H0 (chars z) := fun μ H M l hm i => by
  refine ⟨fun d hd => ?_, fun hi => ?_⟩
  · rw [chars_get] at hd
    cases q : z.cps.toList[i]? with
    | none => rw [q] at hd; cases hd
    | some c =>
      rw [q] at hd; cases hd
      have hi : i < z.cps.size := by
        have := (List.getElem?_eq_some_iff.mp q).1
        simpa using this
      refine ⟨hi, fun x H' ⟨e, c', hc, ex⟩ => ?_⟩
      subst e ex
      have : c' = c := by
        rw [← Array.getElem?_toList, q] at hc
        exact (Option.some.inj hc).symm
      subst this
      exact ⟨Le.refl, hm, .str _ (strOk_of fun c2 h2 => by
        have : c2 = c' := by simpa using h2
        rw [this]
        exact strOk_mem ok c' (List.mem_of_getElem? q))⟩
  · show z.cps.size ≤ i
    unfold chars at hi
    simpa using hi
/-- a tuple, a list, a text -/
@[simp] def vIt (v : Ev) : EvA := fun ρ M => bnd (v ρ M) fun d M1 => match d with
  | .tup xs => some (.ok xs M1)
  | .lst xs => some (.ok xs M1)
  | .fro xs => some (.ok xs M1)
  | .str z => some (.ok (chars z) M1)
  | _ => none
theorem mi_it {tg : Expr} (he : MV X E e ve) : MI X E tg e (vIt ve) := PI.imp (PI.or (mi_seq (E := E) he) (pi_str he)) fun σ H R ⟨μ, ρ, M, r, hs, hm, e, q⟩ => by
  unfold vIt at e
  cases h : ve ρ M with
  | none => rw [h] at e; cases e
  | some r1 =>
    rw [h] at e
    cases r1 with
    | err x M1 =>
      cases e
      exact .inr ⟨μ, ρ, M, .err x M1, hs, hm, h, q⟩
    | ok d M1 =>
      simp only [bnd] at e
      split at e
      · exact .inl ⟨μ, ρ, M, r, hs, hm, by unfold vItems; rw [h]; exact e, q⟩
      · exact .inl ⟨μ, ρ, M, r, hs, hm, by unfold vItems; rw [h]; exact e, q⟩
      · exact .inl ⟨μ, ρ, M, r, hs, hm, by unfold vItems; rw [h]; exact e, q⟩
      · cases e
        refine .inr ⟨μ, ρ, M, _, hs, hm, h, fun μ1 x H1 l hm1 rx => ?_⟩
        cases rx with | str _ ok =>
        exact ⟨_, rfl, q μ1 _ H1 l hm1 (iter_str ok)⟩
      · cases e
/-! ### sorted(set(t)), t a tuple of texts -/
@[simp] def vSortSet (v : Ev) : Ev := fun ρ M => bnd (v ρ M) fun d M1 => match d with
  | .tup xs => match dSt xs with
    | some ss => if ss.length + 1 < scanBound ∧ ss.length ≤ sizeLine then some (.ok (.lst ((Fh.srt ss).map D.str)) M1) else none
    | none => none
  | _ => none
theorem mv_sortset {p2 pos2 : Pos} (hc : X.calm = true) (hg : Gl X "sorted") (hm : X.mg "sorted" = none) (hg2 : Gl X "set") (hm2 : X.mg "set" = none) (he : MV X E e ve)
    (hs1 : starEach [e] X.env = (false, eval e X.env) :: starEach [] X.env := by rfl) (hpl1 : (backTo pos2 (starEach [] X.env)).any (·.1) = false := by rfl)
    (hs2 : starEach [.Call (.Name "set" p2) [e] [] pos2] X.env = (false, eval (.Call (.Name "set" p2) [e] [] pos2) X.env) :: starEach [] X.env := by rfl) (hpl2 : (backTo pos (starEach [] X.env)).any (·.1) = false := by rfl) :
    MV X E (.Call (.Name "sorted" p) [.Call (.Name "set" p2) [e] [] pos2] [] pos) (vSortSet ve) :=
  PE.imp (pe_callB (Fh.cr_sortTx hc) hg hm Fh.bt_sorted (pa_cons (pe_callTy (Fh.cr_setTx hc) hg2 hm2 Fh.bt_set (pa_cons he pa_nil hs1) (by decide) (by decide) hs1 hpl1) pa_nil hs2) (by decide) (by decide) hs2 hpl2) fun σ H Q ⟨μ, ρ, M, r, hs, hm, e, q⟩ =>
    tr_bnd hs hm e q fun μ1 x H1 d M1 l hs1 hm1 rx e1 q1 => by
      split at e1
      · split at e1
        · rename_i ss hss
          split at e1
          · rename_i hl
            cases e1
            cases rx with | tup s k =>
            obtain ⟨h1, h2⟩ := k.dSt hss
            rw [h1] at s
            refine ⟨_, ss, rfl, s, hl.1, fun a n ha hn => ?_⟩
            refine ⟨a, _, n, rfl, upd_same, by omega, fun zs p hz nd hk _ hp => ?_⟩
            have e : zs = Fh.srt ss := Fh.sorted_is hz nd fun k => by rw [hk k]
            subst e
            have hm2 := hm1.new (o := Fh.TxO X.w a (fun j => decide (j ∈ ss)) n) ha
            refine q1 μ1 _ _ ((Le.new ha).trans (Le.new hp)) (hm2.new hp) (.lst upd_same (hm2.freshOut hp) (rvs_strs fun x hx => h2 x (Fh.mem_srt.mp hx)))
          · cases e1
        · cases e1
      · cases e1
end
end Mi
set_option autoImplicit false
/-! Lists in cells: stores, loops. -/
namespace Mi
open PySem PySem.Spec L2
section
variable {X : Cx} {E : XK} {e o i tg : Expr} {ve vo vi : Ev} {vb : Sv} {g : Gv} {pos tpos : Pos} {body : List Stmt}
/-- o[i] = e, o a list's cell -/
@[simp] def vSetI (vo vi ve : Ev) : Sv := fun ρ M => bndS (ve ρ M) fun d M1 => bndS (vo ρ M1) fun o M2 => bndS (vi ρ M2) fun j M3 => match o, j with
  | .loc n, .int k => match M3[n]? with
    | some (.lst xs) => match ixN xs.length k with
      | some m => some (.nx ρ (M3.set n (.lst (xs.set m d))))
      | none => none
    | _ => none
  | _, _ => none
theorem ms_setI (ho : MV X E o vo) (hi : MV X E i vi) (he : MV X E e ve)
    (ha : ∀ v, assign (.Subscript o i tpos) X.env v = (do
      let ov ← holding [v] (eval o X.env)
      let iv ← holding [v, ov] (eval i X.env)
      standAt tpos
      holding [v, ov, iv] (setItem ov iv v)
      release [v, ov, iv] []) := by intro _; rfl)
    (hs : swapsWithSole [.Subscript o i tpos] e pos.line X.env = pure false := by rfl) (hw : swappedStores [.Subscript o i tpos] e X.env = pure none := by rfl) (h1 : (assignEach [.Subscript o i tpos] X.env).map (·.2) = [assign (.Subscript o i tpos) X.env] := by rfl) :
    MS X E (.Assign [.Subscript o i tpos] e pos) (vSetI vo vi ve) := PS.imp (ps_asg he (pg_sub ho hi set_list ha) hs hw h1) fun D σ H ⟨μ, ρ, M, r, hs, hm, e, q⟩ =>
      trS_bnd hs hm e q fun μ1 x H1 d M1 l1 hs1 hm1 rx e1 q1 => trS_bnd hs1 hm1 e1 q1 fun μ2 y H2 o M2 l2 hs2 hm2 ry e2 q2 => trS_bnd hs2 hm2 e2 q2 fun μ3 z H3 j M3 l3 hs3 hm3 rz e3 q3 => by
        split at e3
        · rename_i n k
          split at e3
          · rename_i xs hn
            split at e3
            · rename_i m hm'
              cases e3
              cases rz
              cases ry with
              | @loc _ a ha =>
                have ha := l3.get ha
                obtain ⟨vs, h1, h2⟩ := hm3.cell n a _ ha hn
                have l : Le μ3 H3 μ3 (upd H3 a (.lst (vs.set m x))) := Le.put (List.mem_of_getElem? ha)
                have rx3 := (rx.le hm1 l2).le hm2 l3
                exact ⟨a, vs, k, m, rfl, rfl, h1, by rw [h2.length]; exact hm', q3 μ3 σ _ l (hm3.put ha ⟨_, upd_same, (h2.le hm3 l).set m (rx3.le hm3 l)⟩) (hs3.le hm3 l)⟩
            · cases e3
          · cases e3
        · cases e3
/-- for over a list's cell, as it stands at each turn -/
def forC (g : Gv) (b : Sv) (n : Nat) : Nat → Nat → Sl → Mem → Option Fl
  | 0, i, ρ, M => match M[n]? with
    | some (.lst ys) => if ys.length ≤ i then some (.nx ρ M) else none
    | _ => none
  | f + 1, i, ρ, M => match M[n]? with
    | some (.lst ys) => match ys[i]? with
      | none => some (.nx ρ M)
      | some d => bndS (g d ρ M) fun ρ1 M1 => match b ρ1 M1 with
        | some (.nx ρ2 M2) => forC g b n f (i + 1) ρ2 M2
        | some (.ct ρ2 M2) => forC g b n f (i + 1) ρ2 M2
        | some (.bk ρ2 M2) => some (.nx ρ2 M2)
        | r => r
    | _ => none
@[simp] def vForC (v : Ev) (g : Gv) (b : Sv) : Sv := fun ρ M => bndS (v ρ M) fun d M1 => match d with
  | .loc n => match M1[n]? with
    | some (.lst xs) => forC g b n xs.length 0 ρ M1
    | _ => none
  | _ => none
theorem ms_forC (hp : PassesOwn (model X.prog X.w) X.A X.env X.xe) (hc : X.calm = true) (hi : MV X E e ve) (hg : MG X E tg g) (hb : MSs X E body vb)
    (hs : ∀ x, foldedSetIterable e X.env x = pure x := by intro _; rfl) : MS X E (.For tg e body [] pos) (vForC ve g vb) :=
  PS.imp (ps_for hp hc (pi_list hi) hg hb hs) fun D σ00 H00 ⟨μ00, ρ00, M00, r, hs00, hm00, e00, q00⟩ => trS_bnd hs00 hm00 e00 q00 fun μ0 x H0 d M0 l0 hs0 hm0 rx e0 q0 => by
    split at e0
    · rename_i n
      split at e0
      · rename_i xs hn
        cases rx with
        | @loc _ a ha =>
          obtain ⟨vs, h1, h2⟩ := hm0.cell n a _ ha hn
          refine ⟨a, rfl, ⟨vs, SqL.of h1⟩, fun i m σ H => ∃ μ ρ M, Le μ0 H0 μ H ∧ RS X.kx μ H σ ρ ∧ RM X.kx μ H M ∧ forC g vb n m i ρ M = some r, ⟨xs.length, μ0, ρ00, M0, Le.refl, hs0, hm0, e0⟩, ?_⟩
          rintro i m σ H ⟨μ, ρ, M, l, hs, hm, e⟩
          have ha' := l.get ha
          cases m with
          | zero =>
            unfold forC at e
            split at e
            · rename_i ys hy
              split at e
              · rename_i hle
                cases e
                obtain ⟨us, k1, k2⟩ := hm.cell n a _ ha' hy
                exact .inl ⟨⟨us, SqL.of k1, by rw [k2.length]; exact hle⟩, (q0.le l) μ σ H Le.refl hm hs⟩
              · cases e
            · cases e
          | succ m =>
            unfold forC at e
            split at e
            · rename_i ys hy
              obtain ⟨us, k1, k2⟩ := hm.cell n a _ ha' hy
              split at e
              · rename_i hd
                cases e
                refine .inl ⟨⟨us, SqL.of k1, by rw [k2.length]; exact List.getElem?_eq_none_iff.mp hd⟩, (q0.le l) μ σ H Le.refl hm hs⟩
              · rename_i d hd
                obtain ⟨v, e1, e2⟩ := k2.get hd
                refine .inr ⟨⟨us, v, SqL.of k1, e1⟩, fun σ2 H2 => ∃ μ ρ M, Le μ0 H0 μ H2 ∧ RS X.kx μ H2 σ2 ρ ∧ RM X.kx μ H2 M ∧ forC g vb n m (i + 1) ρ M = some r, fun σ2 H2 h2 => ⟨m, Nat.lt_succ_self m, h2⟩, fun x H' ⟨eH, y⟩ => ?_⟩
                subst eH
                have := y us (SqL.of k1)
                rw [e1] at this
                cases this
                have q1 := q0.le l
                cases h1 : g d ρ M with
                | none => rw [h1] at e; cases e
                | some r2 =>
                  refine ⟨μ, ρ, M, d, r2, hs, hm, e2, h1, ?_⟩
                  rw [h1] at e
                  cases r2 with
                  | err x M1 => cases e; exact q1
                  | ok ρ1 M1 =>
                    intro μ2 σ2 H2 l2 m2 s2
                    simp only [bndS] at e
                    cases h2 : vb ρ1 M1 with
                    | none => rw [h2] at e; cases e
                    | some r3 =>
                      refine ⟨μ2, ρ1, M1, r3, s2, m2, h2, ?_⟩
                      rw [h2] at e
                      have q2 := q1.le l2
                      cases r3 with
                      | nx ρ3 M3 => exact fun μ3 σ3 H3 l3 m3 s3 => ⟨μ3, ρ3, M3, (l.trans l2).trans l3, s3, m3, e⟩
                      | ct ρ3 M3 => exact fun μ3 σ3 H3 l3 m3 s3 => ⟨μ3, ρ3, M3, (l.trans l2).trans l3, s3, m3, e⟩
                      | bk ρ3 M3 => cases e; exact q2
                      | rt d M3 => cases e; exact q2
                      | er x M3 => cases e; exact q2
            · cases e
      · cases e0
    · cases e0
theorem PS.or {st : Stmt} {t t' : TS} (h : PS X st t) (h' : PS X st t') : PS X st (fun D σ H => t D σ H ∨ t' D σ H) := ⟨fun pins s σ H D I q => q.elim (h.run pins s σ H D I) (h'.run pins s σ H D I)⟩
/-- for over a tuple, a list, a text, or a list's cell -/
@[simp] def vForA (v : Ev) (g : Gv) (b : Sv) : Sv := fun ρ M => bndS (v ρ M) fun d M1 => match d with
  | .loc n => match M1[n]? with
    | some (.lst xs) => forC g b n xs.length 0 ρ M1
    | _ => none
  | .tup xs => forL g b xs ρ M1
  | .lst xs => forL g b xs ρ M1
  | .fro xs => forL g b xs ρ M1
  | .str z => forL g b (chars z) ρ M1
  | _ => none
theorem ms_forA (hp : PassesOwn (model X.prog X.w) X.A X.env X.xe) (hc : X.calm = true) (hi : MV X E e ve) (hg : MG X E tg g) (hb : MSs X E body vb)
    (hs : ∀ x, foldedSetIterable e X.env x = pure x := by intro _; rfl) : MS X E (.For tg e body [] pos) (vForA ve g vb) :=
  PS.imp (PS.or (ms_forC hp hc hi hg hb hs) (ms_for hp hc (mi_it hi) hg hb hs)) fun D σ H ⟨μ, ρ, M, r, hs, hm, e, q⟩ => by
    unfold vForA at e
    cases h : ve ρ M with
    | none => rw [h] at e; cases e
    | some r1 =>
      rw [h] at e
      cases r1 with
      | err x M1 => exact .inl ⟨μ, ρ, M, r, hs, hm, by unfold vForC; rw [h]; exact e, q⟩
      | ok d M1 =>
        simp only [bndS] at e
        split at e
        · exact .inl ⟨μ, ρ, M, r, hs, hm, by unfold vForC; rw [h]; exact e, q⟩
        · exact .inr ⟨μ, ρ, M, r, hs, hm, by unfold vFor vIt; rw [h]; exact e, q⟩
        · exact .inr ⟨μ, ρ, M, r, hs, hm, by unfold vFor vIt; rw [h]; exact e, q⟩
        · exact .inr ⟨μ, ρ, M, r, hs, hm, by unfold vFor vIt; rw [h]; exact e, q⟩
        · exact .inr ⟨μ, ρ, M, r, hs, hm, by unfold vFor vIt; rw [h]; exact e, q⟩
        · cases e
theorem units65 {k : Nat} {A : Around} (r : Room k A) : A.units + 65 < cLine := by
  have := r.un
  omega
/-- bool(t), t a tuple -/
@[simp] def cBoolT : FC
  | [.tup xs], M => some (.ok (.bl (!xs.isEmpty)) M)
  | _, _ => none
theorem sim_boolT {K : Fw} : SimC K E (fun xs H Q => ∃ (a : Addr) (zs : List V), xs = [.ref a] ∧ SqT K H a zs ∧ Q (.bl (!zs.isEmpty)) H) cBoolT := fun μ H M xs as res Q hm rx e q => by
  unfold cBoolT at e
  split at e
  · cases e
    obtain ⟨x, rfl, r⟩ := rx.one
    cases r with | tup s k =>
    exact ⟨_, _, rfl, s, by rw [k.empty]; exact q μ _ H Le.refl hm (.bl _)⟩
  · cases e
theorem ok_none {P : Program} {w : World} {K : PySem.W.Frag} {mg : Str → Option Value} {base : Heap} {k : Nat} {f : Addr} {fd : FuncData} {ps : List Str} : OkM P w K mg base k f fd ps (fun _ _ => none) :=
  ⟨fun vs H Q E h => h.1, fun A outer s H args us vs Q E hr e0 hb hv h => by
    obtain ⟨_, μ, M, ds, r, _, _, e, _⟩ := h
    cases e⟩
theorem rs_str : fillsNumberSlot (.type "str") (Operator.RShift).info.2 = pure false := by kernel_rfl
/-- what leaves a def's body -/
theorem pass_def {P : Program} {w : World} {K : PySem.W.Frag} {mg : Str → Option Value} {base : Heap} {N : List Str} {qual : Str} {scope : Scope} {f : Addr} {cd : Value} {A : Around} {outer : List Env} {s : Shared} {H : Hp} {E : XK} :
    Passes (L2.CX P w) (cxOf (L2.CX P w) P w K mg base N qual scope f cd A outer s H E) E :=
  passes_call (X := cxOf (L2.CX P w) P w K mg base N qual scope f cd A outer s H E) (W := fun c d _ H => E c d H) (takes_of rfl rfl rfl rfl) (fun _ _ _ _ h => h)
/-- -n -/
@[simp] def fNeg : Ev → Ev := fun v ρ M => bnd (v ρ M) fun d M1 => match d with
  | .int i => some (.ok (.int (-i)) M1)
  | _ => none
theorem mv_neg (he : MV X E e ve) : MV X E (.UnaryOp .USub e pos) (fNeg ve) := PE.imp (pe_un un_neg he) fun σ H Q ⟨μ, ρ, M, r, hs, hm, e, q⟩ => tr_bnd hs hm e q fun μ1 x H1 d M1 l hs1 hm1 rx e1 q1 => by
  split at e1 <;> cases e1
  cases rx
  exact ⟨_, rfl, q1 μ1 _ H1 Le.refl hm1 (.int _)⟩
@[simp] def vPar3 (i j l : Nat) (vs : EvA) : Sv := fun ρ M => bndS (vs ρ M) fun ds M1 => match ds with
  | [a, b, c] => some (.nx (((ρ.set i (some a)).set j (some b)).set l (some c)) M1)
  | _ => none
theorem ms_par3 {i j l : Nat} {x y z : Str} {a b c : Expr} {vs : EvA} {px py pz pt : Pos} {kt k2 pt2} (hc : X.calm = true) (hN : X.N.Nodup) (hi : X.N[i]? = some x) (hj : X.N[j]? = some y) (hl : X.N[l]? = some z) (hij : i ≠ j) (hil : i ≠ l) (hjl : j ≠ l)
    (hx : X.env.scope.names.lookup x = some .local) (hy : X.env.scope.names.lookup y = some .local) (hz : X.env.scope.names.lookup z = some .local) (ha : MA X E [a, b, c] vs)
    (hw : swappedStores [.Tuple [.Name x px, .Name y py, .Name z pz] kt pt] (.Tuple [a, b, c] k2 pt2) X.env = pure (some [x, y, z]))
    (hs : swapsWithSole [.Tuple [.Name x px, .Name y py, .Name z pz] kt pt] (.Tuple [a, b, c] k2 pt2) pos.line X.env = pure false := by rfl) :
    MS X E (.Assign [.Tuple [.Name x px, .Name y py, .Name z pz] kt pt] (.Tuple [a, b, c] k2 pt2) pos) (vPar3 i j l vs) := PS.imp (ps_par3 hc hN hi hj hl hij hil hjl hx hy hz ha hw hs) fun D σ H ⟨μ, ρ, M, r, hs, hm, e, q⟩ => trS_bnd hs hm e q fun μ1 x H1 d M1 l1 hs1 hm1 rx e1 q1 => by
      split at e1 <;> cases e1
      cases rx with | cons r1 rx => cases rx with | cons r2 rx => cases rx with | cons r3 rx =>
      cases rx
      exact ⟨_, _, _, rfl, q1 μ1 _ H1 Le.refl hm1 (((hs1.set i r1).set j r2).set l r3)⟩
/-- a op= e at a name, by a rule of two operands -/
@[simp] def vAug (i : Nat) (f : F2) (v : Ev) : Sv := fun ρ M => match ρ[i]? with
  | some (some x) => bndS (v ρ M) fun y M1 => bndS (f x y M1) fun z M2 => some (.nx (ρ.set i (some z)) M2)
  | _ => none
theorem ms_aug {op : Operator} {r : R2} {f : F2} {k : Nat} {x : Str} {pos' : Pos} (hN : X.N.Nodup) (hi : X.N[k]? = some x) (hx : Loc X.env.scope x) (ho : OpR X (inplaceOp op) r) (sm : Sim2 X.kx E r f) (he : MV X E e ve)
    (hf : X.fn x = true ∨ X.env.scope.names.lookup x = some .local := by first | exact .inl rfl | exact .inr rfl | assumption) : MS X E (.AugAssign (.Name x pos') op e pos) (vAug k f ve) :=
  PS.imp (ps_aug hN hi hx he (ti := r) ho hf) fun D σ H ⟨μ, ρ, M, res, hs, hm, e, q⟩ => by
    unfold vAug at e
    split at e
    · rename_i d hd
      obtain ⟨v, e1, e2⟩ := hs.get k d hd
      refine ⟨v, e1, trS_bnd hs hm e q fun μ1 y H1 d2 M1 l hs1 hm1 ry e3 q1 => ?_⟩
      cases h : f d d2 M1 with
      | none => rw [h] at e3; cases e3
      | some r1 =>
        rw [h] at e3
        refine sm μ1 H1 M1 v y d d2 r1 _ hm1 (e2.le hm l) ry h ?_
        cases r1 with
        | err z M2 => cases e3; exact q1
        | ok z M2 =>
          cases e3
          exact fun μ2 w H2 l2 hm2 rw' => q1 μ2 _ H2 l2 hm2 ((hs1.le hm1 l2).set k rw')
    · cases e
theorem opr_iadd : OpR X (inplaceOp .Add) (rI0 fun i j => .int (i + j)) := fun pins s σ H x y v u Q I rx ry h => ip_add pins s σ H x y v u Q I rx ry h
@[simp] def fAddI : F2
  | .int i, .int j, M => some (.ok (.int (i + j)) M)
  | _, _, _ => none
theorem sim_addI {K : Fw} : Sim2 K E (rI0 fun i j => .int (i + j)) fAddI := fun μ H M x y a b res Q hm rx ry e q => by
  unfold fAddI at e
  split at e <;> cases e
  cases rx; cases ry
  exact ⟨_, _, rfl, rfl, q μ _ H Le.refl hm (.int _)⟩
end
end Mi
set_option autoImplicit false
/-! Plain lemmas for reckoning with mirrors. -/
namespace Mi
open PySem PySem.Spec L2
theorem map_toNat_inj : ∀ {a b : List Char}, a.map Char.toNat = b.map Char.toNat → a = b
  | [], [], _ => rfl
  | [], _ :: _, h => by cases h
  | _ :: _, [], h => by cases h
  | x :: a, y :: b, h => by
    obtain ⟨h1, h2⟩ := List.cons.inj h
    rw [map_toNat_inj h2, Char.toNat_inj.mp h1]
@[simp] theorem ofString_inj (a b : String) : (Str.ofString a = Str.ofString b) ↔ a = b := by
  constructor
  · intro h
    rw [Str.ofString_eq_toList, Str.ofString_eq_toList] at h
    have h1 : (a.toList.map Char.toNat).toArray = (b.toList.map Char.toNat).toArray := congrArg Str.cps h
    have h2 : a.toList.map Char.toNat = b.toList.map Char.toNat := by simpa using h1
    exact String.toList_inj.mp (map_toNat_inj h2)
  · intro h; rw [h]
@[simp] theorem ofString_beq (a b : String) : (Str.ofString a == Str.ofString b) = (a == b) := by
  rw [Bool.eq_iff_iff]
  simp
@[simp] theorem dSt_str (l : List Str) : dSt (l.map D.str) = some l := by
  induction l with
  | nil => rfl
  | cons x r ih => simp [ih]
@[simp] theorem dSt_append {xs ys : List D} {a b : List Str} (h : dSt xs = some a) (k : dSt ys = some b) : dSt (xs ++ ys) = some (a ++ b) := by
  induction xs generalizing a with
  | nil => cases h; exact k
  | cons x r ih =>
    cases x <;> simp at h ⊢
    obtain ⟨c, h1, h2⟩ := h
    subst h2
    rw [ih h1]
    exact ⟨_, rfl, rfl⟩
theorem dSt_eq : ∀ {xs : List D} {a : List Str}, dSt xs = some a → xs = a.map D.str
  | [], a, h => by cases h; rfl
  | .str x :: r, a, h => by
    simp at h
    obtain ⟨c, h1, h2⟩ := h
    subst h2
    rw [dSt_eq h1]
    rfl
@[simp] theorem dIn_int (l : List Int) : dIn (l.map D.int) = some l := by
  induction l with
  | nil => rfl
  | cons x r ih => simp [ih]
@[simp] theorem dBl_bl (l : List Bool) : dBl (l.map D.bl) = some l := by
  induction l with
  | nil => rfl
  | cons x r ih => simp [ih]
@[simp] theorem dats_str (l : List Str) : dats (l.map D.str) = some (l.map PyData.str) := by
  induction l with
  | nil => rfl
  | cons x r ih => simp [ih]
@[simp] theorem dats_int (l : List Int) : dats (l.map D.int) = some (l.map PyData.int) := by
  induction l with
  | nil => rfl
  | cons x r ih => simp [ih]
@[simp] theorem lows_str (N : Nat) (l : List Str) : lows N (l.map D.str) = true := by
  induction l with
  | nil => rfl
  | cons x r ih => simp [lows, low, ih]
@[simp] theorem kitB_NoneType_tuple : kitB "NoneType" "tuple" = some false := by decide +kernel
@[simp] theorem kitB_NoneType_bool : kitB "NoneType" "bool" = some false := by decide +kernel
@[simp] theorem kitB_NoneType_int : kitB "NoneType" "int" = some false := by decide +kernel
@[simp] theorem kitB_NoneType_str : kitB "NoneType" "str" = some false := by decide +kernel
@[simp] theorem kitB_NoneType_list : kitB "NoneType" "list" = some false := by decide +kernel
@[simp] theorem kitB_bool_tuple : kitB "bool" "tuple" = some false := by decide +kernel
@[simp] theorem kitB_bool_bool : kitB "bool" "bool" = some true := by decide +kernel
@[simp] theorem kitB_bool_int : kitB "bool" "int" = some true := by decide +kernel
@[simp] theorem kitB_bool_str : kitB "bool" "str" = some false := by decide +kernel
@[simp] theorem kitB_bool_list : kitB "bool" "list" = some false := by decide +kernel
@[simp] theorem kitB_int_tuple : kitB "int" "tuple" = some false := by decide +kernel
@[simp] theorem kitB_int_bool : kitB "int" "bool" = some false := by decide +kernel
@[simp] theorem kitB_int_int : kitB "int" "int" = some true := by decide +kernel
@[simp] theorem kitB_int_str : kitB "int" "str" = some false := by decide +kernel
@[simp] theorem kitB_int_list : kitB "int" "list" = some false := by decide +kernel
@[simp] theorem kitB_str_tuple : kitB "str" "tuple" = some false := by decide +kernel
@[simp] theorem kitB_str_bool : kitB "str" "bool" = some false := by decide +kernel
@[simp] theorem kitB_str_int : kitB "str" "int" = some false := by decide +kernel
@[simp] theorem kitB_str_str : kitB "str" "str" = some true := by decide +kernel
@[simp] theorem kitB_str_list : kitB "str" "list" = some false := by decide +kernel
@[simp] theorem kitB_tuple_tuple : kitB "tuple" "tuple" = some true := by decide +kernel
@[simp] theorem kitB_tuple_bool : kitB "tuple" "bool" = some false := by decide +kernel
@[simp] theorem kitB_tuple_int : kitB "tuple" "int" = some false := by decide +kernel
@[simp] theorem kitB_tuple_str : kitB "tuple" "str" = some false := by decide +kernel
@[simp] theorem kitB_tuple_list : kitB "tuple" "list" = some false := by decide +kernel
@[simp] theorem kitB_list_tuple : kitB "list" "tuple" = some false := by decide +kernel
@[simp] theorem kitB_list_bool : kitB "list" "bool" = some false := by decide +kernel
@[simp] theorem kitB_list_int : kitB "list" "int" = some false := by decide +kernel
@[simp] theorem kitB_list_str : kitB "list" "str" = some false := by decide +kernel
@[simp] theorem kitB_list_list : kitB "list" "list" = some true := by decide +kernel
/-- a comprehension that drops nothing and changes nothing -/
theorem comp_map {is : List Nat} {bd : D → Option (List D)} {tt : EvT} {te : Ev} {ρ : Sl} {M : Mem} (f : D → D) : ∀ {ds acc : List D}, (∀ d ∈ ds, ∃ bs, bd d = some bs ∧ tt (setD ρ is bs) M = some (.ok true M) ∧ te (setD ρ is bs) M = some (.ok (f d) M)) → acc.length + ds.length ≤ sizeLine →
    compL is bd tt te ρ ds acc M = some (.ok (.lst (acc ++ ds.map f)) M)
  | [], acc, _, _ => by simp [compL]
  | d :: r, acc, h, hl => by
    obtain ⟨bs, h1, h2, h3⟩ := h d List.mem_cons_self
    simp only [List.length_cons] at hl
    have hl2 : acc.length < sizeLine := by omega
    simp only [compL, h1, h2, h3, bndO, if_pos, hl2]
    rw [comp_map f (fun x hx => h x (List.mem_cons_of_mem _ hx)) (by rw [List.length_append]; simp; omega)]
    simp
/-- .. that keeps what passes a test -/
theorem comp_filter {is : List Nat} {bd : D → Option (List D)} {tt : EvT} {te : Ev} {ρ : Sl} {M : Mem} (p : D → Bool) (f : D → D) : ∀ {ds acc : List D}, (∀ d ∈ ds, ∃ bs, bd d = some bs ∧ tt (setD ρ is bs) M = some (.ok (p d) M) ∧ (p d = true → te (setD ρ is bs) M = some (.ok (f d) M))) → acc.length + ds.length ≤ sizeLine →
    compL is bd tt te ρ ds acc M = some (.ok (.lst (acc ++ (ds.filter p).map f)) M)
  | [], acc, _, _ => by simp [compL]
  | d :: r, acc, h, hl => by
    obtain ⟨bs, h1, h2, h3⟩ := h d List.mem_cons_self
    simp only [List.length_cons] at hl
    have hl2 : acc.length < sizeLine := by omega
    have ih := fun (acc : List D) => comp_filter (acc := acc) p f (fun x hx => h x (List.mem_cons_of_mem _ hx))
    cases hp : p d with
    | true =>
      rw [hp] at h2
      simp only [compL, h1, h2, h3 hp, bndO, if_pos, hl2]
      rw [ih _ (by rw [List.length_append]; simp; omega)]
      simp [hp]
    | false =>
      rw [hp] at h2
      simp only [compL, h1, h2, bndO]
      rw [if_neg (by decide), ih _ (by omega)]
      simp [hp]
/-- a comprehension whose turns change the memory -/
theorem comp_rel {is : List Nat} {bd : D → Option (List D)} {tt : EvT} {te : Ev} {ρ : Sl} (I : Mem → Prop) (P : D → D → Prop) : ∀ {ds acc : List D} {M : Mem}, (∀ d ∈ ds, ∀ M, I M → ∃ bs y M', bd d = some bs ∧ tt (setD ρ is bs) M = some (.ok true M) ∧ te (setD ρ is bs) M = some (.ok y M') ∧ P d y ∧ I M') → I M → acc.length + ds.length ≤ sizeLine →
    ∃ ys M', compL is bd tt te ρ ds acc M = some (.ok (.lst (acc ++ ys)) M') ∧ I M' ∧ ys.length = ds.length ∧ ∀ y ∈ ys, ∃ d ∈ ds, P d y
  | [], acc, M, _, hI, _ => ⟨[], M, by simp [compL], hI, rfl, fun y hy => by cases hy⟩
  | d :: r, acc, M, h, hI, hl => by
    obtain ⟨bs, y, M1, h1, h2, h3, h4, h5⟩ := h d List.mem_cons_self M hI
    simp only [List.length_cons] at hl
    have hl2 : acc.length < sizeLine := by omega
    obtain ⟨ys, M2, k1, k2, k3, k4⟩ := comp_rel (acc := acc ++ [y]) I P (fun x hx => h x (List.mem_cons_of_mem _ hx)) h5 (by rw [List.length_append]; simp; omega)
    refine ⟨y :: ys, M2, ?_, k2, by simp [k3], fun z hz => ?_⟩
    · simp only [compL, h1, h2, h3, bndO, if_pos, hl2, k1]
      simp
    · rcases List.mem_cons.mp hz with e | e
      · rw [e]; exact ⟨d, List.mem_cons_self, h4⟩
      · obtain ⟨d', hd, hp⟩ := k4 z e
        exact ⟨d', List.mem_cons_of_mem _ hd, hp⟩
theorem mem_rng {lo : Int} {n : Nat} {d : D} (h : d ∈ rngD lo n) : ∃ i, i < n ∧ d = .int (lo + (i : Int)) := by
  unfold rngD at h
  obtain ⟨i, h1, h2⟩ := List.mem_map.mp h
  exact ⟨i, List.mem_range.mp h1, h2.symm⟩
@[simp] theorem len_rng (lo : Int) (n : Nat) : (rngD lo n).length = n := by simp [rngD]
theorem atI_of {α : Type} {xs : List α} {i : Nat} {x : α} (h : xs[i]? = some x) : atI xs (i : Int) = some x := atI_nat h
theorem dBl_all {ds : List D} (h : ∀ d ∈ ds, d = .bl true) : ∃ bs, dBl ds = some bs ∧ bs.all id = true := by
  induction ds with
  | nil => exact ⟨[], rfl, rfl⟩
  | cons d r ih =>
    obtain ⟨bs, h1, h2⟩ := ih fun x hx => h x (List.mem_cons_of_mem _ hx)
    have := h d List.mem_cons_self
    subst this
    exact ⟨true :: bs, by simp [h1], by simp at h2 ⊢; exact h2⟩
theorem sizeL : sizeLine = 16777216 := sizeLine_eq
end Mi
set_option autoImplicit false
/-! Dicts whose keys are tuples, that nobody changes: dict(zip(t, u)), in, get. -/
namespace Mi
open PySem PySem.Spec L2
section
variable {X : Cx} {pins : List (Addr × Obj)} {σ : L2.St} {H : Hp} {s : Shared} {μ : Wd}
mutual
theorem nk_is (I : Inv X pins σ H s) : ∀ {v : V} {d : D} {u : Value} {k : NestedKey}, RV X.kx μ H v d → nk d = some k → RelV v u → NestedIs s.heap k u
  | _, _, _, _, .non, e, r => by
    cases r; simp only [nk] at e; cases e; exact .none
  | _, _, _, _, .bl b, e, r => by
    cases r; simp only [nk] at e; cases e; exact .bool rfl
  | _, _, _, _, .int i, e, r => by
    obtain ⟨t, rfl⟩ := r; simp only [nk] at e; cases e; exact .int _ _
  | _, _, _, _, .str x h, e, r => by
    obtain ⟨t, rfl⟩ := r; simp only [nk] at e; cases e; exact .text _ _
  | _, _, _, _, .tup (ds := ds) h k, e, r => by
    cases r
    simp only [nk] at e
    cases z : nks ds with
    | none => rw [z] at e; cases e
    | some ks =>
      rw [z] at e
      cases e
      obtain ⟨its, rv, ⟨o, e1, e2, n, e3⟩, _⟩ := I.tuple h
      exact .tup e1 e2 e3 (by simpa using nks_is I k z rv)
  | _, _, _, _, .lst h n k, e, r => by simp only [nk] at e; cases e
  | _, _, _, _, .fro h k, e, r => by simp only [nk] at e; cases e
  | _, _, _, _, .obj h n l k, e, r => by simp only [nk] at e; cases e
  | _, _, _, _, .dic h n l k, e, r => by simp only [nk] at e; cases e
  | _, _, _, _, .dcT h n l k j, e, r => by simp only [nk] at e; cases e
  | _, _, _, _, .loc h, e, r => by simp only [nk] at e; cases e
  | _, _, _, _, .glb x, e, r => by simp only [nk] at e; cases e
  | _, _, _, _, .ty n, e, r => by simp only [nk] at e; cases e
  | _, _, _, _, .xob _ _ _ _ _, e, r => by simp only [nk] at e; cases e
theorem nks_is (I : Inv X pins σ H s) : ∀ {vs : List V} {ds : List D} {us : List Value} {ks : List NestedKey}, RVs X.kx μ H vs ds → nks ds = some ks → Vals vs us → NestedAll s.heap ks us
  | _, _, _, _, .nil, e, r => by
    cases r; simp only [nks] at e; cases e; exact .nil
  | _, _, _, _, .cons (d := d) (ds := ds) h k, e, r => by
    cases r with | cons r1 r2 =>
    simp only [nks] at e
    cases z : nk d with
    | none => rw [z] at e; cases e
    | some k0 =>
      rw [z] at e
      cases y : nks ds with
      | none => rw [y] at e; cases e
      | some ks0 =>
        rw [y] at e
        cases e
        exact .cons (nk_is I h z r1) (nks_is I k y r2)
end
theorem nkT_is (I : Inv X pins σ H s) {b : Addr} {v : V} {d : D} {k : NestedKey} (h : RV X.kx μ H v d) (e : nkT d = some k) : (∃ b, v = .ref b) ∧ ∀ b, v = .ref b → NestedIs s.heap k (.ref b) ∧ k.depth ≤ 8 := by
  unfold nkT at e
  split at e
  · rename_i xs
    cases z : nks xs with
    | none => rw [z] at e; cases e
    | some ks =>
      rw [z] at e
      simp only [Option.bind_some] at e
      split at e <;> cases e
      rename_i hd
      have e2 : nk (.tup xs) = some (.tup ks) := by simp only [nk, z, Option.map_some]
      cases h with | tup h k =>
      exact ⟨⟨_, rfl⟩, fun b q => by cases q; exact ⟨nk_is I (.tup h k) e2 rfl, hd⟩⟩
  · cases e
end
/-- entries -/
inductive RN (K : Fw) (μ : Wd) (H : Hp) : List (NestedKey × Addr × V) → List (D × D) → Prop
  | nil : RN K μ H [] []
  | cons {n : NestedKey} {b : Addr} {v : V} {k d : D} {us : List (NestedKey × Addr × V)} {l : List (D × D)} : nkT k = some n → RV K μ H (.ref b) k → RV K μ H v d → RN K μ H us l → RN K μ H ((n, b, v) :: us) ((k, d) :: l)
section
variable {K : Fw} {μ : Wd} {H : Hp}
theorem RN.parts : ∀ {us : List (NestedKey × Addr × V)} {l : List (D × D)}, RN K μ H us l → (l.map (·.1)).map nkT = us.map (fun u => some u.1) ∧ RVs K μ H (us.map fun u => .ref u.2.1) (l.map (·.1)) ∧ RVs K μ H (us.map fun u => u.2.2) (l.map (·.2))
  | _, _, .nil => ⟨rfl, .nil, .nil⟩
  | _, _, .cons h1 h2 h3 t => by
    obtain ⟨e1, e2, e3⟩ := RN.parts t
    exact ⟨by simp only [List.map_cons, h1, e1], .cons h2 e2, .cons h3 e3⟩
theorem RN.of : ∀ {us : List (NestedKey × Addr × V)} {ks ds : List D}, ks.map nkT = us.map (fun u => some u.1) → RVs K μ H (us.map fun u => .ref u.2.1) ks → RVs K μ H (us.map fun u => u.2.2) ds → RN K μ H us (ks.zip ds)
  | [], ks, ds, e, h, t => by cases h; exact .nil
  | u :: us, ks, ds, e, h, t => by
    cases h with | cons h1 h2 =>
    cases t with | cons t1 t2 =>
    simp only [List.map_cons] at e
    obtain ⟨e1, e2⟩ := List.cons.inj e
    exact .cons e1 h1 t1 (RN.of e2 h2 t2)
theorem RN.len : ∀ {us : List (NestedKey × Addr × V)} {l : List (D × D)}, RN K μ H us l → us.length = l.length
  | _, _, .nil => rfl
  | _, _, .cons _ _ _ t => by rw [List.length_cons, List.length_cons, t.len]
theorem RN.append : ∀ {us vs : List (NestedKey × Addr × V)} {l m : List (D × D)}, RN K μ H us l → RN K μ H vs m → RN K μ H (us ++ vs) (l ++ m)
  | _, _, _, _, .nil, t => t
  | _, _, _, _, .cons h1 h2 h3 r, t => .cons h1 h2 h3 (RN.append r t)
end
/-- an entry is put in -/
def putP (l : List (D × D)) (k v : D) : List (D × D) :=
  if l.any (fun p => decide (nkT p.1 = nkT k)) then l.map (fun p => if nkT p.1 = nkT k then (p.1, v) else p) else l ++ [(k, v)]
def dictP (acc l : List (D × D)) : List (D × D) := l.foldl (fun acc p => putP acc p.1 p.2) acc
def findP (l : List (D × D)) (k : D) : Option D := (l.find? fun p => decide (nkT p.1 = nkT k)).map (·.2)
section
variable {K : Fw} {μ : Wd} {H : Hp}
theorem RN.any {us : List (NestedKey × Addr × V)} {l : List (D × D)} (r : RN K μ H us l) {k : D} {n : NestedKey} (e : nkT k = some n) : (us.any fun u => decide (u.1 = n)) = l.any fun p => decide (nkT p.1 = nkT k) := by
  induction r with
  | nil => rfl
  | cons h1 h2 h3 t ih => simp only [List.any_cons, ih, h1, e, Option.some.injEq]
theorem RN.put {us : List (NestedKey × Addr × V)} {l : List (D × D)} (r : RN K μ H us l) {k d : D} {n : NestedKey} {b : Addr} {v : V} (e : nkT k = some n) (hk : RV K μ H (.ref b) k) (hd : RV K μ H v d) : RN K μ H (Fz.putN us n b v) (putP l k d) := by
  unfold Fz.putN putP
  rw [r.any e]
  by_cases q : (l.any fun p => decide (nkT p.1 = nkT k)) = true
  · rw [if_pos q, if_pos q]
    clear q
    induction r with
    | nil => exact .nil
    | @cons n0 b0 v0 k0 d0 us0 l0 h1 h2 h3 t ih =>
      rw [List.map_cons, List.map_cons]
      by_cases z : n0 = n
      · rw [if_pos z, if_pos (by rw [h1, e, z])]
        exact .cons h1 h2 hd ih
      · rw [if_neg z, if_neg (by rw [h1, e]; exact fun y => z (Option.some.inj y))]
        exact .cons h1 h2 h3 ih
  · rw [if_neg q, if_neg q]
    exact r.append (.cons e hk hd .nil)
theorem RN.find {us : List (NestedKey × Addr × V)} {l : List (D × D)} (r : RN K μ H us l) {k : D} {n : NestedKey} (e : nkT k = some n) :
    match findP l k with
    | some d => ∃ v, (us.find? fun u => decide (u.1 = n)).map (·.2.2) = some v ∧ RV K μ H v d
    | none => (us.find? fun u => decide (u.1 = n)).map (·.2.2) = none := by
  unfold findP
  induction r with
  | nil => exact rfl
  | @cons n0 b0 v0 k0 d0 us0 l0 h1 h2 h3 t ih =>
    by_cases z : n0 = n
    · subst z
      simp only [List.find?_cons, h1, e, decide_true, Option.map_some]
      exact ⟨v0, rfl, h3⟩
    · have z' : ¬ nkT k0 = nkT k := by rw [h1, e]; exact fun y => z (Option.some.inj y)
      simp only [List.find?_cons, z, z', decide_false]
      exact ih
end
/-! ### dict(zip(t, u)) -/
def dcP (l : List (D × D)) : D := .dcT (l.map (·.1)) (l.map (·.2))
@[simp] def cDZ : FC
  | [.tup xs, .tup ys], M => if xs.length = ys.length ∧ (xs.all fun x => (nkT x).isSome) = true then some (.ok (dcP (dictP [] (xs.zip ys))) M) else none
  | _, _ => none
section
variable {X : Cx} {E : XK} {e1 e2 : Expr} {va : EvA} {p p2 pos pos2 : Pos}
/-- the entries that a zip of two tuples gives -/
theorem zipN {pins : List (Addr × Obj)} {σ : L2.St} {H : Hp} {s : Shared} {μ : Wd} (I : Inv X pins σ H s) : ∀ {vs ws : List V} {xs ys : List D} {us zs : List Value}, RVs X.kx μ H vs xs → RVs X.kx μ H ws ys → Vals vs us → Vals ws zs → xs.length = ys.length → (xs.all fun x => (nkT x).isSome) = true →
    ∃ (ps : List (NestedKey × Addr × V)) (qs : List (NestedKey × Addr × Value)), RN X.kx μ H ps (xs.zip ys) ∧ Fz.NEnt ps qs ∧ qs.length = us.length ∧ us.length = zs.length ∧
      (∀ (i : Nat) (k v : Value), us[i]? = some k → zs[i]? = some v → ∃ n c, qs[i]? = some (n, c, v) ∧ k = .ref c) ∧ ∀ x ∈ qs, NestedIs s.heap x.1 (.ref x.2.1) ∧ x.1.depth ≤ 8
  | _, _, _, _, _, _, .nil, .nil, .nil, .nil, _, _ => ⟨[], [], .nil, .nil, rfl, rfl, fun i k v e => (by simp at e), fun x hx => nomatch hx⟩
  | _, _, _, _, _, _, .nil, .cons _ _, _, _, l, _ => by simp at l
  | _, _, _, _, _, _, .cons _ _, .nil, _, _, l, _ => by simp at l
  | _, _, _, _, _, _, .cons (d := d) h t, .cons h' t', .cons (b := u) r1 r2, .cons (b := z) r1' r2', l, a => by
    simp only [List.all_cons, Bool.and_eq_true] at a
    obtain ⟨a1, a2⟩ := a
    obtain ⟨n, hn⟩ := Option.isSome_iff_exists.mp a1
    obtain ⟨⟨b, rfl⟩, g⟩ := nkT_is (b := 0) I h hn
    obtain rfl : u = Value.ref b := r1
    obtain ⟨ps, qs, k1, k2, k3, k4, k5, k6⟩ := zipN I t t' r2 r2' (by simpa using l) a2
    refine ⟨(n, b, _) :: ps, (n, b, z) :: qs, .cons hn h h' k1, .cons ⟨rfl, rfl, r1'⟩ k2, by simp [k3], by simp [k4], fun i k v e e' => ?_, fun x hx => ?_⟩
    · cases i with
      | zero => simp at e e'; subst e e'; exact ⟨n, b, rfl, rfl⟩
      | succ i => simp at e e'; simpa using k5 i k v e e'
    · rcases List.mem_cons.mp hx with y | y
      · subst y; exact g b rfl
      · exact k6 x y
theorem foldN {K : Fw} {μ : Wd} {H : Hp} : ∀ {ps : List (NestedKey × Addr × V)} {qs : List (NestedKey × Addr × Value)} {l : List (D × D)} {as : List (NestedKey × Addr × V)} {bs : List (NestedKey × Addr × Value)} {m : List (D × D)}, RN K μ H ps l → Fz.NEnt ps qs → RN K μ H as m → Fz.NEnt as bs →
    ∃ cs, RN K μ H cs (dictP m l) ∧ Fz.NEnt cs (storedAllH bs qs)
  | _, _, _, as, _, _, .nil, .nil, r, t => ⟨as, r, t⟩
  | _, _, _, _, _, _, .cons h1 h2 h3 k, .cons (b := q) g j, r, t => by
    obtain ⟨q1, q2, q3⟩ := q
    obtain ⟨g1, g2, g3⟩ := g
    simp only at g1 g2 g3
    subst g1 g2
    exact foldN (bs := storedH _ _ _ _) (m := putP _ _ _) k j (r.put h1 h2 h3) (Fz.NEnt.put t _ _ g3)
theorem storedAllH_le (ps : List (NestedKey × Addr × Value)) : (storedAllH [] ps).length ≤ ps.length := by
  have := storedAllH_length ps []
  simpa using this
theorem mv_dz (hc : X.calm = true) (hu : X.A.units + 16 < cLine) (hg : Gl X "dict") (hm : X.mg "dict" = none) (hg2 : Gl X "zip") (hm2 : X.mg "zip" = none) (ha : MA X E [e1, e2] va)
    (hs1 : starEach [e1, e2] X.env = (false, eval e1 X.env) :: starEach [e2] X.env := by rfl) (hpl1 : (backTo pos2 (starEach [e2] X.env)).any (·.1) = false := by rfl)
    (hs2 : starEach [.Call (.Name "zip" p2) [e1, e2] [] pos2] X.env = (false, eval (.Call (.Name "zip" p2) [e1, e2] [] pos2) X.env) :: starEach [] X.env := by rfl) (hpl2 : (backTo pos (starEach [] X.env)).any (·.1) = false := by rfl) :
    MV X E (.Call (.Name "dict" p) [.Call (.Name "zip" p2) [e1, e2] [] pos2] [] pos) (vCall cDZ va) := by
  refine ⟨fun pins s σ H Q I h => ?_⟩
  obtain ⟨μ, ρ, M, r, hs, hm0, e, q⟩ := h
  refine wpAny_Call_Name_kw (ld_blt I hg hm PyProof.Rows.boot_dict ?_ (by decide) (by decide))
  refine PyProof.Rows.callWith_type1 ?_ hs2 hpl2
  rw [hs2]
  show wpAny _ _ (spliced ((false, eval (.Call (.Name "zip" p2) [e1, e2] [] pos2) X.env) :: backTo pos (starEach [] X.env))) _ _ s
  refine Calls.spliced_cons (wpAny_Call_Name_kw (ld_blt I hg2 hm2 PyProof.Rows.boot_zip ?_ (by decide) (by decide)))
  refine PyProof.Rows.callWith_type1 ?_ hs1 hpl1
  refine thn (ha.run pos2 pins s σ H (fun xs H1 => ∃ μ1 as M1, Le μ H μ1 H1 ∧ RM X.kx μ1 H1 M1 ∧ RVs X.kx μ1 H1 xs as ∧ cDZ as M1 = some r ∧ OutE X.kx E μ1 H1 r Q) I
    (tr_bnd hs hm0 e q fun μ1 x H1 a M1 l hs1 hm1 rx e1 q1 => ⟨μ1, a, M1, l, hm1, rx, e1, q1⟩)) fun us s1 ⟨vs, H1, I1, r1, μ1, as, M1, l, hm1, rx, e1, q1⟩ => ?_
  unfold cDZ at e1
  split at e1
  · split at e1
    case isFalse => cases e1
    rename_i xs ys hcond
    cases e1
    obtain ⟨v1, v2, rfl, rx1, rx2⟩ := rx.two
    cases rx1 with | @tup a vs1 _ s1' k1 =>
    cases rx2 with | @tup b vs2 _ s2' k2 =>
    cases r1 with | cons z1 z2 =>
    cases z2 with | cons z2 z3 =>
    cases z3; cases z1; cases z2
    obtain ⟨ia, ra, pa, la⟩ := I1.tuple s1'
    obtain ⟨ib, rb, pb, lb⟩ := I1.tuple s2'
    obtain ⟨ps, qs, k3, k4, k5, k6, k7, k8⟩ := zipN I1 k1 k2 ra rb hcond.1 hcond.2
    have hmin : min ia.toArray.size ib.toArray.size = qs.length := by simp [k5, ← k6]
    have hlen : qs.length ≤ sizeLine := by rw [k5, ← ra.length]; exact la
    refine wpAny_mono (Fz.callDZ (A := X.A) (Q := EP X pins σ Q) (I1.ok.hd hc) hu (show s1.heap.IsTuple a ia.toArray from pa) (show s1.heap.IsTuple b ib.toArray from pb) hmin.symm (fun i k v e e' => k7 i k v (by simpa using e) (by simpa using e')) k8 (by rw [hmin]; exact hlen) fun h' tk hd hk => ?_) (fun z s2 h2 => ?_) fun _ _ x => x
    rotate_left
    · show wpAny _ _ (spliced []) _ _ _
      exact Calls.spliced_nil h2
    obtain ⟨cs, c1, c2⟩ := foldN k3 k4 (as := []) (bs := []) (m := []) .nil .nil
    have hfr : H1 (s1.heap.objs.size + 5) = none := I1.hok.fresh (Nat.le_add_right _ _)
    have hbig : ((s1.heap.objs.size + 5 : Nat) == sysModules) = false := beq_eq_false_iff_ne.mpr (Nat.ne_of_gt (Nat.lt_of_lt_of_le I1.big (Nat.le_add_right _ _)))
    have I2 := I1.laid (h' := h') (t' := tk) (a := s1.heap.objs.size + 5) (o := Fz.dN X.w (s1.heap.objs.size + 5) cs) hk (Nat.le_add_right _ _)
      (Fz.dN_ok (by rw [c2.length]; exact Nat.le_trans (storedAllH_le qs) hlen) hbig c2 hd)
    refine ⟨.ref (s1.heap.objs.size + 5), _, I2, rfl, ?_⟩
    obtain ⟨g1, g2, g3⟩ := c1.parts
    exact q1 μ1 _ _ (Le.new hfr) (hm1.new hfr) (.dcT (K := X.kx) upd_same (hm1.freshOut hfr) g1 (g2.le hm1 (Le.new hfr)) (g3.le hm1 (Le.new hfr)))
  · cases e1
/-! ### in, get -/
/-- a dict that nobody changes, as it stands -/
theorem dc_at {pins : List (Addr × Obj)} {σ : L2.St} {H : Hp} {s : Shared} {μ : Wd} (I : Inv X pins σ H s) {y : V} {ks ds : List D} (h : RV X.kx μ H y (.dcT ks ds)) :
    ∃ a us xs, y = .ref a ∧ RN X.kx μ H us (ks.zip ds) ∧ Fz.NEnt us xs ∧ s.heap.DictOfH (nestedKind X.prog X.w) a xs ∧ (a == sysModules) = false ∧ ∃ o, s.heap.get? a = some o ∧ o.dict = none := by
  cases h with | @dcT a us _ _ h n e k j =>
  have r := RN.of e k j
  have hk : ∀ u ∈ us, NestedIs s.heap u.1 (.ref u.2.1) ∧ u.1.depth ≤ 8 := by
    clear e k j n h
    generalize ks.zip ds = l at r
    induction r with
    | nil => intro u hu; cases hu
    | cons h1 h2 h3 t ih =>
      intro u hu
      rcases List.mem_cons.mp hu with z | z
      · subst z; exact (nkT_is (b := 0) I h2 h1).2 _ rfl
      · exact ih u z
  obtain ⟨h1, h2, xs, h3, h4⟩ := Fz.dN_of I.hok h hk
  obtain ⟨o, es, ep, g1, g2, _⟩ := id h4
  exact ⟨a, us, xs, rfl, r, h3, h4, h2, o, g1, g2.2.1⟩
/-- k in d, k not in d -/
def rInN (K : Fw) (neg : Bool) : R2 := fun x y H Q => ∃ μ a ks ds n, RV K μ H x a ∧ RV K μ H y (.dcT ks ds) ∧ nkT a = some n ∧ Q (.bl (neg != (findP (ks.zip ds) a).isSome)) H
theorem find_some {us : List (NestedKey × Addr × V)} {xs : List (NestedKey × Addr × Value)} {K : Fw} {μ : Wd} {H : Hp} {l : List (D × D)} {a : D} {n : NestedKey} (r : RN K μ H us l) (t : Fz.NEnt us xs) (e : nkT a = some n) : (atKey xs n).isSome = (findP l a).isSome := by
  have h1 := r.find e
  have h2 := t.val n
  cases q : findP l a with
  | some d =>
    rw [q] at h1
    obtain ⟨v, g, _⟩ := h1
    rw [g] at h2
    cases z : atKey xs n with
    | none => rw [z] at h2; exact h2.elim
    | some y => rfl
  | none =>
    rw [q] at h1
    have h1' : (us.find? fun u => decide (u.1 = n)).map (·.2.2) = none := h1
    rw [h1'] at h2
    cases z : atKey xs n with
    | none => rfl
    | some y => rw [z] at h2; exact h2.elim
theorem opr_inN (hu : X.A.units + 16 < cLine) : OpR X (compareOp .In) (rInN X.kx false) := fun pins s σ H x y v u Q I rx ry ⟨μ, a, ks, ds, n, ra, rd, hn, q⟩ => by
  obtain ⟨d, us, xs, rfl, r, t, dd, hs, _⟩ := dc_at I rd
  obtain ⟨⟨b, rfl⟩, g⟩ := nkT_is (b := 0) I ra hn
  obtain rfl : v = Value.ref b := rx
  obtain rfl : u = Value.ref d := ry
  refine wpAny_in_heap (knd := nestedKind X.prog X.w) (k := n) (xs := xs) ?_ (g b rfl) hs dd ⟨.bl _, H, I.tok _, rfl, ?_⟩
  · show X.A.in1.units + 8 < cLine
    have : X.A.in1.units = X.A.units + 1 := rfl
    omega
  · rw [find_some r t hn]
    simpa using q
@[simp] def fInN : F2 := fun a b M => match b with
  | .dcT ks ds => if (nkT a).isSome = true then some (.ok (.bl (findP (ks.zip ds) a).isSome) M) else none
  | _ => none
@[simp] def fNotInN : F2 := fun a b M => match b with
  | .dcT ks ds => if (nkT a).isSome = true then some (.ok (.bl (!(findP (ks.zip ds) a).isSome)) M) else none
  | _ => none
theorem sim_inN {K : Fw} : Sim2 K E (rInN K false) fInN := fun μ H M x y a b res Q hm rx ry e q => by
  unfold fInN at e
  split at e
  · split at e
    case isFalse => cases e
    rename_i ks ds hc
    obtain ⟨n, hn⟩ := Option.isSome_iff_exists.mp hc
    cases e
    exact ⟨μ, a, ks, ds, n, rx, ry, hn, by simpa using q μ (.bl _) H Le.refl hm (.bl _)⟩
  · cases e
/-- k not in d -/
theorem opr_notInN (hu : X.A.units + 16 < cLine) : OpR X (compareOp .NotIn) (rInN X.kx true) := fun pins s σ H x y v u Q I rx ry ⟨μ, a, ks, ds, n, ra, rd, hn, q⟩ => by
  obtain ⟨d, us, xs, rfl, r, t, dd, hs, _⟩ := dc_at I rd
  obtain ⟨⟨b, rfl⟩, g⟩ := nkT_is (b := 0) I ra hn
  obtain rfl : v = Value.ref b := rx
  obtain rfl : u = Value.ref d := ry
  refine PyProof.Rows.wpAny_notIn_heap (knd := nestedKind X.prog X.w) (k := n) (xs := xs) ?_ (g b rfl) hs dd ⟨.bl _, H, I.tok _, rfl, ?_⟩
  · show X.A.in1.units + 8 < cLine
    have : X.A.in1.units = X.A.units + 1 := rfl
    omega
  · rw [find_some r t hn]
    simpa using q
theorem sim_notInN {K : Fw} : Sim2 K E (rInN K true) fNotInN := fun μ H M x y a b res Q hm rx ry e q => by
  unfold fNotInN at e
  split at e
  · split at e
    case isFalse => cases e
    rename_i ks ds hc
    obtain ⟨n, hn⟩ := Option.isSome_iff_exists.mp hc
    cases e
    exact ⟨μ, a, ks, ds, n, rx, ry, hn, by simpa using q μ (.bl _) H Le.refl hm (.bl _)⟩
  · cases e
/-- d.get(k, x) -/
@[simp] def vGetN (vo vk vx : Ev) : Ev := fun ρ M => bnd (vo ρ M) fun o M1 => match o with
  | .dcT ks ds => bnd (vk ρ M1) fun k M2 => bnd (vx ρ M2) fun x M3 => if (nkT k).isSome = true then some (.ok ((findP (ks.zip ds) k).getD x) M3) else none
  | _ => none
theorem mv_getN {o e f : Expr} {vo vk vx : Ev} {apos cpos : Pos} (hu : X.A.units + 16 < cLine) (ho : MV X E o vo) (he : MV X E e vk) (hf : MV X E f vx) (m : M2 X o "get" apos e f cpos) : MV X E (.Call (.Attribute o "get" apos) [e, f] [] cpos) (vGetN vo vk vx) := by
  refine ⟨fun pins s σ H Q I h => ?_⟩
  obtain ⟨μ, ρ, M, r, hs, hm0, e0, q⟩ := h
  refine wpAny_Call_method m.base m.few m.line PySem.F.plainAttrs_dict PySem.F.slot_dict_get PySem.F.type_dict_get (thn (ho.run pins s σ H (fun x H1 => ∃ μ1 ks ds M1, Le μ H μ1 H1 ∧ RS X.kx μ1 H1 σ ρ ∧ RM X.kx μ1 H1 M1 ∧ RV X.kx μ1 H1 x (.dcT ks ds) ∧
      (bnd (vk ρ M1) fun k M2 => bnd (vx ρ M2) fun x M3 => if (nkT k).isSome = true then some (.ok ((findP (ks.zip ds) k).getD x) M3) else none) = some r ∧ OutE X.kx E μ1 H1 r Q) I ?_) fun u s1 ⟨x, H1, I1, rx, μ1, ks, ds, M1, l1, hs1, hm1, rd, e1, q1⟩ => ?_)
  · refine tr_bnd hs hm0 e0 q fun μ1 x H1 a M1 l hs1 hm1 rx e1 q1 => ?_
    split at e1
    · exact ⟨μ1, _, _, M1, l, hs1, hm1, rx, e1, q1⟩
    · cases e1
  obtain ⟨d, us, xs, rfl, r1, t1, dd, hsy, od, ho1, ho2⟩ := dc_at I1 rd
  obtain rfl : u = Value.ref d := rx
  refine ⟨dd.typeIs, fun b z => (by cases z; exact ⟨od, ho1, ho2⟩), ?_⟩
  rw [m.trees]
  refine Calls.callWith_builtin rfl (Calls.evalArgs_plain (Calls.spliced_cons (thn (he.run pins s1 σ H1 (fun x H2 => ∃ μ2 k M2, RS X.kx μ2 H2 σ ρ ∧ RM X.kx μ2 H2 M2 ∧ RV X.kx μ2 H2 (.ref d) (.dcT ks ds) ∧ RV X.kx μ2 H2 x k ∧
      (bnd (vx ρ M2) fun x M3 => if (nkT k).isSome = true then some (.ok ((findP (ks.zip ds) k).getD x) M3) else none) = some r ∧ OutE X.kx E μ2 H2 r Q) I1 (tr_bnd hs1 hm1 e1 q1 fun μ2 x H2 a M2 l hs2 hm2 rx e2 q2 => ⟨μ2, a, M2, hs2, hm2, rd.le hm1 l, rx, e2, q2⟩)) fun iv s2 ⟨y, H2, I2, ry, μ2, k, M2, hs2, hm2, rd2, rk, e2, q2⟩ =>
    Calls.spliced_cons (thn (hf.run pins s2 σ H2 (fun x H3 => ∃ μ3 a M3, RM X.kx μ3 H3 M3 ∧ RV X.kx μ3 H3 (.ref d) (.dcT ks ds) ∧ RV X.kx μ3 H3 y k ∧ RV X.kx μ3 H3 x a ∧
      (if (nkT k).isSome = true then some (.ok ((findP (ks.zip ds) k).getD a) M3) else none) = some r ∧ OutE X.kx E μ3 H3 r Q) I2 (tr_bnd hs2 hm2 e2 q2 fun μ3 x H3 a M3 l hs3 hm3 rx e3 q3 => ⟨μ3, a, M3, hm3, rd2.le hm2 l, rk.le hm2 l, rx, e3, q3⟩)) fun fv s3 ⟨z, H3, I3, rz, μ3, a, M3, hm3, rd3, rk3, ra, e3, q3⟩ => Calls.spliced_nil ?_))))
  split at e3
  case isFalse => cases e3
  rename_i hc
  obtain ⟨n, hn⟩ := Option.isSome_iff_exists.mp hc
  cases e3
  obtain ⟨d', us3, xs3, ed, r3, t3, dd3, hs3, _⟩ := dc_at I3 rd3
  cases ed
  obtain ⟨⟨b, rfl⟩, g⟩ := nkT_is (b := 0) I3 rk3 hn
  obtain rfl : iv = Value.ref b := ry
  refine call_meetsIn PySem.F.slot_dict_get dd3.typeIs PySem.F.entry_dict_get (PySem.F.args_dict_get_3 _ _ _) (meetsH_dict_get_default (nestedKind X.prog X.w) d b hs3 fv) ⟨?_, n, xs3, g b rfl, dd3, ?_⟩
  · show X.A.in1.units + 8 < cLine
    have : X.A.in1.units = X.A.units + 1 := rfl
    omega
  have h1 := r3.find hn
  have h2 := t3.val n
  cases w1 : findP (ks.zip ds) k with
  | some dv =>
    rw [w1] at h1 q3
    obtain ⟨v, g1, g2⟩ := h1
    rw [g1] at h2
    cases w2 : (atKey xs3 n).map (·.2) with
    | none => rw [w2] at h2; exact h2.elim
    | some y =>
      rw [w2] at h2
      exact ⟨v, H3, I3.tok _, h2, q3 μ3 v H3 Le.refl hm3 g2⟩
  | none =>
    rw [w1] at h1 q3
    have h1' : (us3.find? fun u => decide (u.1 = n)).map (·.2.2) = none := h1
    rw [h1'] at h2
    cases w2 : (atKey xs3 n).map (·.2) with
    | some y => rw [w2] at h2; exact h2.elim
    | none => exact ⟨z, H3, I3.tok _, rz, q3 μ3 z H3 Le.refl hm3 ra⟩
end
end Mi
set_option autoImplicit false
/-! Defs whose last parameter takes what is left over. -/
namespace Mi
open PySem PySem.Spec L2
theorem units16 {k : Nat} {A : Around} (r : Room k A) : A.units + 16 < cLine := by
  have := units65 r
  omega
/-- some values, then a tuple of the others -/
@[simp] def gStar (n : Nat) (g : FC) : FC := fun ds M => if n ≤ ds.length ∧ (ds.drop n).length ≤ sizeLine then g (ds.take n ++ [.tup (ds.drop n)]) M else none
def spS (K : Fw) (g : FC) : Sp := fun vs H Q E => ∃ μ M ds r, RVs K μ H vs ds ∧ RM K μ H M ∧ g ds M = some r ∧ OutE K E μ H r Q
abbrev OkS (P : Program) (w : World) (K : PySem.W.Frag) (mg : Str → Option Value) (base : Heap) (k : Nat) (f : Addr) (g : FC) : Prop := FnR P w K mg base (L2.CX P w) k f (spS ⟨K, w⟩ g)
/-- how a def with a star binds -/
def StB (fd : FuncData) (ps : List Str) (pv : Str) : Prop := ∀ us rest : List Value, us.length = ps.length → bindArgs fd ⟨us ++ rest, []⟩ = (newTuple rest >>= fun t => pure (ps.zip us ++ [(pv, t)]))
structure AtS (K : PySem.W.Frag) (mg : Str → Option Value) (x : Str) (f : Addr) (fd : FuncData) (ps : List Str) (pv : Str) : Prop where
  g : mg x = some (.ref f)
  k : PySem.W.keepIn K (.ref f) = true
  b : StB fd ps pv
theorem stB_of {K : PySem.W.Frag} {x qual : Str} {st : Stmt} {f : Addr} {fd : FuncData} {ps : List Str} {pv : Str} (F : Fun K x qual st f fd)
    (h : ∀ (kV doc pm : Value) (an : Option Addr) (cdv ct : Value) (us rest : List Value), us.length = ps.length → bindArgs (PySem.W.fnOf x qual (defArgs st) (defBody st) (defScope st) .none kV doc pm an cdv ct) ⟨us ++ rest, []⟩ = (newTuple rest >>= fun t => pure (ps.zip us ++ [(pv, t)]))) : StB fd ps pv := by
  obtain ⟨oc, od, kV, doc, pm, an, cdv, ct, osl, rfl, lk, hcd⟩ := F.ex
  exact h kV doc pm an cdv ct
section
variable {P : Program} {w : World} {K : PySem.W.Frag} {mg : Str → Option Value} {base : Heap}
theorem RVs.split {K : Fw} {μ : Wd} {H : Hp} : ∀ {vs : List V} {ds : List D} (n : Nat), RVs K μ H vs ds → RVs K μ H (vs.take n) (ds.take n) ∧ RVs K μ H (vs.drop n) (ds.drop n) := fun n h => ⟨h.take n, h.drop n⟩
theorem okS {x qual : Str} {st : Stmt} {f : Addr} {fd : FuncData} {N ps : List Str} {pv : Str} {k : Nat} {b : Sv} (F : Fun K x qual st f fd) (S : FnScope N (ps ++ [pv]) (defScope st)) (B : StB fd ps pv)
    (hb : ∀ (cdv : Value) (A : Around) (outer : List Env) (s : Shared) (H : Hp) (E : XK), Room k (A.deeper (PyProof.Rows.envOfC qual (defScope st) s.heap.objs.size f cdv)) → MSs (cxOf (L2.CX P w) P w K mg base N qual (defScope st) f cdv A outer s H E) E (defBody st) b) :
    OkS P w K mg base (k + 1) f (gStar ps.length (runB N.length b)) := by
  obtain ⟨oc, od, kV, doc, pm, an, cdv, ct, osl, rfl, lk, hcd⟩ := F.ex
  refine FnR.imp (StX.fn_star (sp := spM ⟨K, w⟩ (ps.length + 1) (runB N.length b)) (pv := pv) lk hcd S StX.cxUp B fun A outer s H vs Q E hr h => ?_) fun vs H Q E h => ?_
  · obtain ⟨hl, μ, M, ds, r, rv, hm, e, q⟩ := h
    refine ⟨_, hb cdv A outer s H E hr, ?_⟩
    unfold runB at e
    cases h : b (ds.map some ++ List.replicate (N.length - ds.length) none) M with
    | none => rw [h] at e; cases e
    | some r1 =>
      refine ⟨μ, _, M, r1, rs_start N rv, hm, h, ?_⟩
      rw [h] at e
      cases r1 with
      | nx ρ M1 => cases e; exact fun μ' σ' H' l m' s' => q μ' .non H' l m' .non
      | rt d M1 => cases e; exact q
      | er x M1 => cases e; exact q
      | bk ρ M1 => cases e
      | ct ρ M1 => cases e
  · obtain ⟨μ, M, ds, r, rv, hm, e, q⟩ := h
    unfold gStar at e
    split at e
    case isFalse => cases e
    rename_i hc
    refine ⟨vs.take ps.length, vs.drop ps.length, (List.take_append_drop _ _).symm, by rw [List.length_take, rv.length]; omega, ?_, fun p hp => ⟨by rw [List.length_append, List.length_take, rv.length]; simp; omega, μ, M, _, r, ?_, hm.new hp, e, ?_⟩⟩
    · rw [List.length_drop, rv.length, ← List.length_drop]; exact hc.2
    · exact ((rv.take _).le hm (Le.new hp)).append (.cons (.tup (.inl (.inl upd_same)) ((rv.drop _).le hm (Le.new hp))) .nil)
    · cases r with
      | ok d M' => exact fun μ' y H' l' m' ry => q μ' y H' ((Le.new hp).trans l') m' ry
      | err z M' => exact fun μ' H' C d l' m' rz => q μ' H' C d ((Le.new hp).trans l') m' rz
end
section
variable {X : Cx} {E : XK} {e : Expr} {es : List Expr} {k : Nat} {f : Addr} {g : FC} {x : Str} {p pos : Pos} {vs : EvA}
theorem mv_fnS (F : OkS X.prog X.w X.K X.mg X.base k f g) (hr : Room k X.A) (hg : Gl X x) (hm : X.mg x = some (.ref f)) (hk : PySem.W.keepIn X.K (.ref f) = true) (hx : Passes (L2.CX X.prog X.w) X E)
    (ha : MA X E (e :: es) vs) (hdb : (x == ("__debug__" : Str)) = false := by decide) (he : starEach (e :: es) X.env = (false, eval e X.env) :: starEach es X.env := by rfl) (hpl : (backTo pos (starEach es X.env)).any (·.1) = false := by rfl) :
    MV X E (.Call (.Name x p) (e :: es) [] pos) (vCall g vs) := by
  refine ⟨fun pins s σ H Q I h => ?_⟩
  obtain ⟨μ, ρ, M, r, hs, hm0, e0, q⟩ := h
  refine wpAny_Call_Name_kw (ld_glob I hg hm ?_ hdb)
  refine PySem.W.callWith_K (h₀ := X.base) I.ok.mod.kin hk (thn (ha.run pos pins s σ H (fun xs H1 => spS X.kx g xs H1 Q E) I (tr_bnd hs hm0 e0 q fun μ1 x H1 a M1 l hs1 hm1 rx e1 q1 => ⟨μ1, M1, a, r, rx, hm1, e1, q1⟩)) fun us s1 ⟨vs, H1, I1, r, q⟩ => ⟨I1.kIn, ?_⟩) he hpl
  exact wpAny_call (run_fnR F hr hx I1 r q)
theorem mv_fnS0 (F : OkS X.prog X.w X.K X.mg X.base k f g) (hr : Room k X.A) (hg : Gl X x) (hm : X.mg x = some (.ref f)) (hk : PySem.W.keepIn X.K (.ref f) = true) (hx : Passes (L2.CX X.prog X.w) X E)
    (hdb : (x == ("__debug__" : Str)) = false := by decide) : MV X E (.Call (.Name x p) [] [] pos) (vCall g vNil) := by
  refine ⟨fun pins s σ H Q I h => ?_⟩
  obtain ⟨μ, ρ, M, r, hs, hm0, e0, q⟩ := h
  refine wpAny_Call_Name_kw (ld_glob I hg hm ?_ hdb)
  exact PySem.W.callWith_K0 I.kIn hk (wpAny_call (run_fnR (us := []) (vs := []) F hr hx I .nil ⟨μ, M, [], r, .nil, hm0, e0, q⟩))
/-- x(*y) -/
@[simp] def vStar (g : FC) (v : Ev) : Ev := fun ρ M => bnd (v ρ M) fun d M1 => match itemsM M1 d with
  | some (_, xs) => g xs M1
  | none => none
theorem mv_fnStar {sp_ : Pos} {ve : Ev} (F : OkS X.prog X.w X.K X.mg X.base k f g) (hr : Room k X.A) (hg : Gl X x) (hm : X.mg x = some (.ref f)) (hk : PySem.W.keepIn X.K (.ref f) = true) (hx : Passes (L2.CX X.prog X.w) X E)
    (he : MV X E e ve) (hdb : (x == ("__debug__" : Str)) = false := by decide) (hst : starEach [.Starred e sp_] X.env = [(true, eval e X.env)] := by rfl) : MV X E (.Call (.Name x p) [.Starred e sp_] [] pos) (vStar g ve) :=
  PE.imp (StX.pe_callS1 F hr hk hg hm hx he hdb hst) fun σ H Q ⟨μ, ρ, M, r, hs, hm, e, q⟩ => tr_bnd hs hm e q fun μ1 y H1 d M1 l hs1 hm1 rx e1 q1 => by
    split at e1
    · rename_i b xs hi
      obtain ⟨a, vs, rfl, rv, sq⟩ := rx.items hm1 hi
      refine ⟨a, vs, rfl, ?_, μ1, M1, xs, _, rv, hm1, e1, q1⟩
      cases b with
      | true => exact .inr sq
      | false => exact .inl sq
    · cases e1
end
end Mi
/-! a |= b of own objects: by __ior__, or by __or__ without one. -/
namespace Fh
open PySem PySem.Spec PyProof.Rows L2 PySem.W
/-- no class above C has the method in place -/
def noI (K : Frag) (C : Addr) (nm : String) : Bool := (clsIn K C).any fun cd => cd.mro.all fun c => findIn K c (dunderI nm) == some none
section
variable {prog : Program} {w : World} {A : Around} {E : Value → Shared → Prop} {s : Shared} {K : Frag} {x C f : Addr} {ox : Obj} {od : Option Obj}
theorem anyM_no {M : Model} {h : Heap} {g : Value → Sem Bool} : ∀ {l : List Value}, (∀ c ∈ l, Looks M h (g c) false) → Looks M h (l.anyM g) false
  | [], _ => fun A Q E s k q => wpAny_pure q
  | c :: l, hl => fun A Q E s k q => by
    rw [List.anyM_cons]
    refine wpAny_bind (hl c List.mem_cons_self A _ E s k ?_)
    simp only [Bool.false_eq_true, if_false]
    exact anyM_no (fun d hd => hl d (List.mem_cons_of_mem _ hd)) A Q E s k q
theorem fillsI_none {M : Model} {h : Heap} {nm : String} {add : Bool} (X : K.In h) (hn : noI K C nm = true) : Looks M h (fillsInplaceSlot (.ref C) nm add) false := by
  obtain ⟨cd, hcd, ha⟩ := any_some hn
  intro A Q E s k q
  unfold fillsInplaceSlot
  refine wpAny_bind ((looks_clsIn X hcd).andThen (f := fun cd => pure cd.mro) .now A _ E s k ?_)
  refine anyM_no (h := h) (fun c hc => ?_) A Q E s k q
  have e : findIn K c (dunderI nm) = some none := beq_iff_eq.mp (List.all_eq_true.mp ha c hc)
  intro A Q E s k q
  refine wpAny_bind (looks_findIn X e A _ E s k ?_)
  exact wpAny_pure q
/-- a op= b, both of the class at C, which has no method in place -/
theorem ibin_same {op : Operator} {b : Value} {Q : Value → Shared → Prop} (X : K.In s.heap) (I : InstAt s.heap x ox C od) (hb : Looks (model prog w) s.heap (typeOf b) (.ref C)) (hc : selfFirst K C = true) (hn : noI K C op.info.2 = true)
    (hs : findIn K (.ref C) (PySem.dunder op.info.2) = some (some (.ref f))) (hf : isFn K (.ref f) = true)
    (h : wpAny (model prog w) A (call (.ref f) [.ref x, b]) (NotNI Q) E s) : wpAny (model prog w) A (inplaceOp op (.ref x) b) Q E s := by
  obtain ⟨cd, rest, hcd, hm⟩ := ksp_first hc
  have one := try_own X I hs hf h
  unfold inplaceOp
  refine wpAny_holding (wpAny_bind (I.type.here (wpAny_bind ((fillsI_none X hn).here ?_))))
  simp only [Bool.false_eq_true, if_false]
  refine wpAny_bind ?_
  unfold binaryOp1
  refine wpAny_bind (I.type.here (wpAny_bind (hb.here (wpAny_bind ((fills_K X hcd hm hs).here ?_)))))
  simp only [beq_self_eq_true, if_true]
  refine wpAny_bind (wpAny_pure ?_)
  simp only [Bool.and_false, Bool.false_eq_true, if_false, Bool.false_and]
  refine wpAny_bind (wpAny_pure ?_)
  simp only [Bool.false_eq_true, if_false]
  refine wpAny_bind (m := tryMethod (.ref x) _ b) (wpAny_mono one (fun r s' hr => ?_) fun _ _ e => e)
  obtain ⟨v, rfl, q⟩ := hr
  exact wpAny_pure (wpAny_pure q)
/-- a op= b by a's own method in place -/
theorem ibin_own {op : Operator} {b : Value} {Q : Value → Shared → Prop} (X : K.In s.heap) (I : InstAt s.heap x ox C od) (hc : selfFirst K C = true)
    (hs : findIn K (.ref C) (dunderI op.info.2) = some (some (.ref f))) (hf : isFn K (.ref f) = true)
    (h : wpAny (model prog w) A (call (.ref f) [.ref x, b]) (NotNI Q) E s) : wpAny (model prog w) A (inplaceOp op (.ref x) b) Q E s := by
  obtain ⟨cd, rest, hcd, hm⟩ := ksp_first hc
  have one := try_own X I hs hf h
  unfold inplaceOp
  refine wpAny_holding (wpAny_bind (I.type.here (wpAny_bind ((ksp_fillsI X hcd hm hs).here ?_))))
  simp only [if_true]
  refine wpAny_bind (m := tryMethod (.ref x) _ b) (wpAny_mono one (fun r s' hr => ?_) fun _ _ e => e)
  obtain ⟨v, rfl, q⟩ := hr
  exact wpAny_bind (wpAny_rule (wpAny_pure q))
end
section
variable {X : Cx} {CX : CXT} {k : Nat} {f C : Addr} {fd : FuncData} {ps : List Str} {sp : Sp} {E : XK}
theorem op_iown {op : Operator} (hc : selfFirst X.K C = true) (hn : noI X.K C op.info.2 = true) (hm : Meth X.K C (PySem.dunder op.info.2) f) (F : FnOk X.prog X.w X.K X.mg X.base CX k f fd ps sp) (hr : Room k X.A) (hb : Binds X.K fd ps []) (hx : Passes CX X E) :
    OpR X (inplaceOp op) (rBin C sp E) := by
  intro pins s σ H x y v u Q I rx ry h
  obtain ⟨a, b, dx, fs, dy, gs, rfl, rfl, ea, eb, q⟩ := h
  obtain rfl : v = Value.ref a := rx
  obtain rfl : u = Value.ref b := ry
  obtain ⟨od, J⟩ := inst_at I ea
  obtain ⟨od2, J2⟩ := inst_at I eb
  refine ibin_same I.kIn J J2.type hc hn hm.at_ hm.fn (wpAny_mono (run_fn (us := [.ref a, .ref b]) (vs := [.ref a, .ref b]) F hr hb .nil hx I (.cons rfl (.cons rfl .nil)) q) (fun r s' hr => ⟨?_, hr⟩) fun _ _ z => z)
  obtain ⟨v, H', _, rv, _⟩ := hr
  exact relV_not rv
/-- x op= y, x an instance of C with a method in place -/
def rIn (C : Addr) (sp : Sp) (E : XK) : R2 := fun x y H Q => ∃ a dx fs, x = .ref a ∧ H a = some (.ins C dx fs) ∧ sp [x, y] H Q E
theorem op_in {op : Operator} (hc : selfFirst X.K C = true) (hm : Meth X.K C (dunderI op.info.2) f) (F : FnOk X.prog X.w X.K X.mg X.base CX k f fd ps sp) (hr : Room k X.A) (hb : Binds X.K fd ps []) (hx : Passes CX X E) :
    OpR X (inplaceOp op) (rIn C sp E) := by
  intro pins s σ H x y v u Q I rx ry h
  obtain ⟨a, dx, fs, rfl, ea, q⟩ := h
  obtain rfl : v = Value.ref a := rx
  obtain ⟨od, J⟩ := inst_at I ea
  refine ibin_own I.kIn J hc hm.at_ hm.fn (wpAny_mono (run_fn (us := [.ref a, u]) (vs := [.ref a, y]) F hr hb .nil hx I (.cons rfl (.cons ry .nil)) q) (fun r s' hr => ⟨?_, hr⟩) fun _ _ z => z)
  obtain ⟨v, H', _, rv, _⟩ := hr
  exact relV_not rv
end
end Fh
set_option autoImplicit false
/-! == of an own object and anything. -/
namespace Mi
open PySem PySem.Spec L2 PySem.W
section
variable {X : Cx} {CX : CXT} {k : Nat} {f C : Addr} {fd : FuncData} {ps : List Str} {sp : Sp} {E : XK}
/-- x == y, x an instance of C, y of a type that is no class above it -/
def rOwnX (K : PySem.W.Frag) (C : Addr) (sp : Sp) (E : XK) (g : Bool → Bool) : R2 := fun x y H Q => ∃ a dx fs t, x = .ref a ∧ H a = some (.ins C dx fs) ∧ TyX K H y t ∧ notFirst K C t = true ∧ sp [x, y] H (fun r H' => ∃ c, r = .bl c ∧ Q (.bl (g c)) H') E
theorem op_eqX (hm : Meth X.K C "__eq__" f) (F : FnOk X.prog X.w X.K X.mg X.base CX k f fd ps sp) (hr : Room k X.A) (hb : Binds X.K fd ps []) (hx : Passes CX X E) : OpR X (compareOp .Eq) (rOwnX X.K C sp E id) := by
  intro pins s σ H x y v u Q I rx ry h
  obtain ⟨a, dx, fs, t, rfl, ea, ty, hn, q⟩ := h
  obtain rfl : v = Value.ref a := rx
  obtain ⟨od, J⟩ := Fh.inst_at I ea
  obtain ⟨P, KX, hP, _⟩ := kit_of I ry ty
  refine Fh.eq_own hr.units0 I.kIn J (KX.ty _ _ I.kIn hP) hn hm.at_ hm.fn (wpAny_mono (run_fn (us := [.ref a, u]) (vs := [.ref a, y]) F hr hb .nil hx I (.cons rfl (.cons ry .nil)) q) (fun r s' hq => ?_) fun _ _ z => z)
  obtain ⟨r0, H', I', rv, c, e, hR⟩ := hq
  subst e
  obtain rfl : r = Value.bool c := rv
  exact ⟨c, rfl, .bl c, H', I', rfl, hR⟩
theorem op_neX (hm : Meth X.K C "__eq__" f) (hN : findIn X.K (.ref C) "__ne__" = some (some (.builtin "object.__ne__"))) (hO : mroIn X.K C (.type "object") = some true) (F : FnOk X.prog X.w X.K X.mg X.base CX k f fd ps sp) (hr : Room (k + 1) X.A) (hb : Binds X.K fd ps []) (hx : Passes CX X E) : OpR X (compareOp .NotEq) (rOwnX X.K C sp E (!·)) := by
  intro pins s σ H x y v u Q I rx ry h
  obtain ⟨a, dx, fs, t, rfl, ea, ty, hn, q⟩ := h
  obtain rfl : v = Value.ref a := rx
  obtain ⟨od, J⟩ := Fh.inst_at I ea
  obtain ⟨P, KX, hP, _⟩ := kit_of I ry ty
  refine Fh.ne_own (by have := hr.un; omega) I.kIn J (KX.ty _ _ I.kIn hP) hn hO hN hm.at_ hm.fn (wpAny_mono (Fh.run_in (A := X.A.in1) (us := [.ref a, u]) (vs := [.ref a, y]) F hr.in1 (fun z => z.in1) hb hx I (.cons rfl (.cons ry .nil)) q) (fun r s' hq => ?_) fun _ _ z => z)
  obtain ⟨r0, H', I', rv, c, e, hR⟩ := hq
  subst e
  obtain rfl : r = Value.bool c := rv
  exact ⟨c, rfl, .bl (!c), H', I', rfl, hR⟩
end
section
variable {X : Cx} {E : XK} {C : Str} {g : FC} {ps : List Str}
/-- what may stand on the right of an own == -/
def nfL : List String := ["NoneType", "bool", "int", "str", "tuple", "list"]
@[simp] def nfT (C : Str) : Ty → Bool
  | .b n => decide (n ∈ nfL)
  | .c C' => decide (C' = C)
@[simp] def fEqX (C : Str) (g : FC) (k : Bool → Bool) : F2 := fun a b M => match insM M a, tyD M b with
  | some (C1, _), some t => if C1 = C ∧ nfT C t = true then bndB (g [a, b] M) k else none
  | _, _ => none
theorem ty_of {K : Fw} {cs : List Str} {μ : Wd} {H : Hp} {M : Mem} (hcs : ∀ C ∈ cs, IsT K (cad K C)) (hm : RM K μ H M) {x : V} {d : D} {t : Ty} (r1 : RV K μ H x d) (e : tyD M d = some t) (ht : ∀ C, t = .c C → C ∈ cs) : TyX K H x (t.val K) := by
  classical
  have key : isiM cs (fun t' => if t' = t then some true else none) M d = some true := by
    unfold isiM
    rw [e]
    cases t with
    | b n => simp
    | c C => simp [ht C rfl]
  obtain ⟨t', h1, h2⟩ := isi_ty hcs hm r1 key
  split at h2
  · rename_i h3; rw [← h3]; exact h1
  · cases h2
theorem sim_eqX {kk : Bool → Bool} (hl : ps.length = 2) (hi : IsT X.K (cad X.K C)) (hn : ∀ n ∈ nfL, PySem.W.notFirst X.K (cad X.K C) (.type n) = true) : Sim2 X.kx E (rOwnX X.K (cad X.K C) (spM X.kx ps.length g) E kk) (fEqX C g kk) := fun μ H M x y a b res Q hm rx ry e q => by
  unfold fEqX at e
  split at e
  · rename_i C1 fs1 t h1 h2
    split at e
    · rename_i hC
      obtain ⟨rfl, ht⟩ := hC
      obtain ⟨p1, dx1, gs1, rfl, e1, _⟩ := rx.insM hm h1
      obtain ⟨r, e3, q2⟩ := out_bl e q
      have ty : TyX X.K H y (t.val X.K) := ty_of (K := X.kx) (cs := [C1]) (fun C hC => by rw [List.mem_singleton.mp hC]; exact hi) hm ry h2 (fun C' e' => by
        subst e'
        rw [of_decide_eq_true ht]
        exact List.mem_cons_self)
      have nf : PySem.W.notFirst X.K (cad X.K C1) (t.val X.K) = true := by
        cases t with
        | b n => exact hn n (of_decide_eq_true ht)
        | c C' =>
          have : C' = C1 := of_decide_eq_true ht
          subst this
          simp [PySem.W.notFirst, Ty.val]
      exact ⟨p1, dx1, gs1, _, rfl, e1, ty, nf, by rw [hl]; rfl, μ, M, [a, b], r, .cons rx (.cons ry .nil), hm, e3, q2⟩
    · cases e
  · cases e
end
/-! ### a |= b by the method in place -/
section
variable {X : Cx} {E : XK} {C : Str} {g : FC} {ps : List Str}
@[simp] def fInp (C : Str) (g : FC) : F2 := fun a b M => match insM M a with
  | some (C1, _) => if C1 = C then g [a, b] M else none
  | none => none
theorem sim_inp (hl : ps.length = 2) : Sim2 X.kx E (Fh.rIn (cad X.K C) (spM X.kx ps.length g) E) (fInp C g) := fun μ H M x y a b res Q hm rx ry e q => by
  unfold fInp at e
  split at e
  · rename_i C1 fs1 h1
    split at e
    · rename_i hC
      subst hC
      obtain ⟨p1, dx1, gs1, rfl, e1, _⟩ := rx.insM hm h1
      exact ⟨p1, dx1, gs1, rfl, e1, by rw [hl]; rfl, μ, M, [a, b], res, .cons rx (.cons ry .nil), hm, e, q⟩
    · cases e
  · cases e
end
/-! ### unpacking a list -/
section
variable {X : Cx} {E : XK} {pos : Pos}
theorem PG.or {tg : Expr} {t t' : TG} (h : PG X tg t) (h' : PG X tg t') : PG X tg (fun v σ H Q => t v σ H Q ∨ t' v σ H Q) := ⟨fun pins s σ H v u Q I r q => q.elim (h.run pins s σ H v u Q I r) (h'.run pins s σ H v u Q I r)⟩
/-- (a, b, ..) = a tuple or a list -/
@[simp] def gU (n : Nat) (gs : Gvs) : Gv := fun d ρ M => match itemsM M d with
  | some (_, xs) => if xs.length = n then gs xs ρ M else none
  | none => none
theorem mg_unp {es : List Expr} {k : Nat} {gs : Gvs} {n : Nat} (hc : X.calm = true) (h : MGs X E es gs) (hn : (assignEach es X.env).length = n := by rfl) (hst : (assignEach es X.env).findIdx? (·.1) = none := by rfl) : MG X E (.Tuple es k pos) (gU n gs) :=
  PG.imp (PG.or (pg_tup hc h hn hst) (pg_unl hc h hn hst)) fun v σ H Q ⟨μ, ρ, M, d, r, hs, hm, rv, e, q⟩ => by
    unfold gU at e
    split at e
    · rename_i b xs hi
      split at e
      · rename_i hl
        obtain ⟨a, vs, rfl, k1, sq⟩ := rv.items hm hi
        cases b with
        | true => exact .inr ⟨a, vs, rfl, sq, by rw [k1.length]; exact hl, μ, ρ, M, _, r, hs, hm, k1, e, q⟩
        | false => exact .inl ⟨a, vs, rfl, sq, by rw [k1.length]; exact hl, μ, ρ, M, _, r, hs, hm, k1, e, q⟩
      · cases e
    · cases e
end
/-! ### comprehensions over what may change -/
abbrev Stp := Nat → Mem → Option (Option D)
def StOk (K : Fw) (J : It) (μ0 : Wd) (H0 : Hp) (st : Stp) : Prop := ∀ μ H M, Lq μ0 H0 μ H → RM K μ H M → ∀ i,
  (∀ d, st i M = some (some d) → J.go i H ∧ ∀ x H', J.yld i H x H' → Le μ H μ H' ∧ RM K μ H' M ∧ RV K μ H' x d) ∧ (st i M = some none → J.stop i H)
def compG (st : Stp) (is : List Nat) (bd : D → Option (List D)) (tt : EvT) (te : Ev) (ρ : Sl) : Nat → Nat → List D → Mem → Option (Res D)
  | 0, _, _, _ => none
  | f + 1, i, acc, M => match st i M with
    | some none => some (.ok (.lst acc) M)
    | some (some d) => match bd d with
      | some ds => bndO (tt (setD ρ is ds) M) fun b M1 => if b = true then bndO (te (setD ρ is ds) M1) fun y M2 => if acc.length < sizeLine then compG st is bd tt te ρ f (i + 1) (acc ++ [y]) M2 else none else compG st is bd tt te ρ f (i + 1) acc M1
      | none => none
    | none => none
/-- a list's cell, item by item -/
@[simp] def cellSt (n : Nat) : Stp := fun i M => match M[n]? with
  | some (.lst ys) => some ys[i]?
  | _ => none
theorem cellSt_ok {K : Fw} {μ0 : Wd} {H0 : Hp} {n : Nat} {a : Addr} (ha : μ0.c[n]? = some a) : StOk K (Itl K a) μ0 H0 (cellSt n) := fun μ H M l hm i => by
  have ha' := l.get ha
  refine ⟨fun d hd => ?_, fun hd => ?_⟩
  · unfold cellSt at hd
    split at hd
    · rename_i ys hy
      cases hd' : ys[i]? with
      | none => rw [hd'] at hd; cases hd
      | some d' =>
        rw [hd'] at hd; cases hd
        obtain ⟨us, k1, k2⟩ := hm.cell n a _ ha' hy
        obtain ⟨v, e1, e2⟩ := k2.get hd'
        refine ⟨⟨us, v, SqL.of k1, e1⟩, fun x H' ⟨eH, y⟩ => ?_⟩
        subst eH
        have := y us (SqL.of k1)
        rw [e1] at this
        cases this
        exact ⟨Le.refl, hm, e2⟩
    · cases hd
  · unfold cellSt at hd
    split at hd
    · rename_i ys hy
      cases hd' : ys[i]? with
      | some d' => rw [hd'] at hd; cases hd
      | none =>
        obtain ⟨us, k1, k2⟩ := hm.cell n a _ ha' hy
        exact ⟨us, SqL.of k1, by rw [k2.length]; exact List.getElem?_eq_none_iff.mp hd'⟩
    · cases hd
section
variable {X : Cx} {E : XK} {elt tg iter : Expr} {ifs : List Expr} {scope : Scope} {own : List (Str × Nat)} {pos : Pos} {vi : EvA} {G : TG} {is : List Nat} {bd : D → Option (List D)} {tt : EvT} {te : Ev} {st : Stp} {f : Nat}
theorem lc_walk (tgo : TgOk X.kx G is bd) (hv : ∀ i ∈ is, i ∈ own.map (·.2)) {σ : L2.St} {Q : VK} {ρ : Sl} {r : Res D} {J : It} {μ1 : Wd} {H1 : Hp} {M1 : Mem} (hs1 : RS X.kx μ1 H1 σ ρ) (hm1 : RM X.kx μ1 H1 M1) (iok : StOk X.kx J μ1 H1 st) (e : compG st is bd tt te (wipeD ρ (own.map (·.2))) f 0 [] M1 = some r)
    (qo : ∀ acc M', r = .ok (.lst acc) M' → ∀ c a vs H', Le μ1 H1 ⟨c, μ1.h⟩ H' → RM X.kx ⟨c, a :: μ1.h⟩ H' M' → H1 a = none → H' a = some (.lst vs) → a ∉ μ1.h → RVs X.kx ⟨c, a :: μ1.h⟩ H' vs acc → Q (.ref a) H') :
    ∀ D, H1 D = none → ∃ W : Nat → Nat → Hp → Prop, (∃ m, W 0 m (upd H1 D (.lst []))) ∧ ∀ i m H, W i m H →
      (J.stop i H ∧ Q (.ref D) H) ∨ (J.go i H ∧ ∃ Nx : Hp → Prop, (∀ H', Nx H' → ∃ m', m' < m ∧ W (i + 1) m' H') ∧ ∀ x H', J.yld i H x H' → G x (L2.wipe σ (own.map (·.2))) H' fun σ2 H2 => L2.wipe σ2 (own.map (·.2)) = L2.wipe σ (own.map (·.2)) ∧ trT X.kx E0 tt σ2 H2 fun b H3 =>
        if b = true then trE X.kx E0 te σ2 H3 fun y H4 => ∃ acc, H4 D = some (.lst acc) ∧ acc.length < sizeLine ∧ Nx (upd H4 D (.lst (acc ++ [y]))) else Nx H3) := by
  intro D hD
  refine ⟨fun i m H => ∃ c M acc vals, Lq μ1 H1 ⟨c, D :: μ1.h⟩ H ∧ RM X.kx ⟨c, D :: μ1.h⟩ H M ∧ H D = some (.lst vals) ∧ RVs X.kx ⟨c, D :: μ1.h⟩ H vals acc ∧ compG st is bd tt te (wipeD ρ (own.map (·.2))) m i acc M = some r,
    ⟨f, μ1.c, M1, [], [], Lq.hide hD, hm1.hide hD, upd_same, .nil, e⟩, ?_⟩
  rintro i m H2 ⟨c, M2, acc, vals, l2, hm2, hd2, rv2, e2⟩
  cases m with
  | zero => cases e2
  | succ m =>
  have hs2 : RS X.kx ⟨c, D :: μ1.h⟩ H2 (L2.wipe σ (own.map (·.2))) (wipeD ρ (own.map (·.2))) := by
    have z := hs1.wipe (own.map (·.2))
    exact ⟨z.len, fun i d hi => let ⟨v, a, b⟩ := z.get i d hi; ⟨v, a, b.go (go_lq hm1 l2)⟩⟩
  obtain ⟨iok1, iok2⟩ := iok ⟨c, D :: μ1.h⟩ H2 M2 l2 hm2 i
  unfold compG at e2
  split at e2
  · rename_i hst
    cases e2
    refine .inl ⟨iok2 hst, ?_⟩
    obtain ⟨ν, ec, ff⟩ := l2.ex
    refine qo _ _ rfl c _ _ H2 ⟨⟨ν, ec, ff⟩, rfl, l2.dom, l2.fr⟩ hm2 hD hd2 (fun z => ?_) rv2
    obtain ⟨⟨vs, e'⟩, _⟩ := hm1.hid D z
    rw [hD] at e'
    cases e'
  · rename_i d hst
    obtain ⟨jg, jy⟩ := iok1 d hst
    refine .inr ⟨jg, fun H => ∃ c M acc vals, Lq μ1 H1 ⟨c, D :: μ1.h⟩ H ∧ RM X.kx ⟨c, D :: μ1.h⟩ H M ∧ H D = some (.lst vals) ∧ RVs X.kx ⟨c, D :: μ1.h⟩ H vals acc ∧ compG st is bd tt te (wipeD ρ (own.map (·.2))) m (i + 1) acc M = some r,
      fun H' hq => ⟨m, Nat.lt_succ_self m, hq⟩, fun x H3 y => ?_⟩
    obtain ⟨l3, hm3, rx⟩ := jy x H3 y
    split at e2
    · rename_i bs hbs
      obtain ⟨us, ru, gk⟩ := tgo _ H3 x d bs rx hbs
      refine gk _ _ ⟨by rw [wipe_setV hv, wipe_wipe], ?_⟩
      have hs3 := (hs2.le hm2 l3).setAll (is := is) ru
      have keepD : ∀ {c' : List Addr} {H' : Hp}, Le ⟨c, D :: μ1.h⟩ H3 ⟨c', D :: μ1.h⟩ H' → H' D = some (.lst vals) := fun {c' H'} l => l.fr D _ (l3.fr D _ hd2 (hm2.hid D List.mem_cons_self).2) (hm3.hid D List.mem_cons_self).2
      have rv3 := rv2.le hm2 l3
      have L3 := l2.trans l3
      cases ht : tt (setD (wipeD ρ (own.map (·.2))) is bs) M2 with
      | none => rw [ht] at e2; cases e2
      | some rt =>
        rw [ht] at e2
        cases rt with
        | err z Mz => cases e2
        | ok b M3 =>
          refine ⟨_, _, M2, .ok b M3, hs3, hm3, ht, fun μ4 b' H4 l4 hm4 eb => ?_⟩
          subst eb
          obtain ⟨c4, h4⟩ := μ4
          obtain rfl : h4 = D :: μ1.h := l4.hid
          cases b' with
          | false =>
            rw [if_neg Bool.false_ne_true]
            simp only [bndO, if_neg Bool.false_ne_true] at e2
            exact ⟨c4, M3, acc, vals, L3.trans l4, hm4, keepD l4, rv3.le hm3 l4, e2⟩
          | true =>
            rw [if_pos rfl]
            simp only [bndO, if_pos] at e2
            have hs4 := hs3.le hm3 l4
            cases hte : te (setD (wipeD ρ (own.map (·.2))) is bs) M3 with
            | none => rw [hte] at e2; cases e2
            | some re =>
              rw [hte] at e2
              cases re with
              | err z Mz => cases e2
              | ok yv M4 =>
                simp only at e2
                split at e2
                · rename_i hsz
                  refine ⟨_, _, M3, .ok yv M4, hs4, hm4, hte, fun μ5 y' H5 l5 hm5 ry => ?_⟩
                  obtain ⟨c5, h5⟩ := μ5
                  obtain rfl : h5 = D :: μ1.h := l5.hid
                  have mem5 : D ∈ (Wd.mk c5 (D :: μ1.h)).h := List.mem_cons_self
                  have g := go_hid (vs := vals ++ [y']) hm5 mem5
                  refine ⟨vals, keepD (l4.trans l5), by rw [rv2.length]; exact hsz, c5, M4, acc ++ [yv], vals ++ [y'], ((L3.trans l4).trans l5).updNew hD, hm5.hidUpd mem5, upd_same, ?_, e2⟩
                  exact ((((rv3.le hm3 l4).le hm4 l5).go g).append (.cons (ry.go g) .nil))
                · cases e2
    · cases e2
  · cases e2
theorem PE.or {e : Expr} {t t' : TE} (h : PE X e t) (h' : PE X e t') : PE X e (fun σ H Q => t σ H Q ∨ t' σ H Q) := ⟨fun pins s σ H Q I q => q.elim (h.run pins s σ H Q I) (h'.run pins s σ H Q I)⟩
/-- a comprehension over a tuple, a list, a text, a list's cell -/
@[simp] def vCompA (vs is : List Nat) (v : Ev) (bd : D → Option (List D)) (tt : EvT) (te : Ev) : Ev := fun ρ M => bnd (v ρ M) fun d M1 => match d with
  | .loc n => match M1[n]? with
    | some (.lst xs) => compG (cellSt n) is bd tt te (wipeD ρ vs) (xs.length + 1) 0 [] M1
    | _ => none
  | .tup xs => compL is bd tt te (wipeD ρ vs) xs [] M1
  | .lst xs => compL is bd tt te (wipeD ρ vs) xs [] M1
  | .fro xs => compL is bd tt te (wipeD ρ vs) xs [] M1
  | .str z => compL is bd tt te (wipeD ρ vs) (chars z) [] M1
  | _ => none
theorem compG_ok {M : Mem} : ∀ {f i : Nat} {acc : List D} {M : Mem} {ρ : Sl} {r : Res D}, compG st is bd tt te ρ f i acc M = some r → ∃ acc' M', r = .ok (.lst acc') M' := by
  intro f
  induction f with
  | zero => intro i acc M ρ r e; cases e
  | succ f ih =>
    intro i acc M ρ r e
    unfold compG at e
    split at e
    · cases e; exact ⟨_, _, rfl⟩
    · split at e
      · rename_i ds _
        cases h1 : tt (setD ρ is ds) M with
        | none => rw [h1] at e; cases e
        | some r1 =>
          rw [h1] at e
          cases r1 with
          | err z Mz => cases e
          | ok b M3 =>
            cases b with
            | false => simp only [bndO, if_neg Bool.false_ne_true] at e; exact ih e
            | true =>
              simp only [bndO, if_pos] at e
              cases h2 : te (setD ρ is ds) M3 with
              | none => rw [h2] at e; cases e
              | some r2 =>
                rw [h2] at e
                cases r2 with
                | err z Mz => cases e
                | ok y M4 =>
                  simp only at e
                  split at e
                  · exact ih e
                  · cases e
      · cases e
    · cases e
theorem tr_lcK {ve : Ev} {n : Nat} {xs : List D} {M1 : Mem} (tgo : TgOk X.kx G is bd) (hv : ∀ i ∈ is, i ∈ own.map (·.2)) {σ : L2.St} {H : Hp} {Q : VK} {μ : Wd} {ρ : Sl} {M : Mem} {r : Res D} (hs : RS X.kx μ H σ ρ) (hm : RM X.kx μ H M) (h1 : ve ρ M = some (.ok (.loc n) M1)) (h2 : M1[n]? = some (.lst xs)) (e : compG (cellSt n) is bd tt te (wipeD ρ (own.map (·.2))) (xs.length + 1) 0 [] M1 = some r) (q : OutE X.kx E μ H r Q) :
    tLc (iList X.K (trE X.kx E ve)) G (trT X.kx E0 tt) (trE X.kx E0 te) (own.map (·.2)) σ H Q := by
  refine ⟨μ, ρ, M, _, hs, hm, h1, fun μ1 x H1 l1 hm1 rx => ?_⟩
  cases rx with
  | @loc _ a ha =>
    obtain ⟨vs, k1, k2⟩ := hm1.cell n a _ ha h2
    refine ⟨a, rfl, ⟨vs, SqL.of k1⟩, lc_walk (st := cellSt n) tgo hv (hs.le hm l1) hm1 (cellSt_ok ha) e fun acc M' hr c a' vs' H' l hm' h0 k1' h2' h3 => ?_⟩
    subst hr
    exact q ⟨c, μ1.h⟩ _ H' (l1.trans l) hm'.unhide (.lst k1' ⟨(hm'.hid a' List.mem_cons_self).2, h2'⟩ (h3.go go_unhide))
theorem vCompA_old {vs : List Nat} {ve : Ev} {ρ : Sl} {M : Mem} {r : Res D} (e : vCompA vs is ve bd tt te ρ M = some r) : (∃ n M1 xs, ve ρ M = some (.ok (.loc n) M1) ∧ M1[n]? = some (.lst xs) ∧ compG (cellSt n) is bd tt te (wipeD ρ vs) (xs.length + 1) 0 [] M1 = some r) ∨ vComp vs is (vIt ve) bd tt te ρ M = some r := by
  unfold vCompA at e
  cases h : ve ρ M with
  | none => rw [h] at e; cases e
  | some r1 =>
    rw [h] at e
    cases r1 with
    | err x M1 => refine .inr ?_; unfold vComp vIt; rw [h]; exact e
    | ok d M1 =>
      simp only [bnd_ok] at e
      split at e
      · rename_i n
        split at e
        · rename_i xs hn
          exact .inl ⟨n, M1, xs, rfl, hn, e⟩
        · cases e
      · refine .inr ?_; unfold vComp vIt; rw [h]; exact e
      · refine .inr ?_; unfold vComp vIt; rw [h]; exact e
      · refine .inr ?_; unfold vComp vIt; rw [h]; exact e
      · refine .inr ?_; unfold vComp vIt; rw [h]; exact e
      · cases e
theorem mv_lcA {ve : Ev} (hc : X.calm = true) (hN : X.N.Nodup) (hi : MV X E iter ve) (ok : BlkOk X.N X.env.scope scope own) (tgo : TgOk X.kx G is bd) (hv : ∀ i ∈ is, i ∈ own.map (·.2))
    (hg : ∀ (s : Shared) (H : Hp) (C : Addr) (cl : List (Str × Addr)) (fp : List Addr), PG (X.blk s H scope (compEnvC scope cl C X.env) fp) tg G) (ht : ∀ (s : Shared) (H : Hp) (C : Addr) (cl : List (Str × Addr)) (fp : List Addr), MTs (X.blk s H scope (compEnvC scope cl C X.env) fp) E0 ifs tt)
    (he : ∀ (s : Shared) (H : Hp) (C : Addr) (cl : List (Str × Addr)) (fp : List Addr), MV (X.blk s H scope (compEnvC scope cl C X.env) fp) E0 elt te) (hs : ∀ x, foldedSetIterable iter X.env x = pure x := by intro _; rfl) :
    MV X E (.ListComp elt [⟨tg, iter, ifs, 0⟩] scope pos) (vCompA (own.map (·.2)) is ve bd tt te) :=
  PE.imp (PE.or (pe_lc (tt := trT X.kx E0 tt) (te := trE X.kx E0 te) hc hN (pi_list hi) ok hg ht he hs) (mv_lc hc hN (mi_it hi) ok tgo hv hg ht he hs)) fun σ H Q ⟨μ, ρ, M, r, hs, hm, e, q⟩ => by
    rcases vCompA_old e with ⟨n, M1, xs, h1, h2, h3⟩ | h
    · exact .inl (tr_lcK tgo hv hs hm h1 h2 h3 q)
    · exact .inr ⟨μ, ρ, M, r, hs, hm, h, q⟩
theorem ms_setLcA {ve : Ev} {i : Nat} {y : Str} {py spos : Pos} (hc : X.calm = true) (hN : X.N.Nodup) (hy : X.N[i]? = some y) (hyl : X.env.scope.names.lookup y = some .local)
    (hsw : swapsWith (.ListComp elt [⟨tg, iter, ifs, 0⟩] scope pos) (some (.Name y py)) spos.line X.env = pure true) (hi : MV X E iter ve) (ok : BlkOk X.N X.env.scope scope own) (tgo : TgOk X.kx G is bd) (hv : ∀ i ∈ is, i ∈ own.map (·.2))
    (hg : ∀ (s : Shared) (H : Hp) (C : Addr) (cl : List (Str × Addr)) (fp : List Addr), PG (X.blk s H scope (compEnvC scope cl C X.env) fp) tg G) (ht : ∀ (s : Shared) (H : Hp) (C : Addr) (cl : List (Str × Addr)) (fp : List Addr), MTs (X.blk s H scope (compEnvC scope cl C X.env) fp) E0 ifs tt)
    (he : ∀ (s : Shared) (H : Hp) (C : Addr) (cl : List (Str × Addr)) (fp : List Addr), MV (X.blk s H scope (compEnvC scope cl C X.env) fp) E0 elt te) (hs : ∀ x, foldedSetIterable iter X.env x = pure x := by intro _; rfl) :
    MS X E (.Assign [.Name y py] (.ListComp elt [⟨tg, iter, ifs, 0⟩] scope pos) spos) (vAsg (vCompA (own.map (·.2)) is ve bd tt te) (gN i)) :=
  PS.imp (PS.or (ps_setLc (tt := trT X.kx E0 tt) (te := trE X.kx E0 te) hc hN hy hyl hsw (pi_list hi) ok hg ht he hs) (ms_setLc (E := E) hc hN hy hyl hsw (mi_it hi) ok tgo hv hg ht he hs)) fun D σ H ⟨μ, ρ, M, r, hs, hm, e, q⟩ => by
    unfold vAsg at e
    cases hc : vCompA (own.map (·.2)) is ve bd tt te ρ M with
    | none => rw [hc] at e; cases e
    | some rc =>
      rcases vCompA_old hc with ⟨n, M1, xs, h1, h2, h3⟩ | h
      · refine .inl (tr_lcK (E := E) tgo hv hs hm h1 h2 h3 ?_)
        obtain ⟨acc, M', rfl⟩ := compG_ok (M := M) h3
        rw [hc] at e
        cases e
        exact fun μ1 x H1 l hm1 rx => q μ1 _ H1 l hm1 ((hs.le hm l).set i rx)
      · refine .inr ⟨μ, ρ, M, r, hs, hm, ?_, q⟩
        unfold vAsg
        rw [h]
        rw [hc] at e
        exact e
end
/-- over a cell that stays -/
theorem compG_filter {is : List Nat} {bd : D → Option (List D)} {tt : EvT} {te : Ev} {ρ : Sl} {M : Mem} {n : Nat} {xs : List D} (p : D → Bool) (f : D → D) (hn : M[n]? = some (.lst xs)) (h : ∀ d ∈ xs, ∃ bs, bd d = some bs ∧ tt (setD ρ is bs) M = some (.ok (p d) M) ∧ (p d = true → te (setD ρ is bs) M = some (.ok (f d) M))) (hl : xs.length ≤ 16777216) :
    compG (cellSt n) is bd tt te ρ (xs.length + 1) 0 [] M = some (.ok (.lst ((xs.filter p).map f)) M) := by
  have gen : ∀ (k i : Nat) (acc : List D), i + k = xs.length → acc.length ≤ i → compG (cellSt n) is bd tt te ρ (k + 1) i acc M = some (.ok (.lst (acc ++ ((xs.drop i).filter p).map f)) M) := by
    intro k
    induction k with
    | zero =>
      intro i acc hi ha
      have e1 : xs[i]? = none := List.getElem?_eq_none_iff.mpr (by omega)
      have e2 : xs.drop i = [] := List.drop_of_length_le (by omega)
      simp [compG, hn, e1, e2]
    | succ k ih =>
      intro i acc hi ha
      have hlt : i < xs.length := by omega
      have e1 : xs[i]? = some xs[i] := List.getElem?_eq_getElem hlt
      obtain ⟨bs, h1, h2, h3⟩ := h xs[i] (List.getElem_mem hlt)
      have hs : acc.length < sizeLine := by rw [sizeL]; omega
      rw [List.drop_eq_getElem_cons hlt]
      unfold compG
      simp only [cellSt, hn, e1, h1, h2, bndO]
      cases hp : p xs[i] with
      | true =>
        simp only [if_pos, h3 hp, hs]
        rw [ih (i + 1) _ (by omega) (by simp; omega), List.filter_cons_of_pos hp, List.map_cons, List.append_assoc]
        rfl
      | false =>
        rw [if_neg (by decide), ih (i + 1) _ (by omega) (by omega), List.filter_cons_of_neg (by rw [hp]; decide)]
  have := gen xs.length 0 [] (by omega) (by simp)
  simpa using this
end Mi
set_option autoImplicit false
/-! Objects in cells; defs with defaults; class values; a dict of lists. -/
namespace Mi
open PySem PySem.Spec L2
section
variable {X : Cx} {E : XK} {e o : Expr} {es : List Expr} {ve vo : Ev} {vs : EvA} {pos apos p : Pos} {m x C : Str} {fa : Addr} {k : Nat} {fd : FuncData} {ps : List Str} {g : FC} {dvs : List V} {dds : List D} {ds : List Value}
/-- C(..) by its __init__, dds what is left out -/
@[simp] def vMk (C : Str) (g : FC) (n : Nat) (dds : List D) (vs : EvA) : Ev := fun ρ M => bnd (vs ρ M) fun ds M1 => if (ds ++ dds).length + 1 = n then
    match g (.loc M1.length :: (ds ++ dds)) (M1 ++ [.ins C []]) with
    | some (.ok .non M2) => some (.ok (.loc M1.length) M2)
    | some (.err z M2) => some (.err z M2)
    | _ => none
  else none
theorem make_c {K : Fw} {μ : Wd} {H : Hp} {M : Mem} {xs : List V} {ds : List D} {r : Res D} {Q : VK} (hl : ds.length + 1 = ps.length) (hm : RM K μ H M) (rx : RVs K μ H xs ds)
    (e : (match g (.loc M.length :: ds) (M ++ [.ins C []]) with
      | some (.ok .non M2) => some (.ok (.loc M.length) M2)
      | some (.err z M2) => some (.err z M2)
      | _ => none) = some r) (q : OutE K E μ H r Q) {x dx : Addr} (h1 : H x = none) (h2 : H dx = none) (h3 : dx ≠ x) :
    spM K ps.length g (.ref x :: xs) (upd (upd H dx (.own x)) x (.ins (cad K C) dx [])) (fun v H2 => v = .non ∧ Q (.ref x) H2) E := by
  obtain ⟨hm2, l2⟩ := make_world (C := C) hm h1 h2 h3
  have hloc : (μ.push x).c[M.length]? = some x := by rw [← hm.len]; show (μ.c ++ [x])[μ.c.length]? = some x; simp
  split at e
  · rename_i M2 hg
    cases e
    refine ⟨by rw [List.length_cons, rx.length]; exact hl, μ.push x, _, .loc M.length :: ds, _, .cons (.loc hloc) (rx.le hm l2), hm2, hg, fun μ3 v H3 l3 hm3 rv => ?_⟩
    cases rv
    exact ⟨rfl, q μ3 _ H3 (l2.trans l3) hm3 (.loc (l3.get hloc))⟩
  · rename_i z M2 hg
    cases e
    exact ⟨by rw [List.length_cons, rx.length]; exact hl, μ.push x, _, .loc M.length :: ds, _, .cons (.loc hloc) (rx.le hm l2), hm2, hg, fun μ' H' C' d l' m' rz => q μ' H' C' d (l2.trans l') m' rz⟩
  · cases e
theorem tr_mk (hd : ∀ μ H, RVs X.kx μ H dvs dds) {σ : L2.St} {H : Hp} {Q : VK} (h : trE X.kx E (vMk C g ps.length dds vs) σ H Q) : tMake (cad X.K C) (spM X.kx ps.length g) dvs E (trA X.kx E vs) σ H Q := by
  obtain ⟨μ, ρ, M, r, hs, hm, e, q⟩ := h
  refine tr_bnd hs hm e q fun μ1 xs H1 ds M1 l hs1 hm1 rx e1 q1 => ?_
  split at e1
  · rename_i hl
    intro x dx h1 h2 h3
    exact make_c hl hm1 (rx.append (hd μ1 H1)) e1 q1 h1 h2 h3
  · cases e1
theorem mv_mk (Mk : L2.Mk X.K (cad X.K C) fa) (F : OkM X.prog X.w X.K X.mg X.base k fa fd ps g) (hr : Room (k + 1) X.A) (hg : Gl X x) (hm : X.mg x = some (.ref (cad X.K C))) (hb : Binds X.K fd ps ds) (hv : Vals dvs ds) (hd : ∀ μ H, RVs X.kx μ H dvs dds) (hx : Passes (L2.CX X.prog X.w) X E) (ha : MA X E (e :: es) vs)
    (hdb : (x == ("__debug__" : Str)) = false := by decide) (he : starEach (e :: es) X.env = (false, eval e X.env) :: starEach es X.env := by rfl) (hpl : (backTo pos (starEach es X.env)).any (·.1) = false := by rfl) :
    MV X E (.Call (.Name x p) (e :: es) [] pos) (vMk C g ps.length dds vs) := PE.imp (pe_make Mk F hr hg hm hb hv hx ha hdb he hpl) fun σ H Q h => tr_mk hd h
theorem mv_mk0 (Mk : L2.Mk X.K (cad X.K C) fa) (F : OkM X.prog X.w X.K X.mg X.base k fa fd ps g) (hr : Room (k + 1) X.A) (hg : Gl X x) (hm : X.mg x = some (.ref (cad X.K C))) (hb : Binds X.K fd ps ds) (hv : Vals dvs ds) (hd : ∀ μ H, RVs X.kx μ H dvs dds) (hx : Passes (L2.CX X.prog X.w) X E)
    (hdb : (x == ("__debug__" : Str)) = false := by decide) :
    MV X E (.Call (.Name x p) [] [] pos) (vMk C g ps.length dds vNil) := PE.imp (pe_make0 Mk F hr hg hm hb hv hx hdb) fun σ H Q h => tr_nil (tr_mk hd h)
/-! ### keywords -/
def MK (X : Cx) (E : XK) (kws : List Keyword) (v : EvA) : Prop := PK X kws (trA X.kx E v)
theorem PK.imp {kws : List Keyword} {t t' : TA} (h : PK X kws t) (i : ∀ σ H Q, t' σ H Q → t σ H Q) : PK X kws t' := ⟨fun wh pins s σ H Q I q => h.run wh pins s σ H Q I (i σ H Q q)⟩
theorem mk_nil : MK X E [] vNil := PK.imp pk_nil fun σ H Q h => tr_nil h
theorem mk_cons {nm : Option Str} {kpos : Pos} {kws : List Keyword} (ha : MV X E e ve) (hr : MK X E kws vs) : MK X E (⟨nm, e, kpos⟩ :: kws) (vCons ve vs) :=
  PK.imp (pk_cons ha hr) fun σ H Q ⟨μ, ρ, M, r, hs, hm, e, q⟩ => tr_bnd hs hm e q fun μ1 x H1 d M1 l hs1 hm1 rx e1 q1 => tr_bnd hs1 hm1 e1 q1 fun μ2 xs H2 ds M2 l2 hs2 hm2 rxs e2 q2 => by
    cases e2
    exact q2 μ2 _ H2 Le.refl hm2 (.cons (rx.le hm1 l2) rxs)
/-- C(k = v), one keyword, and self by position -/
theorem mv_mkK {ks : List Str} {kws : List Keyword} {gg : List Value → List Value → List Value} (Mk : L2.Mk X.K (cad X.K C) fa) (F : OkM X.prog X.w X.K X.mg X.base k fa fd ps g) (hr : Room (k + 1) X.A) (hg : Gl X x) (hm : X.mg x = some (.ref (cad X.K C))) (hb : KBn X.K fd ps 1 ks gg (fun vs zs => vs ++ zs)) (hx : Passes (L2.CX X.prog X.w) X E) (hkw : MK X E kws vs) (hkl : ks.length + 1 = ps.length)
    (hall : (backToKw pos (keywordEach kws X.env)).all (·.1.isSome) = true := by rfl) (hks : (backToKw pos (keywordEach kws X.env)).filterMap (·.1) = ks := by rfl) (hdb : (x == ("__debug__" : Str)) = false := by decide)
    (hpl : ((backTo pos (starEach [] X.env)).any (·.1) || (backToKw pos (keywordEach kws X.env)).any (·.1.isNone)) = false := by rfl) :
    MV X E (.Call (.Name x p) [] kws pos) (vMk C g ps.length [] vs) := PE.imp (pe_makeK0 Mk F hr hg hm hb hx hkw hall hks hdb hpl) fun σ H Q ⟨μ, ρ, M, r, hs, hm, e, q⟩ => by
      refine tr_bnd hs hm e q fun μ1 xs H1 ds M1 l hs1 hm1 rx e1 q1 => ?_
      split at e1
      · rename_i hl
        rw [List.append_nil] at hl e1
        refine ⟨rfl, by rw [rx.length]; omega, fun x dx h1 h2 h3 => ?_⟩
        exact make_c hl hm1 rx e1 q1 h1 h2 h3
      · cases e1
end
/-! ### a def with defaults -/
section
variable {P : Program} {w : World} {K : PySem.W.Frag} {mg : Str → Option Value} {base : Heap}
theorem okMD {x qual : Str} {st : Stmt} {dvs : List V} {kws : List (Str × V)} {f : Addr} {fd : FuncData} {N ps : List Str} {k : Nat} {b : Sv} (F : FunD K x qual (defArgs st) (defBody st) (defScope st) dvs kws f fd) (S : FnScope N ps (defScope st))
    (hb : ∀ (cdv : Value) (A : Around) (outer : List Env) (s : Shared) (H : Hp) (E : XK), Room k (A.deeper (PyProof.Rows.envOfC qual (defScope st) s.heap.objs.size f cdv)) → MSs (cxOf (L2.CX P w) P w K mg base N qual (defScope st) f cdv A outer s H E) E (defBody st) b) :
    OkM P w K mg base (k + 1) f fd ps (runB N.length b) := by
  refine F.ok S (fun vs H Q E h => h.1) (fun cdv A outer s H vs Q E hr h => ?_)
  obtain ⟨hl, μ, M, ds, r, rv, hm, e, q⟩ := h
  refine ⟨_, hb cdv A outer s H E hr, ?_⟩
  unfold runB at e
  cases h : b (ds.map some ++ List.replicate (N.length - ds.length) none) M with
  | none => rw [h] at e; cases e
  | some r1 =>
    refine ⟨μ, _, M, r1, rs_start N rv, hm, h, ?_⟩
    rw [h] at e
    cases r1 with
    | nx ρ M1 => cases e; exact fun μ' σ' H' l m' s' => q μ' .non H' l m' .non
    | rt d M1 => cases e; exact q
    | er x M1 => cases e; exact q
    | bk ρ M1 => cases e
    | ct ρ M1 => cases e
end
/-! ### class values -/
/-- C.f is the tuple of texts ss, which stands in the written part -/
structure CTup (K : PySem.W.Frag) (C : Addr) (f : Str) (ss : List Str) : Prop where
  ex : ∃ (a : Addr) (o : Obj) (its : Array Value) (n : Nat), PySem.W.findCls K (.ref C) (.type "type") f = some (.val (.ref a)) ∧ K.lookup a = some o ∧ o.cls = .type "tuple" ∧ o.data = .seq its n ∧ its.size ≤ sizeLine ∧ Vals (ss.map V.str) its.toList
def isStrs : List Value → List Str → Bool
  | [], [] => true
  | .str x _ :: r, y :: s => x == y && isStrs r s
  | _, _ => false
theorem isStrs_ok : ∀ {vs : List Value} {ss : List Str}, isStrs vs ss = true → Vals (ss.map V.str) vs
  | [], [], _ => .nil
  | [], _ :: _, h => by cases h
  | v :: r, [], h => by cases v <;> cases h
  | v :: r, y :: s, h => by
    cases v with
    | str x t =>
      obtain ⟨h1, h2⟩ := Bool.and_eq_true_iff.mp (show (x == y && isStrs r s) = true from h)
      have e : x = y := by simpa using h1
      subst e
      exact .cons ⟨t, rfl⟩ (isStrs_ok h2)
    | _ => cases h
def ctupB (K : PySem.W.Frag) (C : Addr) (f : Str) (ss : List Str) : Bool := match PySem.W.findCls K (.ref C) (.type "type") f with
  | some (.val (.ref a)) => match K.lookup a with
    | some ⟨.type T, _, .seq its _, _⟩ => T == "tuple" && (decide (its.size ≤ 1000) && isStrs its.toList ss)
    | _ => false
  | _ => false
theorem ctupB_ok {K : PySem.W.Frag} {C : Addr} {f : Str} {ss : List Str} (h : ctupB K C f ss = true) : CTup K C f ss := by
  unfold ctupB at h
  split at h
  · rename_i a hf
    split at h
    · rename_i T d its n sl hl
      obtain ⟨h1, h2⟩ := Bool.and_eq_true_iff.mp h
      obtain ⟨h3, h4⟩ := Bool.and_eq_true_iff.mp h2
      have e : T = "tuple" := by simpa using h1
      subst e
      exact ⟨a, _, its, n, hf, hl, rfl, rfl, by have := of_decide_eq_true h3; rw [sizeLine_eq]; omega, isStrs_ok h4⟩
    · cases h
  · cases h
section
variable {X : Cx} {E : XK} {x f C : Str} {px pos : Pos}
theorem mv_cval {ss : List Str} (hg : Gl X x) (hmC : X.mg x = some (.ref (cad X.K C))) (r : ClX.CRead X.K (cad X.K C) (.type "type")) (c : CTup X.K (cad X.K C) f ss) (hok : (ss.all fun z => PyData.strOk z) = true) (hdb : (x == ("__debug__" : Str)) = false := by decide) (hb : attributeBase (.Name x px) f X.env (eval (.Name x px) X.env) = eval (.Name x px) X.env := by rfl) :
    MV X E (.Attribute (.Name x px) f pos) (vC (.tup (ss.map D.str))) := PE.imp (ClX.pe_cval (pe_glob (v := .ref (cad X.K C)) hg hmC rfl hdb) hb) fun σ H Q ⟨μ, ρ, M, r', hs, hm, e, q⟩ => by
      cases e
      obtain ⟨a, o, its, n, h1, h2, h3, h4, h5, h6⟩ := c.ex
      refine ⟨_, _, .ref a, .ref a, rfl, r, ⟨h1, rfl⟩, q μ _ H Le.refl hm (.tup (.inr ⟨o, its, n, h2, h3, h4, h5, h6⟩) (rvs_strs fun z hz => List.all_eq_true.mp hok z hz))⟩
end
theorem units1 {k : Nat} {A : Around} (r : Room k A) : A.units + 1 < cLine := by
  have := units65 r
  omega
/-! ### a dict by texts -/
section
variable {X : Cx} {E : XK} {e o : Expr} {ve vo : Ev} {pos : Pos}
/-- d[k], a dict that stays -/
@[simp] def fDg : F2 := fun a b M => match a, b with
  | .dic ks xs, .str z => ((ks.zip xs).find? fun p => decide (p.1 = Sum.inr z)).map fun p => .ok p.2 M
  | _, _ => none
theorem find_zip {K : Fw} {μ : Wd} {H : Hp} {z : Str} : ∀ {ks : List Key} {vs : List V} {ds : List D} {p : Key × D}, RVs K μ H vs ds → ((ks.zip ds).find? fun p => decide (p.1 = Sum.inr z)) = some p → ∃ v, valV (ks.zip vs) (.inr z) = some v ∧ RV K μ H v p.2
  | [], _, _, _, _, e => by simp at e
  | k :: ks, _, _, _, .nil, e => by simp at e
  | k :: ks, _, _, p, .cons (v := v) (d := d) h t, e => by
    rw [List.zip_cons_cons, List.find?_cons] at e
    unfold valV
    rw [List.zip_cons_cons, List.find?_cons]
    by_cases q : k = Sum.inr z
    · simp only [q, decide_true] at e ⊢
      cases e
      exact ⟨v, rfl, h⟩
    · simp only [q, decide_false] at e ⊢
      exact find_zip t e
theorem mv_dg (hu : X.A.units + 1 < cLine) (ho : MV X E o vo) (hi : MV X E e ve) (hs : NoSl e := by intro _ _; rfl) : MV X E (.Subscript o e pos) (vOp fDg vo ve) :=
  PE.imp (pe_dget hu ho hi hs) fun σ H Q ⟨μ, ρ, M, r, hs, hm, e, q⟩ => tr_bnd hs hm e q fun μ1 x H1 a M1 l hs1 hm1 rx e1 q1 => tr_bnd hs1 hm1 e1 q1 fun μ2 y H2 b M2 l2 hs2 hm2 ry e2 q2 => by
    unfold fDg at e2
    split at e2
    · rename_i ks xs z
      cases hf : (ks.zip xs).find? fun p => decide (p.1 = Sum.inr z) with
      | none => rw [hf] at e2; cases e2
      | some p =>
        rw [hf] at e2; cases e2
        have rx2 := rx.le hm1 l2
        cases rx2 with
        | dic h n hl k =>
          obtain ⟨v, h1, h2⟩ := find_zip k hf
          cases ry
          refine ⟨_, v, rfl, ?_, q2 μ2 _ H2 Le.refl hm2 h2⟩
          have := DGet.k (k := .inr z) h
          rw [h1] at this
          exact this
    · cases e2
/-- {k: [], ..}: empty lists in cells, by texts -/
@[simp] def vDL (ks : List Str) : Ev := fun _ M => some (.ok (.dic (ks.map Sum.inr) ((List.range ks.length).map fun i => .loc (M.length + i))) (M ++ List.replicate ks.length (.lst [])))
theorem upd_comm {H : Hp} {a b : Addr} {u v : HO} (h : a ≠ b) : upd (upd H a u) b v = upd (upd H b v) a u := by
  funext c
  by_cases h1 : c = a
  · subst h1; rw [upd_ne h, upd_same, upd_same]
  · by_cases h2 : c = b
    · subst h2; rw [upd_same, upd_ne h1, upd_same]
    · rw [upd_ne h2, upd_ne h1, upd_ne h1, upd_ne h2]
theorem upd_upd {H : Hp} {a : Addr} {u v : HO} : upd (upd H a u) a v = upd H a v := by
  funext c
  by_cases h1 : c = a
  · subst h1; rw [upd_same, upd_same]
  · rw [upd_ne h1, upd_ne h1, upd_ne h1]
theorem mv_dl3 {k1 k2 k3 : Str} {j1 j2 j3 : Nat} {p1 p2 p3 q1 q2 q3 : Pos} (h12 : k1 ≠ k2) (h13 : k1 ≠ k3) (h23 : k2 ≠ k3) :
    MV X E (.Dict [some (.Constant (.str k1) j1 p1), some (.Constant (.str k2) j2 p2), some (.Constant (.str k3) j3 p3)] [.List [] q1, .List [] q2, .List [] q3] pos) (vDL [k1, k2, k3]) :=
  PE.imp (pe_disp (pps_cons pe_str (pe_lst pa_nil) (pps_cons pe_str (pe_lst pa_nil) (pps_cons pe_str (pe_lst pa_nil) pps_nil))) rfl rfl (by simp) (by simp)) fun σ H Q ⟨μ, ρ, M, r, hs, hm, e, q⟩ => by
    cases e
    intro p hp
    refine ⟨Nat.zero_le _, fun l1 h1 => ⟨Nat.zero_le _, fun l2 h2 => ⟨Nat.zero_le _, fun l3 h3 => ?_⟩⟩⟩
    have n1 : l1 ≠ p := fun z => by rw [z, upd_same] at h1; cases h1
    have n2 : l2 ≠ l1 := fun z => by rw [z, upd_same] at h2; cases h2
    rw [upd_ne n2] at h2
    have n3 : l2 ≠ p := fun z => by rw [z, upd_same] at h2; cases h2
    have n4 : l3 ≠ l2 := fun z => by rw [z, upd_same] at h3; cases h3
    rw [upd_ne n4] at h3
    have n5 : l3 ≠ l1 := fun z => by rw [z, upd_same] at h3; cases h3
    rw [upd_ne n5] at h3
    have n6 : l3 ≠ p := fun z => by rw [z, upd_same] at h3; cases h3
    rw [upd_ne n1] at h1
    rw [upd_ne n3] at h2
    rw [upd_ne n6] at h3
    refine ⟨by rw [upd_ne n6.symm, upd_ne n3.symm, upd_ne n1.symm, upd_same], [(.inr k1, .ref l1), (.inr k2, .ref l2), (.inr k3, .ref l3)], rfl, by simp, ?_⟩
    have em : mergeK [] [((.inr k1 : Key), V.ref l1), (.inr k2, .ref l2), (.inr k3, .ref l3)] = [(.inr k1, .ref l1), (.inr k2, .ref l2), (.inr k3, .ref l3)] := by
      simp [mergeK, putK, h12, h13, h23]
    rw [em]
    have eH : upd (upd (upd (upd (upd H p (.dK [])) l1 (.lst [])) l2 (.lst [])) l3 (.lst [])) p (.dK [((.inr k1 : Key), V.ref l1), (.inr k2, .ref l2), (.inr k3, .ref l3)]) = upd (upd (upd (upd H l1 (.lst [])) l2 (.lst [])) l3 (.lst [])) p (.dK [(.inr k1, .ref l1), (.inr k2, .ref l2), (.inr k3, .ref l3)]) := by
      rw [upd_comm n6, upd_comm n3, upd_comm n1, upd_upd, ← upd_comm n1, ← upd_comm n3, ← upd_comm n6]
    rw [eH]
    have m1 := hm.newc (p := l1) (o := .lst []) (c := .lst []) h1 ⟨[], upd_same, .nil⟩
    have g1 : Le μ H (μ.push l1) (upd H l1 (.lst [])) := Le.newc h1
    have h2' : upd H l1 (.lst []) l2 = none := by rw [upd_ne n2]; exact h2
    have m2 := m1.newc (p := l2) (o := .lst []) (c := .lst []) h2' ⟨[], upd_same, .nil⟩
    have g2 : Le (μ.push l1) (upd H l1 (.lst [])) ((μ.push l1).push l2) _ := Le.newc h2' (o := .lst [])
    have h3' : upd (upd H l1 (.lst [])) l2 (.lst []) l3 = none := by rw [upd_ne n4, upd_ne n5]; exact h3
    have m3 := m2.newc (p := l3) (o := .lst []) (c := .lst []) h3' ⟨[], upd_same, .nil⟩
    have g3 : Le ((μ.push l1).push l2) _ (((μ.push l1).push l2).push l3) _ := Le.newc h3' (o := .lst [])
    have hp' : upd (upd (upd H l1 (.lst [])) l2 (.lst [])) l3 (.lst []) p = none := by rw [upd_ne n6.symm, upd_ne n3.symm, upd_ne n1.symm]; exact hp
    have m4 := m3.new (p := p) (o := .dK [((.inr k1 : Key), V.ref l1), (.inr k2, .ref l2), (.inr k3, .ref l3)]) hp'
    have g4 : Le (((μ.push l1).push l2).push l3) _ (((μ.push l1).push l2).push l3) _ := Le.new hp' (o := .dK [((.inr k1 : Key), V.ref l1), (.inr k2, .ref l2), (.inr k3, .ref l3)])
    have c : (((μ.push l1).push l2).push l3).c = μ.c ++ [l1, l2, l3] := by simp [Wd.push]
    have hlen := hm.len
    have eM : M ++ List.replicate [k1, k2, k3].length (Cell.lst []) = ((M ++ [.lst []]) ++ [.lst []]) ++ [.lst []] := by
      show M ++ [Cell.lst [], .lst [], .lst []] = _
      simp
    rw [eM] at q
    refine q _ _ _ (((g1.trans g2).trans g3).trans g4) m4 ?_
    refine .dic (ks := [.inr k1, .inr k2, .inr k3]) (vs := [.ref l1, .ref l2, .ref l3]) upd_same (m3.freshOut hp') rfl ?_
    refine .cons (.loc ?_) (.cons (.loc ?_) (.cons (.loc ?_) .nil))
    · rw [c, ← hlen]; simp
    · rw [c, ← hlen]; simp
    · rw [c, ← hlen]; simp
end
end Mi
set_option autoImplicit false
/-! Exceptions: raising, catching, what an except suite may do. -/
namespace Mi
open PySem PySem.Spec L2
section
variable {K : Fw} {μ μ' : Wd} {H H' : Hp} {M : Mem} {C : Value} {d : Option Addr} {x : Exn}
theorem RX.le (r : RM K μ H M) (l : Le μ H μ' H') (h : RX K μ H C d x) : RX K μ' H' C d x := by
  obtain ⟨cl, fs⟩ := x
  obtain ⟨h1, h2⟩ := h
  refine ⟨h1, ?_⟩
  cases fs with
  | none => exact h2
  | some fs =>
    obtain ⟨a, gs, e1, e2, e3⟩ := h2
    exact ⟨a, gs, e1, l.fr a _ e2 (r.out e2 trivial), e3.le r l⟩
end
/-! ### an exception's __init__ that sets one field -/
def spX1 (K : PySem.W.Frag) (f : Str) : Sp := fun vs H Q E => ∃ (a C : Addr) (y : V), vs = [.ref a, y] ∧ OexC K C ∧ PySem.W.findIn K (.ref C) f = some none ∧ H a = some (exo a C none) ∧ ∀ dx, H dx = none → dx ≠ a → Q .non (upd (upd H dx (exd dx [(f, y)])) a (exo a C (some dx)))
section
variable {P : Program} {w : World} {K : PySem.W.Frag} {mg : Str → Option Value} {base : Heap}
theorem okX1 {x qual fl : Str} {st : Stmt} {f : Addr} {fd : FuncData} {n1 n2 : Str} {k : Nat} (F : Fun K x qual st f fd) (S : FnScope [n1, n2] [n1, n2] (defScope st))
    (hb : ∀ (cdv : Value) (A : Around) (outer : List Env) (s : Shared) (H : Hp) (E : XK), PSs (cxOf (L2.CX P w) P w K mg base [n1, n2] qual (defScope st) f cdv A outer s H E) (defBody st) (tOst K fl (tVar 0) (tVar 1))) :
    FnOk P w K mg base (L2.CX P w) (k + 1) f fd [n1, n2] (spX1 K fl) := by
  refine F.okX S (fun vs H Q E ⟨a, C, y, e, _⟩ => by rw [e]; rfl) (fun cdv A outer s H vs Q E hr ⟨a, C, y, e, T, hno, ha, q⟩ => ?_)
  subst e
  exact ⟨_, hb cdv A outer s H E, y, rfl, .ref a, rfl, a, C, rfl, T, hno, .inl ⟨ha, fun dx h1 h2 => q dx h1 h2⟩⟩
end
/-! ### raise -/
section
variable {X : Cx} {E : XK} {e : Expr} {ve : Ev} {p pos pos' : Pos} {x f C : Str} {fI : Addr} {k : Nat} {fd : FuncData} {ps : List Str}
@[simp] def vRaise (C f : Str) (ve : Ev) : Sv := fun ρ M => bndS (ve ρ M) fun d M1 => some (.er ⟨.c C, some [(f, d)]⟩ M1)
/-- what is asked of an own exception class with one field -/
structure Xc (K : PySem.W.Frag) (C : Addr) (f : Str) (fI : Addr) : Prop where
  T : OexC K C
  no : PySem.W.findIn K (.ref C) f = some none
  iC : PySem.W.findIn K (.ref C) "__init__" = some (some (.ref fI))
  tI : PySem.W.typeIn K (.ref fI) = some (.type "function")
theorem ms_raise1 (hc : X.calm = true) (tk : Takes X (fun c d _ H => E c d H)) (xc : Xc X.K (cad X.K C) f fI) (F1 : FnOk X.prog X.w X.K X.mg X.base (L2.CX X.prog X.w) k fI fd ps (spX1 X.K f)) (hr : Room (k + 1) X.A) (hb : Binds X.K fd ps []) (hg : Gl X x) (hmC : X.mg x = some (.ref (cad X.K C))) (he : MV X E e ve)
    (hdb : (x == ("__debug__" : Str)) = false := by decide) (hst : starEach [e] X.env = (false, eval e X.env) :: starEach [] X.env := by rfl) (hpl : (backTo pos (starEach [] X.env)).any (·.1) = false := by rfl) :
    MS X E (.Raise (some (.Call (.Name x p) [e] [] pos)) none pos') (vRaise C f ve) :=
  PS.imp (ps_raise hc tk (pmk_oex xc.T xc.iC xc.tI F1 hr hb .nil passL hg hmC (pa_cons he pa_nil hst) hdb hst hpl)) fun D σ H ⟨μ, ρ, M, r, hs, hm, e, q⟩ => trS_bnd hs hm e q fun μ1 y H1 d M1 l hs1 hm1 rx e1 q1 => by
    cases e1
    refine ⟨by simp, fun a ha => ⟨a, cad X.K C, y, rfl, xc.T, xc.no, upd_same, fun dx h1 h2 => ⟨rfl, dx, [(f, y)], upd_same, by rw [upd_ne h2, upd_same], ?_, ?_⟩⟩⟩
    · rw [upd_ne h2] at h1; exact h1
    · rw [upd_ne h2] at h1
      have eH : upd (L2.del (upd (upd (upd H1 a (exo a (cad X.K C) none)) dx (exd dx [(f, y)])) a (exo a (cad X.K C) (some dx))) a) dx (.xd [(f, y)]) = upd H1 dx (.xd [(f, y)]) := by
        funext b
        by_cases hb : b = dx
        · rw [hb, upd_same, upd_same]
        · rw [upd_ne hb, upd_ne hb]
          by_cases hba : b = a
          · rw [hba, del_same, ha]
          · rw [del_ne hba, upd_ne hba, upd_ne hb, upd_ne hba]
      rw [eH]
      have l1 : Le μ1 H1 μ1 (upd H1 dx (.xd [(f, y)])) := Le.new h1
      exact q1 μ1 _ _ (some dx) l1 (hm1.new h1) ⟨rfl, dx, [(f, y)], rfl, upd_same, .cons (rx.le hm1 l1) .nil⟩
end
/-! ### a call in a try: what it raises is caught at the same slots -/
section
variable {X : Cx} {CX : CXT} {k : Nat} {f C : Addr} {fd : FuncData} {ps : List Str} {sp : Sp} {dvs : List V} {ds : List Value} {E : L2.St → XK} {x : Str} {p pos : Pos} {e : Expr} {es : List Expr} {t : TA}
theorem run_makeS {pins : List (Addr × Obj)} {σ : L2.St} {H : Hp} {s : Shared} {Q : VK} {us : List Value} {vs : List V} (M : L2.Mk X.K C f) (F : FnOk X.prog X.w X.K X.mg X.base CX k f fd ps sp) (hr : Room (k + 1) X.A) (hb : Binds X.K fd ps ds) (hd : Vals dvs ds)
    (hx : PassesAt CX X σ (E σ)) (I : L2.Inv X pins σ H s) (r : Vals vs us)
    (h : ∀ x dx, H x = none → H dx = none → dx ≠ x → sp (.ref x :: (vs ++ dvs)) (upd (upd H dx (.own x)) x (.ins C dx [])) (fun v H2 => v = .non ∧ Q (.ref x) H2) (E σ)) :
    wpAny (model X.prog X.w) X.A (call (.ref C) us) (EP X pins σ Q) X.xe s := by
  have hq := h (s.heap.objs.size + 1) s.heap.objs.size (I.hok.fresh (Nat.le_succ _)) (I.hok.fresh (Nat.le_refl _)) (Nat.ne_of_lt (Nat.lt_succ_self _))
  have I2 := Inv.made (C := C) I
  have r2 : Vals (V.ref (s.heap.objs.size + 1) :: (vs ++ dvs)) (Value.ref (s.heap.objs.size + 1) :: (us ++ ds)) := .cons rfl (r.append hd)
  have hl : (Value.ref (s.heap.objs.size + 1) :: us ++ ds).length = ps.length := by
    have e := r2.length
    rw [F.len _ _ _ _ hq] at e
    exact e.symm
  refine wpAny_call (make_map (f := f) I.kIn M.makes M.init (beq_iff_eq.mp M.fn) (codeAny_mono (F.run _ X.stack _ _ ⟨Value.ref (s.heap.objs.size + 1) :: us, []⟩ (Value.ref (s.heap.objs.size + 1) :: (us ++ ds)) _ _ (E σ) (hr.make C us [])
    (I2.env0.make C us []) (hb _ (Value.ref (s.heap.objs.size + 1) :: us) I2.kIn hl) r2 hq) fun r s' hq' => ?_))
  cases r with
  | error e => exact hx pins _ _ e s' I2 hq'
  | ok fl =>
    cases fl with
    | ret u =>
      obtain ⟨v, H', I3, rv, ev, q3⟩ := I2.after hq'
      subst ev
      exact ⟨rv, ⟨V.ref (s.heap.objs.size + 1), H', I3, rfl, q3⟩⟩
    | next => exact False.elim hq'
    | brk => exact False.elim hq'
    | cont => exact False.elim hq'
def tMakeS (C : Addr) (sp : Sp) (dvs : List V) (E : L2.St → XK) (t : TA) : TE := fun σ H Q => t σ H fun vs H1 => ∀ x dx, H1 x = none → H1 dx = none → dx ≠ x → sp (.ref x :: (vs ++ dvs)) (upd (upd H1 dx (.own x)) x (.ins C dx [])) (fun v H2 => v = .non ∧ Q (.ref x) H2) (E σ)
theorem pe_makeS (M : L2.Mk X.K C f) (F : FnOk X.prog X.w X.K X.mg X.base CX k f fd ps sp) (hr : Room (k + 1) X.A) (hg : Gl X x) (hm : X.mg x = some (.ref C)) (hb : Binds X.K fd ps ds) (hd : Vals dvs ds) (hx : ∀ σ, PassesAt CX X σ (E σ))
    (ha : PA X (e :: es) t) (hdb : (x == ("__debug__" : Str)) = false := by decide) (he : starEach (e :: es) X.env = (false, eval e X.env) :: starEach es X.env := by rfl) (hpl : (backTo pos (starEach es X.env)).any (·.1) = false := by rfl) :
    PE X (.Call (.Name x p) (e :: es) [] pos) (tMakeS C sp dvs E t) := by
  refine ⟨fun pins s σ H Q I h => ?_⟩
  refine wpAny_Call_Name_kw (ld_glob I hg hm ?_ hdb)
  refine PySem.W.callWith_K (h₀ := X.base) I.ok.mod.kin M.kp (thn (ha.run pos pins s σ H _ I h) fun us s1 ⟨vs, H1, I1, r, q⟩ => ⟨I1.kIn, ?_⟩) he hpl
  exact run_makeS M F hr hb hd (hx σ) I1 r q
end
/-- an expression whose exceptions are wished for at the slots it is evaluated at -/
def MVs (X : Cx) (E : L2.St → XK) (e : Expr) (v : Ev) : Prop := PE X e (fun σ H Q => trE X.kx (E σ) v σ H Q)
section
variable {X : Cx} {E : L2.St → XK} {e : Expr} {es : List Expr} {vs : EvA} {p pos : Pos} {x C : Str} {fa : Addr} {k : Nat} {fd : FuncData} {ps : List Str} {g : FC} {dvs : List V} {dds : List D} {ds : List Value}
/-- what is evaluated first raises nothing -/
@[simp] def vOkA (vs : EvA) : EvA := fun ρ M => match vs ρ M with
  | some (.ok ds M1) => some (.ok ds M1)
  | _ => none
theorem vOkA_ok {ρ : Sl} {M : Mem} {r : Res (List D)} (h : vOkA vs ρ M = some r) : ∃ ds M1, r = .ok ds M1 ∧ vs ρ M = some (.ok ds M1) := by
  unfold vOkA at h
  split at h
  · rename_i ds M1 hv
    cases h
    exact ⟨ds, M1, rfl, hv⟩
  · cases h
theorem mvs_mk (Mk : L2.Mk X.K (cad X.K C) fa) (F : OkM X.prog X.w X.K X.mg X.base k fa fd ps g) (hr : Room (k + 1) X.A) (hg : Gl X x) (hm : X.mg x = some (.ref (cad X.K C))) (hb : Binds X.K fd ps ds) (hv : Vals dvs ds) (hd : ∀ μ H, RVs X.kx μ H dvs dds) (hx : ∀ σ, PassesAt (L2.CX X.prog X.w) X σ (E σ)) (ha : MA X E0 (e :: es) vs)
    (hdb : (x == ("__debug__" : Str)) = false := by decide) (he : starEach (e :: es) X.env = (false, eval e X.env) :: starEach es X.env := by rfl) (hpl : (backTo pos (starEach es X.env)).any (·.1) = false := by rfl) :
    MVs X E (.Call (.Name x p) (e :: es) [] pos) (vMk C g ps.length dds (vOkA vs)) := PE.imp (pe_makeS Mk F hr hg hm hb hv hx ha hdb he hpl) fun σ H Q ⟨μ, ρ, M, r, hs, hm, e, q⟩ => by
      unfold vMk at e
      cases h : vOkA vs ρ M with
      | none => rw [h] at e; cases e
      | some r1 =>
        obtain ⟨ds1, M1, rfl, hv1⟩ := vOkA_ok h
        rw [h] at e
        refine ⟨μ, ρ, M, _, hs, hm, hv1, fun μ1 xs H1 l hm1 rx => ?_⟩
        simp only [bnd_ok] at e
        split at e
        · rename_i hl
          intro x dx h1 h2 h3
          have q1 : OutE X.kx (E σ) μ1 H1 r Q := by
            cases r with
            | ok d M' => exact fun μ' y H' l' m' ry => q μ' y H' (l.trans l') m' ry
            | err z M' => exact fun μ' H' C d l' m' rz => q μ' H' C d (l.trans l') m' rz
          exact make_c hl hm1 (rx.append (hd μ1 H1)) e q1 h1 h2 h3
        · cases e
end
/-! ### what a suite holds -/
/-- slot i holds the exception x, an object at a -/
structure Hd where
  i : Nat
  a : Addr
  cls : Value
  d : Option Addr
  x : Exn
def HJ (K : Fw) (h : Hd) (μ : Wd) (H : Hp) (σ : L2.St) : Prop := σ[h.i]? = some (some (.ref h.a)) ∧ RX K μ H h.cls h.d h.x
theorem HJ.le {K : Fw} {h : Hd} {μ μ' : Wd} {H H' : Hp} {M : Mem} {σ : L2.St} (r : RM K μ H M) (l : Le μ H μ' H') (j : HJ K h μ H σ) : HJ K h μ' H' σ := ⟨j.1, j.2.le r l⟩
def trX {α β : Type} (R : Wd → Hp → β → α → Prop) (K : Fw) (h : Hd) (v : Sl → Mem → Option (Res α)) : L2.St → Hp → (β → Hp → Prop) → Prop := fun σ H Q =>
  ∃ μ ρ M r, HJ K h μ H σ ∧ RS K μ H σ ρ ∧ RM K μ H M ∧ v ρ M = some r ∧ Out R K E0 μ H r Q
theorem trX_bnd {α β γ δ : Type} {R : Wd → Hp → β → α → Prop} {R' : Wd → Hp → δ → γ → Prop} {K : Fw} {h : Hd} {v : Sl → Mem → Option (Res α)} {k : α → Mem → Option (Res γ)} {μ : Wd} {ρ : Sl} {M : Mem} {σ : L2.St} {H : Hp} {r : Res γ} {Q : δ → Hp → Prop}
    {P : β → Hp → Prop} (hj : HJ K h μ H σ) (hs : RS K μ H σ ρ) (hm : RM K μ H M) (e : bnd (v ρ M) k = some r) (q : Out R' K E0 μ H r Q)
    (step : ∀ μ1 x H1 a M1, Le μ H μ1 H1 → HJ K h μ1 H1 σ → RS K μ1 H1 σ ρ → RM K μ1 H1 M1 → R μ1 H1 x a → k a M1 = some r → Out R' K E0 μ1 H1 r Q → P x H1) : trX R K h v σ H P := by
  cases hv : v ρ M with
  | none => rw [hv] at e; cases e
  | some r1 =>
    refine ⟨μ, ρ, M, r1, hj, hs, hm, hv, ?_⟩
    rw [hv] at e
    cases r1 with
    | err x M1 => cases e; exact q
    | ok a M1 =>
      intro μ1 x H1 l m1 rx
      refine step μ1 x H1 a M1 l (hj.le hm l) (hs.le hm l) m1 rx e ?_
      cases r with
      | ok d M' => exact fun μ' y H' l' m' ry => q μ' y H' (l.trans l') m' ry
      | err z M' => exact fun μ' H' C d l' m' rz => q μ' H' C d (l.trans l') m' rz
def MVx (X : Cx) (h : Hd) (e : Expr) (v : Ev) : Prop := PE X e (trX (RVq X.kx) X.kx h v)
def MTx (X : Cx) (h : Hd) (e : Expr) (v : EvT) : Prop := PT X e (trX (fun _ _ (x : Bool) d => x = d) X.kx h v)
def MWx (X : Cx) (h : Hd) (e : Expr) (v : EvT) : Prop := PW X e (trX (fun _ _ (x : Bool) d => x = d) X.kx h v)
section
variable {X : Cx} {h : Hd} {a b c : Expr} {va vb : Ev} {ta tb : EvT} {pos : Pos}
theorem mvx_of (ha : MV X E0 a va) : MVx X h a va := PE.imp ha fun σ H Q ⟨μ, ρ, M, r, _, hs, hm, e, q⟩ => ⟨μ, ρ, M, r, hs, hm, e, q⟩
theorem trx_op {r : R2} {f : F2} (k : Sim2 X.kx E0 r f) {σ : L2.St} {H : Hp} {Q : VK} (hh : trX (RVq X.kx) X.kx h (vOp f va vb) σ H Q) : tOp r (trX (RVq X.kx) X.kx h va) (trX (RVq X.kx) X.kx h vb) σ H Q := by
  obtain ⟨μ, ρ, M, res, hj, hs, hm, e, q⟩ := hh
  exact trX_bnd hj hs hm e q fun μ1 x H1 a M1 l hj1 hs1 hm1 rx e1 q1 => trX_bnd hj1 hs1 hm1 e1 q1 fun μ2 y H2 b M2 l2 hj2 hs2 hm2 ry e2 q2 => k μ2 H2 M2 x y a b _ Q hm2 (rx.le hm1 l2) ry e2 q2
theorem mvx_cmp {op : CmpOp} {r : R2} {f : F2} (ho : OpR X (compareOp op) r) (k : Sim2 X.kx E0 r f) (ha : MVx X h a va) (hb : MVx X h b vb) (hm : behindInMarks op b = false) : MVx X h (.Compare a [op] [b] pos) (vOp f va vb) := PE.imp (pe_cmpR ho ha hb hm) fun _ _ _ z => trx_op k z
theorem mtx_truth (ha : MVx X h a va) (he : ∀ whole, isTrue a X.env whole = (do let v ← whole; standAt a.pos; holding [v] (truthy v)) := by intro _; rfl) : MTx X h a (vTru va) :=
  PT.imp (pt_truth ha he) fun σ H Q ⟨μ, ρ, M, r, hj, hs, hm, e, q⟩ => trX_bnd hj hs hm e q fun μ1 x H1 d M1 l hj1 hs1 hm1 rx e1 q1 => by
    cases ht : tru M1 d with
    | none => rw [ht] at e1; cases e1
    | some k =>
      rw [ht] at e1; cases e1
      exact ⟨k, tru_v hm1 rx ht, q1 μ1 k H1 Le.refl hm1 rfl⟩
theorem mtx_not (ha : MTx X h a ta) : MTx X h (.UnaryOp .Not a pos) (vNotT ta) := PT.imp (pt_not ha) fun σ H Q ⟨μ, ρ, M, r, hj, hs, hm, e, q⟩ => trX_bnd hj hs hm e q fun μ1 x H1 d M1 l hj1 hs1 hm1 rx e1 q1 => by
  cases e1
  subst rx
  exact q1 μ1 _ H1 Le.refl hm1 rfl
theorem MWx.mt (z : MWx X h a ta) : MTx X h a ta := PW.pt z
theorem mwx_and1 (ha : MTx X h a ta) : MWx X h (.BoolOp .And [a] pos) ta := pw_and1 ha
theorem mwx_and {rest : List Expr} (ha : MTx X h a ta) (hb : MWx X h (.BoolOp .And (b :: rest) pos) tb) : MWx X h (.BoolOp .And (a :: b :: rest) pos) (vAndT ta tb) :=
  PW.imp (pw_and ha hb) fun σ H Q ⟨μ, ρ, M, r, hj, hs, hm, e, q⟩ => trX_bnd hj hs hm e q fun μ1 x H1 d M1 l hj1 hs1 hm1 rx e1 q1 => by
    subst rx
    cases x with
    | true => rw [if_pos rfl] at e1 ⊢; exact ⟨μ1, ρ, M1, r, hj1, hs1, hm1, e1, q1⟩
    | false =>
      rw [if_neg Bool.false_ne_true] at e1 ⊢
      cases e1
      exact q1 μ1 false H1 Le.refl hm1 rfl
theorem mvx_one {op} (ha : MVx X h a va) : MVx X h (.BoolOp op [a] pos) va := pe_one ha
theorem mvx_and {rest : List Expr} (ha : MVx X h a va) (hb : MVx X h (.BoolOp .And (b :: rest) pos) vb) : MVx X h (.BoolOp .And (a :: b :: rest) pos) (vAnd va vb) :=
  PE.imp (pe_andT ha hb) fun σ H Q ⟨μ, ρ, M, r, hj, hs, hm, e, q⟩ => trX_bnd hj hs hm e q fun μ1 x H1 d M1 l hj1 hs1 hm1 rx e1 q1 => by
    split at e1
    · rename_i h
      refine ⟨true, tru_v hm1 rx h, ?_⟩
      rw [if_pos rfl]
      exact ⟨μ1, ρ, M1, r, hj1, hs1, hm1, e1, q1⟩
    · rename_i h
      refine ⟨false, tru_v hm1 rx h, ?_⟩
      rw [if_neg Bool.false_ne_true]
      cases e1
      exact q1 μ1 _ H1 Le.refl hm1 rx
    · cases e1
/-- isinstance of a value that is read of the exception -/
theorem mvx_isi {cs : List Str} {kit : Ty → Option Bool} {cv : V} {u : Value} {x : Str} {p pT : Pos} (hcs : ∀ C ∈ cs, IsT X.K (cad X.K C)) (hc : ClsV cv u) (hk : ∀ (t : Ty) b, kit t = some b → PySem.W.kitOne X.K (t.val X.K) u = some b) (hT : PE X (.Name x pT) (tC cv)) (hg : Gl X "isinstance") (hm : X.mg "isinstance" = none) (he : MVx X h a va)
    (hs1 : starEach [a, .Name x pT] X.env = (false, eval a X.env) :: starEach [.Name x pT] X.env := by rfl) (hs2 : starEach [.Name x pT] X.env = (false, eval (.Name x pT) X.env) :: starEach [] X.env := by rfl) (hpl : (backTo pos (starEach [.Name x pT] X.env)).any (·.1) = false := by rfl) :
    MVx X h (.Call (.Name "isinstance" p) [a, .Name x pT] [] pos) (vIsi cs kit va) :=
  PE.imp (pe_callB call_isi hg hm Fh.bt_isinstance (pa_cons he (pa_cons hT pa_nil hs2) hs1) (by decide) (by decide) hs1 hpl) fun σ H Q ⟨μ, ρ, M, r, hj, hs, hm, e, q⟩ => trX_bnd hj hs hm e q fun μ1 y H1 d M1 l hj1 hs1 hm1 rx e1 q1 => by
    cases h : isiM cs kit M1 d with
    | none => rw [h] at e1; cases e1
    | some b =>
      rw [h] at e1; cases e1
      obtain ⟨t, h1, h2⟩ := isi_ty hcs hm1 rx h
      exact ⟨y, cv, t.val X.K, u, b, rfl, hc, h1, hk t b h2, q1 μ1 _ H1 Le.refl hm1 (.bl b)⟩
end
/-! ### the exception itself -/
section
variable {X : Cx} {h : Hd} {oe : Obj} {pn : List (Addr × Obj)} {pos p : Pos} {n f : Str}
/-- e.f -/
@[simp] def vXf (cs : List Str) (x : Exn) (f : Str) : Ev := fun _ M => match x.cls, x.fs with
  | .c C, some fs => if C ∈ cs then (fs.lookup f).map fun d => .ok d M else none
  | _, _ => none
theorem mvx_fld {cs : List Str} (hcs : ∀ C ∈ cs, XfC X.K (cad X.K C) ∧ PySem.W.findIn X.K (.ref (cad X.K C)) f = some none) (hz : Zc h.cls h.d oe) (hf : ∃ vs, oe.data = .fields vs) (hn : PE (X.suite h.a ((h.a, oe) :: pn)) (.Name n p) (tVar h.i)) (hb : attributeBase (.Name n p) f X.env (eval (.Name n p) X.env) = eval (.Name n p) X.env := by rfl) :
    MVx (X.suite h.a ((h.a, oe) :: pn)) h (.Attribute (.Name n p) f pos) (vXf cs h.x f) := by
  refine ⟨fun pins s σ H Q I ⟨μ, ρ, M, r, hj, hs, hm, e, q⟩ => ?_⟩
  obtain ⟨hi, hcl, hx⟩ := hj
  unfold vXf at e
  split at e
  · rename_i C fs h1 h2
    split at e
    · rename_i hC
      cases hl : fs.lookup f with
      | none => rw [hl] at e; cases e
      | some dv =>
        rw [hl] at e; cases e
        rw [h2] at hx
        obtain ⟨dd, gs, e1, e2, e3⟩ := hx
        obtain ⟨v, k1, k2⟩ := (e3.lookup f).1 dv hl
        rw [h1] at hcl
        exact (pe_xf (d := h.d) (hcs C hC).1 (hcs C hC).2 hz hf hn hb).run pins s σ H Q I ⟨.ref h.a, hi, rfl, hcl, dd, gs, v, e1, e2, k1, q μ _ H Le.refl hm k2⟩
    · cases e
  · cases e
/-- isinstance(e, c) -/
@[simp] def vXi (kit : Ty → Option Bool) (x : Exn) : Ev := fun _ M => (kit x.cls).map fun b => .ok (.bl b) M
/-- what is asked of an exception's class -/
structure XiC (K : PySem.W.Frag) (D : Addr) : Prop where
  cl : (PySem.W.clsIn K D).isSome = true
  hg : PySem.W.findIn K (.ref D) "__getattribute__" = some (some (.builtin "BaseException.__getattribute__"))
  hk : PySem.W.findIn K (.ref D) "__getattr__" = some none
  hs : PySem.W.subIn K (.ref D) (.type "BaseException") = some true
  ha : PySem.W.findIn K (.ref D) "__class__" = some (some (.builtin "object.__class__"))
  hn : PySem.W.specialIn K (.builtin "object.__class__") "__get__" = some (some (.builtin "getset_descriptor.__get__"))
  ht : PySem.W.takesIn K (.builtin "object.__class__") = some true
  hm : PySem.W.mroIn K D (.type "object") = some true
def xiB (K : PySem.W.Frag) (D : Addr) : Bool := (PySem.W.clsIn K D).isSome && (decide (PySem.W.findIn K (.ref D) "__getattribute__" = some (some (.builtin "BaseException.__getattribute__"))) && (decide (PySem.W.findIn K (.ref D) "__getattr__" = some none) && (decide (PySem.W.subIn K (.ref D) (.type "BaseException") = some true) &&
  (decide (PySem.W.findIn K (.ref D) "__class__" = some (some (.builtin "object.__class__"))) && (decide (PySem.W.specialIn K (.builtin "object.__class__") "__get__" = some (some (.builtin "getset_descriptor.__get__"))) && (decide (PySem.W.takesIn K (.builtin "object.__class__") = some true) && decide (PySem.W.mroIn K D (.type "object") = some true)))))))
theorem xiB_ok {K : PySem.W.Frag} {D : Addr} (c : xiB K D = true) : XiC K D := by
  obtain ⟨c1, c⟩ := He.ba c
  obtain ⟨c2, c⟩ := He.ba c
  obtain ⟨c3, c⟩ := He.ba c
  obtain ⟨c4, c⟩ := He.ba c
  obtain ⟨c5, c⟩ := He.ba c
  obtain ⟨c6, c⟩ := He.ba c
  obtain ⟨c7, c8⟩ := He.ba c
  exact ⟨c1, of_decide_eq_true c2, of_decide_eq_true c3, of_decide_eq_true c4, of_decide_eq_true c5, of_decide_eq_true c6, of_decide_eq_true c7, of_decide_eq_true c8⟩
/-- its answer, by the class of the exception -/
@[simp] def kitX (yes no : List Str) : Ty → Option Bool
  | .c C => if C ∈ yes then some true else if C ∈ no then some false else none
  | _ => none
/-- an object at a of the class D, whose dict is d -/
theorem inst_of {K : Fw} {μ : Wd} {H : Hp} {pins : List (Addr × Obj)} {σ : L2.St} {s : Shared} {D : Addr} (I : L2.Inv (X.suite h.a ((h.a, oe) :: pn)) pins σ H s) (hz : Zc h.cls h.d oe) (hf : ∃ vs, oe.data = .fields vs) (hD : h.cls = .ref D) (hx : RX K μ H h.cls h.d h.x) :
    ∃ od, PySem.W.InstAt s.heap h.a oe D od := by
  obtain ⟨hget, _⟩ := I.pin (h.a, oe) (List.mem_append_left _ List.mem_cons_self)
  obtain ⟨vs, hv⟩ := hf
  obtain ⟨z1, z2⟩ := hz
  have nc : PySem.W.notCls oe = true := by unfold PySem.W.notCls; rw [hv]
  obtain ⟨_, hx2⟩ := hx
  cases hfs : h.x.fs with
  | none =>
    rw [hfs] at hx2
    exact ⟨none, hget, z1.trans hD, nc, by rw [z2, hx2]; trivial⟩
  | some fs =>
    rw [hfs] at hx2
    obtain ⟨dd, gs, e1, e2, e3⟩ := hx2
    have ho : ObjOk X.prog X.w H s.heap dd (.xd gs) := I.hok dd _ e2
    obtain ⟨mA, hns, hr⟩ := ho
    obtain ⟨od, hod, _⟩ := lookIn_ns hns
    exact ⟨some od, hget, z1.trans hD, nc, by rw [z2, e1]; exact hod⟩
theorem mvx_is {yes no : List Str} {cv : V} {u : Value} {x : Str} {pT pos' : Pos} (hy : ∀ C ∈ yes, XiC X.K (cad X.K C) ∧ PySem.W.kitOne X.K (.ref (cad X.K C)) u = some true) (hno : ∀ C ∈ no, XiC X.K (cad X.K C) ∧ PySem.W.kitOne X.K (.ref (cad X.K C)) u = some false) (hc : ClsV cv u) (hz : Zc h.cls h.d oe) (hf : ∃ vs, oe.data = .fields vs)
    (hT : PE (X.suite h.a ((h.a, oe) :: pn)) (.Name x pT) (tC cv)) (hg : Gl X "isinstance") (hm : X.mg "isinstance" = none) (hn : PE (X.suite h.a ((h.a, oe) :: pn)) (.Name n p) (tVar h.i))
    (hs1 : starEach [.Name n p, .Name x pT] X.env = (false, eval (.Name n p) X.env) :: starEach [.Name x pT] X.env := by rfl) (hs2 : starEach [.Name x pT] X.env = (false, eval (.Name x pT) X.env) :: starEach [] X.env := by rfl) (hpl : (backTo pos (starEach [.Name x pT] X.env)).any (·.1) = false := by rfl) :
    MVx (X.suite h.a ((h.a, oe) :: pn)) h (.Call (.Name "isinstance" pos') [.Name n p, .Name x pT] [] pos) (vXi (kitX yes no) h.x) := by
  refine ⟨fun pins s σ H Q I ⟨μ, ρ, M, r, hj, hs, hm', e, q⟩ => ?_⟩
  obtain ⟨hi, hcl, hx⟩ := hj
  unfold vXi at e
  cases hk : kitX yes no h.x.cls with
  | none => rw [hk] at e; cases e
  | some b =>
    rw [hk] at e; cases e
    obtain ⟨C, hC, fact⟩ : ∃ C, h.x.cls = .c C ∧ XiC X.K (cad X.K C) ∧ PySem.W.kitOne X.K (.ref (cad X.K C)) u = some b := by
      cases hcx : h.x.cls with
      | b t => rw [hcx] at hk; cases hk
      | c C =>
        rw [hcx] at hk
        simp only [kitX] at hk
        split at hk
        · rename_i hC; cases hk; exact ⟨C, rfl, hy C hC⟩
        · split at hk
          · rename_i hC; cases hk; exact ⟨C, rfl, hno C hC⟩
          · cases hk
    have hD : h.cls = .ref (cad X.K C) := by rw [hcl, hC]; rfl
    have rule : CallR (X.suite h.a ((h.a, oe) :: pn)) (.builtin "isinstance") (fun xs H' Q' => xs = [.ref h.a, cv] ∧ RX X.kx μ H' h.cls h.d h.x ∧ Q' (.bl b) H') := by
      intro pins s σ H' xs us Q' I' r' hq
      obtain ⟨rfl, hx', q'⟩ := hq
      cases r' with
      | cons rx rr =>
        cases rr with
        | cons rt rr =>
          cases rr
          cases rx
          have ec := hc.eq rt
          subst ec
          obtain ⟨od, J⟩ := inst_of (X := X) I' hz hf hD hx'
          have T := fact.1
          exact PySem.W.kia_one (PySem.W.kitx_exc T.cl T.hg T.hk T.hs T.ha T.hn T.ht T.hm) I'.kIn J fact.2 (fun z => nomatch z) fun tk => ⟨.bl b, H', I'.kept (t' := tk) fun _ _ z => z, rfl, q'⟩
    refine (pe_callB (X := X.suite h.a ((h.a, oe) :: pn)) rule hg hm Fh.bt_isinstance (pa_cons hn (pa_cons hT pa_nil hs2) hs1) (by decide) (by decide) hs1 hpl).run pins s σ H Q I ⟨.ref h.a, hi, ?_⟩
    exact ⟨rfl, ⟨hcl, hx⟩, q μ _ H Le.refl hm' (.bl b)⟩
end
/-! ### statements of a suite -/
def OutSX (K : Fw) (h : Hd) (μ : Wd) (H : Hp) (r : Fl) (D : Ends) : Prop := match r with
  | .nx ρ' M' => ∀ μ' σ' H', Le μ H μ' H' → RM K μ' H' M' → RS K μ' H' σ' ρ' → HJ K h μ' H' σ' → D.nx σ' H'
  | .rt d M' => ∀ μ' x H', Le μ H μ' H' → RM K μ' H' M' → RV K μ' H' x d → D.rt x H'
  | _ => False
theorem OutSX.le {K : Fw} {h : Hd} {μ μ1 : Wd} {H H1 : Hp} {r : Fl} {D : Ends} (l : Le μ H μ1 H1) (q : OutSX K h μ H r D) : OutSX K h μ1 H1 r D := by
  cases r with
  | nx ρ M => exact fun μ' σ' H' l' => q μ' σ' H' (l.trans l')
  | rt d M => exact fun μ' σ' H' l' => q μ' σ' H' (l.trans l')
  | bk ρ M => exact q
  | ct ρ M => exact q
  | er x M => exact q
def trSX (K : Fw) (h : Hd) (v : Sv) : TS := fun D σ H => ∃ μ ρ M r, HJ K h μ H σ ∧ RS K μ H σ ρ ∧ RM K μ H M ∧ v ρ M = some r ∧ OutSX K h μ H r D
def MSx (X : Cx) (h : Hd) (st : Stmt) (v : Sv) : Prop := PS X st (trSX X.kx h v)
def MSsx (X : Cx) (h : Hd) (sts : List Stmt) (v : Sv) : Prop := PSs X sts (trSX X.kx h v)
theorem trSX_bnd {α β : Type} {R : Wd → Hp → β → α → Prop} {K : Fw} {h : Hd} {v : Sl → Mem → Option (Res α)} {k : α → Mem → Option Fl} {μ : Wd} {ρ : Sl} {M : Mem} {σ : L2.St} {H : Hp} {r : Fl} {D : Ends}
    {P : β → Hp → Prop} (hj : HJ K h μ H σ) (hs : RS K μ H σ ρ) (hm : RM K μ H M) (e : bndS (v ρ M) k = some r) (q : OutSX K h μ H r D)
    (step : ∀ μ1 x H1 a M1, Le μ H μ1 H1 → HJ K h μ1 H1 σ → RS K μ1 H1 σ ρ → RM K μ1 H1 M1 → R μ1 H1 x a → k a M1 = some r → OutSX K h μ1 H1 r D → P x H1) : trX R K h v σ H P := by
  cases hv : v ρ M with
  | none => rw [hv] at e; cases e
  | some r1 =>
    refine ⟨μ, ρ, M, r1, hj, hs, hm, hv, ?_⟩
    rw [hv] at e
    cases r1 with
    | err x M1 => cases e; exact q.elim
    | ok a M1 => exact fun μ1 x H1 l m1 rx => step μ1 x H1 a M1 l (hj.le hm l) (hs.le hm l) m1 rx e (q.le l)
section
variable {X : Cx} {h : Hd} {st : Stmt} {sts : List Stmt} {va vb : Sv} {e : Expr} {ve : Ev} {pos : Pos}
theorem mssx_nil : MSsx X h [] vSkip := PSs.imp pss_nil fun D σ H ⟨μ, ρ, M, r, hj, hs, hm, e, q⟩ => by
  cases e
  exact q μ σ H Le.refl hm hs hj
theorem mssx_cons (h1 : MSx X h st va) (h2 : MSsx X h sts vb) : MSsx X h (st :: sts) (vSeq va vb) := PSs.imp (pss_cons h1 h2) fun D σ H ⟨μ, ρ, M, r, hj, hs, hm, e, q⟩ => by
  unfold vSeq at e
  cases hv : va ρ M with
  | none => rw [hv] at e; cases e
  | some r1 =>
    refine ⟨μ, ρ, M, r1, hj, hs, hm, hv, ?_⟩
    rw [hv] at e
    cases r1 with
    | nx ρ1 M1 => exact fun μ1 σ1 H1 l m1 s1 j1 => ⟨μ1, ρ1, M1, r, j1, s1, m1, e, q.le l⟩
    | rt d M1 => cases e; exact q
    | bk ρ1 M1 => cases e; exact q
    | ct ρ1 M1 => cases e; exact q
    | er x M1 => cases e; exact q
theorem mssx_one (h1 : MSx X h st va) : MSsx X h [st] va := pss_one h1
theorem msx_ret (he : MVx X h e ve) : MSx X h (.Return (some e) pos) (vRet ve) := PS.imp (ps_ret he) fun D σ H ⟨μ, ρ, M, r, hj, hs, hm, e, q⟩ =>
  trSX_bnd hj hs hm e q fun μ1 x H1 a M1 l hj1 hs1 hm1 rx e1 q1 => by
    cases e1
    exact q1 μ1 x H1 Le.refl hm1 rx
theorem msx_if {c : Expr} {a b : List Stmt} {tc : EvT} (hc : MTx X h c tc) (ha : MSsx X h a va) (hb : MSsx X h b vb) : MSx X h (.If c a b pos) (vIfS tc va vb) := PS.imp (ps_if hc ha hb) fun D σ H ⟨μ, ρ, M, r, hj, hs, hm, e, q⟩ =>
  trSX_bnd hj hs hm e q fun μ1 x H1 a M1 l hj1 hs1 hm1 rx e1 q1 => by
    subst rx
    cases x with
    | true => rw [if_pos rfl] at e1 ⊢; exact ⟨μ1, ρ, M1, r, hj1, hs1, hm1, e1, q1⟩
    | false => rw [if_neg Bool.false_ne_true] at e1 ⊢; exact ⟨μ1, ρ, M1, r, hj1, hs1, hm1, e1, q1⟩
end
/-! ### try: e, except C as n: suite -/
@[simp] def endS (i : Nat) (r : Option Fl) : Option Fl := match r with
  | some (.nx ρ' M') => some (.nx (ρ'.set i none) M')
  | some (.rt d M') => some (.rt d M')
  | _ => none
@[simp] def vTryE (vb : Ev) (kit : Ty → Option Bool) (i : Nat) (vs : Exn → Sv) : Sv := fun ρ M => match vb ρ M with
  | some (.ok _ M1) => some (.nx ρ M1)
  | some (.err x M1) => match kit x.cls with
    | some true => if i < ρ.length then endS i (vs x (ρ.set i none) M1) else none
    | some false => some (.er x M1)
    | none => none
  | none => none
section
variable {K : Fw} {μ : Wd} {H : Hp} {σ : L2.St} {ρ : Sl}
theorem RS.setN (s : RS K μ H σ ρ) (i : Nat) (v : Option V) : RS K μ H (σ.set i v) (ρ.set i none) :=
  ⟨by rw [List.length_set, List.length_set, s.len], fun j e hj => by
    rw [List.getElem?_set] at hj ⊢
    by_cases q : i = j
    · rw [if_pos q] at hj
      split at hj <;> cases hj
    · rw [if_neg q] at hj ⊢
      exact s.get j e hj⟩
end
section
variable {X : Cx} {E : XK} {cn n : Str} {c : Value} {i : Nat} {eb : Expr} {vb : Ev} {suite : List Stmt} {b₀ : Stmt} {np pos pos' p1 : Pos} {kit : Ty → Option Bool} {vs : Exn → Sv}
theorem ms_tryE (hst : X.stack = X.env :: X.outer) (hf : X.env.frame = some X.env.locals) (hN : X.N.Nodup) (hi : X.N[i]? = some n) (hln : X.env.kindOf n = some .local) (hc : Names X cn c) (tk : Takes X (fun c d _ H => E c d H)) (hk : ∀ (t : Ty) b, kit t = some b → PySem.W.exmOne X.K (t.val X.K) c = some b)
    (hb : ∀ (W : WX) (pn : List (Addr × Obj)) (xe : Value → Shared → Prop), Takes (X.tr pn xe) W → PassesOwn (model X.prog X.w) X.A X.env xe → MVs (X.tr pn xe) (WE W) eb vb)
    (hsu : ∀ (x : Exn) (a : Addr) (oe : Obj) (cls : Value) (d : Option Addr) (pn : List (Addr × Obj)), Zc cls d oe → (∃ vs, oe.data = .fields vs) → MSsx (X.suite a ((a, oe) :: pn)) ⟨i, a, cls, d, x⟩ (b₀ :: suite) (vs x))
    (hsw : swapsWith eb none p1.line X.env = pure false := by rfl) :
    MS X E (.Try [.Expr eb p1] [.ExceptHandler (some (.Name cn np)) (some n) (b₀ :: suite) pos'] [] [] pos) (vTryE vb kit i vs) :=
  PS.imp (ps_try_as (ts := fun a cls d => fun D σ H => ∃ x, trSX X.kx ⟨i, a, cls, d, x⟩ (vs x) D σ H) (tb := fun W => tDrop (fun σ H Q => trE X.kx (WE W σ) vb σ H Q)) hst hf hN hi hln hc tk (fun W pn xe tkW po => pss_one (ps_expr (hb W pn xe tkW po) hsw))
    (fun a oe cls d pn hz hv => ⟨fun pins s σ H D I ⟨x, z⟩ => (hsu x a oe cls d pn hz hv).run pins s σ H D I z⟩)) fun D σ H ⟨μ, ρ, M, r, hs, hm, e, q⟩ => by
      unfold vTryE at e
      cases hv : vb ρ M with
      | none => rw [hv] at e; cases e
      | some r1 =>
        refine ⟨μ, ρ, M, r1, hs, hm, hv, ?_⟩
        rw [hv] at e
        cases r1 with
        | ok d0 M1 =>
          cases e
          exact fun μ' y H' l hm' rx => q μ' σ H' l hm' (hs.le hm l)
        | err x M1 =>
          intro μ' H' C d l hm' rX
          simp only at e
          cases hkx : kit x.cls with
          | none => rw [hkx] at e; cases e
          | some b =>
            rw [hkx] at e
            refine ⟨b, by rw [rX.1]; exact hk _ _ hkx, fun hb a ha => ?_, fun hb => ?_⟩
            · subst hb
              simp only at e
              split at e
              · rename_i hil
                have hs' := hs.le hm l
                cases hvx : vs x (ρ.set i none) M1 with
                | none => rw [hvx] at e; cases e
                | some r2 =>
                  rw [hvx] at e
                  refine ⟨x, μ', ρ.set i none, M1, r2, ⟨?_, rX⟩, hs'.setN i _, hm', hvx, ?_⟩
                  · show (σ.set i (some (.ref a)))[i]? = _
                    rw [List.getElem?_set_self (by rw [hs.len]; exact hil)]
                  · have q' := q.le l
                    cases r2 with
                    | nx ρ' M' => cases e; exact fun μ2 σ2 H2 l2 hm2 hs2 _ => q' μ2 _ H2 l2 hm2 (hs2.setN i none)
                    | rt d' M' => cases e; exact q'
                    | bk ρ' M' => cases e
                    | ct ρ' M' => cases e
                    | er z M' => cases e
              · cases e
            · subst hb
              cases e
              exact q μ' H' C d l hm' rX
end
/-- what a def's body may let out -/
theorem take_def {P : Program} {w : World} {K : PySem.W.Frag} {mg : Str → Option Value} {base : Heap} {N : List Str} {qual : Str} {scope : Scope} {f : Addr} {cd : Value} {A : Around} {outer : List Env} {s : Shared} {H : Hp} {E : XK} :
    Takes (cxOf (L2.CX P w) P w K mg base N qual scope f cd A outer s H E) (fun c d _ H => E c d H) := takes_of rfl rfl rfl rfl
theorem bt_VE : bootBuiltins "ValueError" = some (.type "ValueError") := PyProof.Rows.Boot.«ValueError»
theorem exm_kit {K : PySem.W.Frag} {yes no : List Str} {c : Value} (hy : ∀ C ∈ yes, PySem.W.exmOne K (.ref (cad K C)) c = some true) (hn : ∀ C ∈ no, PySem.W.exmOne K (.ref (cad K C)) c = some false) : ∀ (t : Ty) b, kitX yes no t = some b → PySem.W.exmOne K (t.val K) c = some b := fun t b e => by
  cases t with
  | b a => cases e
  | c C =>
    simp only [kitX] at e
    split at e
    · rename_i hC; cases e; exact hy C hC
    · split at e
      · rename_i hC; cases e; exact hn C hC
      · cases e
def oexB (K : PySem.W.Frag) (C : Addr) : Bool := (match K.lookup C with
    | some ⟨.type T, _, .cls cd, sl⟩ => T == "type" && (cd.hasDict && (!cd.hasDel && ((match cd.mro with
        | .ref C' :: bm => C' == C && PySem.HandSPX.refsVE bm
        | _ => false) && (match sl.toList with
        | [_, _, _, _, some (.builtin nid), _] => nid == "ValueError.__new__"
        | _ => false))))
    | _ => false) && (decide (PySem.W.findIn K (.ref C) "__setattr__" = some (some (.builtin "object.__setattr__"))) && (decide (PySem.W.subIn K (.ref C) (.type "BaseException") = some true) && (decide (PySem.W.typeIn K (.ref C) = some (.type "type")) && PySem.W.keepIn K (.ref C))))
theorem oexB_ok {K : PySem.W.Frag} {C : Addr} (c : oexB K C = true) : OexC K C := by
  obtain ⟨c1, c⟩ := He.ba c
  obtain ⟨c2, c⟩ := He.ba c
  obtain ⟨c3, c⟩ := He.ba c
  obtain ⟨c4, c5⟩ := He.ba c
  refine ⟨?_, of_decide_eq_true c2, of_decide_eq_true c3, of_decide_eq_true c4, c5⟩
  split at c1
  · rename_i T dd cd sl hl
    obtain ⟨d1, c1⟩ := He.ba c1
    obtain ⟨d2, c1⟩ := He.ba c1
    obtain ⟨d3, c1⟩ := He.ba c1
    obtain ⟨d4, d5⟩ := He.ba c1
    have eT : T = "type" := by simpa using d1
    subst eT
    split at d4
    · rename_i C' bm hmro
      obtain ⟨d6, d7⟩ := He.ba d4
      have eC : C' = C := by simpa using d6
      subst eC
      split at d5
      · rename_i k0 k1 k2 k3 nid k5 hsl
        have en : nid = "ValueError.__new__" := by simpa using d5
        subst en
        have esl : sl = #[k0, k1, k2, k3, some (.builtin "ValueError.__new__"), k5] := by
          rw [← Array.toList_inj, hsl]
        subst esl
        obtain ⟨nm, bs, mro, ns, qn, hd, sn, sub, ab, col, del⟩ := cd
        simp only at hmro d2 d3
        subst hmro d2
        have e3 : del = false := by simpa using d3
        subst e3
        exact ⟨nm, qn, ns, bs, bm, sn, sub, ab, col, dd, k0, k1, k2, k3, k5, hl, d7⟩
      · cases d5
    · cases d4
  · cases c1
/-- an own exception class over ValueError, with an own __init__ and one field -/
def xcB (K : PySem.W.Frag) (C : Addr) (f : Str) (fI : Addr) : Bool := oexB K C && (decide (PySem.W.findIn K (.ref C) f = some none) && (decide (PySem.W.findIn K (.ref C) "__init__" = some (some (.ref fI))) && decide (PySem.W.typeIn K (.ref fI) = some (.type "function"))))
theorem xcB_ok {K : PySem.W.Frag} {C : Addr} {f : Str} {fI : Addr} (c : xcB K C f fI = true) : Xc K C f fI := by
  obtain ⟨c1, c⟩ := He.ba c
  obtain ⟨c2, c⟩ := He.ba c
  obtain ⟨c3, c4⟩ := He.ba c
  exact ⟨oexB_ok c1, of_decide_eq_true c2, of_decide_eq_true c3, of_decide_eq_true c4⟩
end Mi
set_option autoImplicit false
/-! Exceptions as values. -/
namespace Mi
open PySem PySem.Spec L2
/-! ### self.f = e, self an exception that is being made -/
section
variable {X : Cx} {E : XK} {e o : Expr} {ve vo : Ev} {pos : Pos} {f : Str}
@[simp] def vSetX (cs : List Str) (f : Str) (vo ve : Ev) : Sv := fun ρ M => bndS (ve ρ M) fun d M1 => bndS (vo ρ M1) fun o M2 => match o with
  | .loc n => match M2[n]? with
    | some (.exc C none) => if C ∈ cs then some (.nx ρ (List.set (M2 ++ [Cell.xdc [(f, d)]]) n (Cell.exc C (some M2.length)))) else none
    | some (.exc C (some m)) => match M2[m]? with
      | some (.xdc fs) => if C ∈ cs ∧ fs.length ≤ 900 then some (.nx ρ (M2.set m (.xdc ((f, d) :: fs)))) else none
      | _ => none
    | _ => none
  | _ => none
theorem ms_ost {cs : List Str} {pos' : Pos} (hc : ∀ C ∈ cs, OexC X.K (cad X.K C) ∧ PySem.W.findIn X.K (.ref (cad X.K C)) f = some none) (ho : MV X E o vo) (he : MV X E e ve) (hs : swapsWith e (some (.Attribute o f pos')) pos.line X.env = pure false := by rfl) : MS X E (.Assign [.Attribute o f pos'] e pos) (vSetX cs f vo ve) :=
  PS.imp (ps_ost ho he hs) fun D σ H ⟨μ, ρ, M, r, hs, hm, e, q⟩ => trS_bnd hs hm e q fun μ1 x H1 d M1 l hs1 hm1 rx e1 q1 => trS_bnd hs1 hm1 e1 q1 fun μ2 y H2 o M2 l2 hs2 hm2 ry e2 q2 => by
    have rx2 := rx.le hm1 l2
    split at e2
    · rename_i n
      split at e2
      · rename_i C hn
        split at e2
        · rename_i hC
          cases e2
          cases ry with
          | @loc _ a ha =>
            have h1 : H2 a = some (exo a (cad X.K C) none) := hm2.cell n a _ ha hn
            refine ⟨a, cad X.K C, rfl, (hc C hC).1, (hc C hC).2, .inl ⟨h1, fun dx hdx hne => ?_⟩⟩
            have l3 : Le μ2 H2 (μ2.push dx) (upd H2 dx (exd dx [(f, x)])) := Le.newc hdx
            have m3 : RM X.kx (μ2.push dx) (upd H2 dx (exd dx [(f, x)])) (M2 ++ [.xdc [(f, d)]]) := hm2.newc hdx ⟨[(f, x)], upd_same, .cons (rx2.le hm2 l3) .nil⟩
            have ha3 : (μ2.push dx).c[n]? = some a := l3.get ha
            have hd3 : (μ2.push dx).c[M2.length]? = some dx := by rw [← hm2.len]; show (μ2.c ++ [dx])[μ2.c.length]? = some dx; simp
            have l4 : Le (μ2.push dx) (upd H2 dx (exd dx [(f, x)])) (μ2.push dx) (upd (upd H2 dx (exd dx [(f, x)])) a (exo a (cad X.K C) (some dx))) := Le.put (List.mem_of_getElem? ha3)
            exact q2 _ σ _ (l3.trans l4) (m3.put ha3 ⟨dx, hd3, upd_same⟩) ((hs2.le hm2 l3).le m3 l4)
        · cases e2
      · rename_i C m hn
        split at e2
        · rename_i fs hf
          split at e2
          · rename_i hC
            cases e2
            cases ry with
            | @loc _ a ha =>
              obtain ⟨dx, k1, k2⟩ := hm2.cell n a _ ha hn
              obtain ⟨gs, g1, g2⟩ := hm2.cell m dx _ k1 hf
              refine ⟨a, cad X.K C, rfl, (hc C hC.1).1, (hc C hC.1).2, .inr ⟨dx, gs, k2, g1, by rw [g2.length]; exact hC.2, ?_⟩⟩
              have l3 : Le μ2 H2 μ2 (upd H2 dx (exd dx ((f, x) :: gs))) := Le.put (List.mem_of_getElem? k1)
              exact q2 μ2 σ _ l3 (hm2.put k1 ⟨_, upd_same, .cons (rx2.le hm2 l3) (g2.le hm2 l3)⟩) (hs2.le hm2 l3)
          · cases e2
        · cases e2
      · cases e2
    · cases e2
end
/-! ### C(e, ..), an exception as a value -/
section
variable {X : Cx} {e : Expr} {es : List Expr} {ta : TA} {p pos : Pos}
def tMkV (C : Addr) (sp : Sp) (dvs : List V) (E : XK) (ta : TA) : TE := fun σ H Q => ta σ H fun vs H1 => vs.length ≤ 1000 ∧ ∀ a, H1 a = none → sp (.ref a :: (vs ++ dvs)) (upd H1 a (exo a C none)) (fun v H2 => v = .non ∧ Q (.ref a) H2) E
theorem pe_mkV {CX : CXT} {E : XK} {x : Str} {C fI : Addr} {k : Nat} {fd : FuncData} {ps : List Str} {sp : Sp} {ds : List Value} {dvs : List V} (T : OexC X.K C) (iC : PySem.W.findIn X.K (.ref C) "__init__" = some (some (.ref fI))) (tI : PySem.W.typeIn X.K (.ref fI) = some (.type "function"))
    (F1 : FnOk X.prog X.w X.K X.mg X.base CX k fI fd ps sp) (hr : Room (k + 1) X.A) (hb : Binds X.K fd ps ds) (hd : Vals dvs ds) (hx : Passes CX X E) (hg : Gl X x) (hm : X.mg x = some (.ref C)) (ha : PA X (e :: es) ta)
    (hdb : (x == ("__debug__" : Str)) = false := by decide) (he : starEach (e :: es) X.env = (false, eval e X.env) :: starEach es X.env := by rfl) (hpl : (backTo pos (starEach es X.env)).any (·.1) = false := by rfl) :
    PE X (.Call (.Name x p) (e :: es) [] pos) (tMkV C sp dvs E ta) := by
  refine ⟨fun pins s σ H Q I h => ?_⟩
  obtain ⟨nm, q, N, bs, bm, sn, sub, ab, col, dd, k0, k1, k2, k3, k5, hC, hbm⟩ := T.cls
  refine wpAny_Call_Name_kw (ld_glob I hg hm ?_ hdb)
  refine PySem.W.callWith_K (h₀ := X.base) I.ok.mod.kin T.kC (thn (ha.run pos pins s σ H _ I h) fun us s1 ⟨vs, H1, I1, r1, hz, q1⟩ => ⟨I1.kIn, ?_⟩) he hpl
  show wpAny _ _ (call (.ref C) us) _ _ _
  obtain ⟨hp, g, dr, tk, os⟩ := s1
  have hsz : hp.objs.size ≤ hp.objs.size + 1 := Nat.le_succ _
  have hn : H1 (hp.objs.size + 1) = none := I1.hok.fresh hsz
  have hq := q1 (hp.objs.size + 1) hn
  have kk : ∀ b o, hp.get? b = some o → ((hp.push (PySem.W.kdv_tup us)).push (PySem.HandSPX.excO C hp.objs.size)).get? b = some o := fun b o e => Heap.get?_push_of_some _ (Heap.get?_push_of_some _ e)
  have hget : ((hp.push (PySem.W.kdv_tup us)).push (PySem.HandSPX.excO C hp.objs.size)).get? (hp.objs.size + 1) = some (PySem.HandSPX.excO C hp.objs.size) := by heap_get
  have I2 : L2.Inv X pins σ (upd H1 (hp.objs.size + 1) (exo (hp.objs.size + 1) C none)) ⟨(hp.push (PySem.W.kdv_tup us)).push (PySem.HandSPX.excO C hp.objs.size), g, dr, tk, os⟩ :=
    I1.laid (t' := tk) (a := hp.objs.size + 1) (o := exo (hp.objs.size + 1) C none) (h' := (hp.push (PySem.W.kdv_tup us)).push (PySem.HandSPX.excO C hp.objs.size)) kk hsz (exo_ok hget)
  have r2 : Vals (V.ref (hp.objs.size + 1) :: (vs ++ dvs)) (Value.ref (hp.objs.size + 1) :: (us ++ ds)) := .cons rfl (r1.append hd)
  have hl : (Value.ref (hp.objs.size + 1) :: us ++ ds).length = ps.length := by
    have e := r2.length
    rw [F1.len _ _ _ _ hq] at e
    exact e.symm
  have hus : us.length ≤ sizeLine := by
    rw [← Paired.length r1, sizeLine_eq]
    omega
  refine wpAny_call (PySem.HandSPX.call_own F.excBase_ValueError (fun Y => PySem.HandSPX.refsVE_contains Y bm hbm) (I1.kIn _ _ hC) (PySem.W.looks_findIn I1.kIn iC) (fun self => PySem.W.bind_fn I1.kIn self tI) hus
    (codeAny_mono (F1.run _ X.stack _ _ ⟨Value.ref (hp.objs.size + 1) :: us, []⟩ (Value.ref (hp.objs.size + 1) :: (us ++ ds)) _ _ E (hr.make C us []) (I2.env0.make C us []) (hb _ (Value.ref (hp.objs.size + 1) :: us) I2.kIn hl) r2 hq) fun r s' hq' => ?_))
  cases r with
  | error er => exact hx pins σ _ _ er s' I2 hq'
  | ok fl =>
    cases fl with
    | ret u =>
      obtain ⟨v, H', I3, rv, ev, q3⟩ := I2.after hq'
      subst ev
      exact ⟨rv, ⟨V.ref (hp.objs.size + 1), H', I3, rfl, q3⟩⟩
    | next => exact False.elim hq'
    | brk => exact False.elim hq'
    | cont => exact False.elim hq'
end
/-- an __init__ that puts fields into the new exception and nothing else -/
def InitX (C : Str) (g : FC) (gi : List D → Option (List (Str × D))) : Prop := ∀ ds M fs, gi ds = some fs → g (.loc M.length :: ds) (M ++ [.exc C none]) = some (.ok .non (M ++ [.exc C (some (M.length + 1)), .xdc fs])) ∧ ∀ N, lows N ds = true → lows N (fs.map (·.2)) = true
section
variable {X : Cx} {E : XK} {e o : Expr} {es : List Expr} {ve vo : Ev} {vs : EvA} {pos apos p : Pos} {m x C : Str} {fa : Addr} {k : Nat} {fd : FuncData} {ps : List Str} {g : FC} {gi : List D → Option (List (Str × D))}
@[simp] def vMkX (C : Str) (gi : List D → Option (List (Str × D))) (n : Nat) (vs : EvA) : Ev := fun ρ M => bnd (vs ρ M) fun ds M1 => if ds.length + 1 = n ∧ ds.length ≤ 1000 then (gi ds).map fun fs => .ok (.xob C (fs.map (·.1)) (fs.map (·.2))) M1 else none
/-- behind an exception's __init__ -/
theorem init_x {K : Fw} {μ : Wd} {H : Hp} {M : Mem} {xs : List V} {ds : List D} {fs : List (Str × D)} {Q : VK} (hi : InitX C g gi) (hl : ds.length + 1 = ps.length) (hm : RM K μ H M) (rx : RVs K μ H xs ds) (hg : gi ds = some fs) {x : Addr} (h1 : H x = none)
    (q : ∀ dx gs H3, Le μ H μ H3 → RM K μ H3 M → H3 x = some (exo x (cad K C) (some dx)) → H3 dx = some (exd dx gs) → H dx = none → dx ≠ x → μ.out x → μ.out dx → RM K ⟨μ.c ++ [x, dx], μ.h⟩ H3 (M ++ [.exc C (some (M.length + 1)), .xdc fs]) → RF K ⟨μ.c ++ [x, dx], μ.h⟩ H3 gs fs → lows μ.c.length (fs.map (·.2)) = true → Q .non H3) :
    spM K ps.length g (.ref x :: xs) (upd H x (exo x (cad K C) none)) Q E := by
  have hm2 : RM K (μ.push x) (upd H x (exo x (cad K C) none)) (M ++ [.exc C none]) := hm.newc h1 (show RC K (μ.push x) _ x (.exc C none) from upd_same)
  have l2 : Le μ H (μ.push x) (upd H x (exo x (cad K C) none)) := Le.newc h1
  obtain ⟨e, lo⟩ := hi ds M fs hg
  refine ⟨by rw [List.length_cons, rx.length]; exact hl, μ.push x, _, .loc M.length :: ds, _, .cons (.loc (by rw [← hm.len]; show (μ.c ++ [x])[μ.c.length]? = some x; simp)) (rx.le hm l2), hm2, e, fun μ3 v H3 l3 hm3 rv => ?_⟩
  cases rv
  obtain ⟨ν, ec, f⟩ := l3.ex
  obtain ⟨c3, h3'⟩ := μ3
  obtain rfl : h3' = μ.h := l3.hid
  have hlen : c3.length = M.length + 2 := by have := hm3.len; simpa using this
  have ec' : c3 = (μ.c ++ [x]) ++ ν := ec
  have hν : ν.length = 1 := by
    rw [ec'] at hlen
    simp only [List.length_append, List.length_cons, List.length_nil] at hlen
    have := hm.len
    omega
  obtain ⟨dx, rfl⟩ : ∃ dx, ν = [dx] := by
    match ν, hν with
    | [d], _ => exact ⟨d, rfl⟩
  have ec2 : c3 = μ.c ++ [x, dx] := by rw [ec']; simp
  subst ec2
  have ll := l2.trans l3
  have hx := hm3.cell M.length x (.exc C (some (M.length + 1))) (by show (μ.c ++ [x, dx])[M.length]? = some x; rw [← hm.len]; simp) (by simp)
  obtain ⟨dx', e1, e2⟩ := hx
  have e3 : (μ.c ++ [x, dx])[M.length + 1]? = some dx := by rw [← hm.len, List.getElem?_append_right (by omega)]; simp
  have ed : dx' = dx := by
    have : (μ.c ++ [x, dx])[M.length + 1]? = some dx' := e1
    rw [e3] at this
    exact (Option.some.inj this).symm
  subst ed
  obtain ⟨gs, g1, g2⟩ := hm3.cell (M.length + 1) dx' (.xdc fs) e3 (by simp)
  have nd : (μ.c ++ [x, dx']).Nodup := hm3.nd
  obtain ⟨_, nd2, dj⟩ := List.nodup_append.mp nd
  have hdx : H dx' = none := by
    have hf := f dx' (by simp)
    cases z : H dx' with
    | none => rfl
    | some o =>
      obtain ⟨o', z'⟩ := l2.dom dx' o z
      rw [hf] at z'; cases z'
  have hne : dx' ≠ x := fun z => by
    rw [z] at nd2
    simp at nd2
  have hm4 : RM K ⟨μ.c, μ.h⟩ H3 M := by
    have : RM K ⟨μ.c ++ [x, dx'], μ.h⟩ H3 (M ++ [.exc C (some (M.length + 1)), .xdc fs]) := hm3
    exact RM.fewer this hm.len hm.lows
  have le3 : Le μ H ⟨μ.c, μ.h⟩ H3 := ⟨⟨[], by simp, by simp⟩, rfl, ll.dom, ll.fr⟩
  refine q dx' gs H3 le3 hm4 e2 g1 hdx hne ⟨fun z => dj x z x (by simp) rfl, fun z => (hm3.hid x z).2 (by simp)⟩ ⟨fun z => dj dx' z dx' (by simp) rfl, fun z => (hm3.hid dx' z).2 (by simp)⟩ hm3 g2 (lo _ rx.lows)
theorem make_x {K : Fw} {μ : Wd} {H : Hp} {M : Mem} {xs : List V} {ds : List D} {fs : List (Str × D)} {Q : VK} (hi : InitX C g gi) (hl : ds.length + 1 = ps.length) (hm : RM K μ H M) (rx : RVs K μ H xs ds) (hg : gi ds = some fs) (q : OutE K E μ H (.ok (.xob C (fs.map (·.1)) (fs.map (·.2))) M) Q) {x : Addr} (h1 : H x = none) :
    spM K ps.length g (.ref x :: xs) (upd H x (exo x (cad K C) none)) (fun v H2 => v = .non ∧ Q (.ref x) H2) E :=
  init_x hi hl hm rx hg h1 fun dx gs H3 le3 hm4 e2 g1 hdx hne ox od hm3 g2 lo => by
    have rv := g2.vals
    refine ⟨rfl, q _ _ H3 le3 hm4 (.xob (vs := gs.map (·.2)) e2 ox ⟨?_, od⟩ (by rw [List.length_map, List.length_map]) (rv.1.fewer lo))⟩
    rw [← rv.2, zip_unzip]; exact g1
theorem mv_mkX (hi : InitX C g gi) (T : OexC X.K (cad X.K C)) (iC : PySem.W.findIn X.K (.ref (cad X.K C)) "__init__" = some (some (.ref fa))) (tI : PySem.W.typeIn X.K (.ref fa) = some (.type "function")) (F : OkM X.prog X.w X.K X.mg X.base k fa fd ps g) (hr : Room (k + 1) X.A) (hg : Gl X x) (hm : X.mg x = some (.ref (cad X.K C))) (hb : Binds X.K fd ps []) (hx : Passes (L2.CX X.prog X.w) X E) (ha : MA X E (e :: es) vs)
    (hdb : (x == ("__debug__" : Str)) = false := by decide) (he : starEach (e :: es) X.env = (false, eval e X.env) :: starEach es X.env := by rfl) (hpl : (backTo pos (starEach es X.env)).any (·.1) = false := by rfl) :
    MV X E (.Call (.Name x p) (e :: es) [] pos) (vMkX C gi ps.length vs) := PE.imp (pe_mkV T iC tI F hr hb .nil hx hg hm ha hdb he hpl) fun σ H Q ⟨μ, ρ, M, r, hs, hm, e, q⟩ => tr_bnd hs hm e q fun μ1 xs H1 ds M1 l hs1 hm1 rx e1 q1 => by
      split at e1
      · rename_i hl
        cases h : gi ds with
        | none => rw [h] at e1; cases e1
        | some fs =>
          rw [h] at e1; cases e1
          refine ⟨by rw [rx.length]; exact hl.2, fun a ha => ?_⟩
          rw [List.append_nil]
          exact make_x hi hl.1 hm1 rx h q1 ha
      · cases e1
end
/-! ### fields of an exception -/
section
variable {X : Cx} {E : XK} {e : Expr} {ve : Ev} {pos : Pos} {f : Str}
def tXv (K : PySem.W.Frag) (f : Str) (te : TE) : TE := fun σ H Q => te σ H fun x H1 => ∃ (a C dd : Addr) (fs : List (Str × V)) (v : V), x = .ref a ∧ H1 a = some (exo a C (some dd)) ∧ H1 dd = some (exd dd fs) ∧ XfC K C ∧ PySem.W.findIn K (.ref C) f = some none ∧ fs.lookup f = some v ∧ Q v H1
theorem inst_x {pins : List (Addr × Obj)} {σ : L2.St} {H : Hp} {s : Shared} {a C : Addr} {o : Option Addr} {fs : List (Str × V)} {μ : Wd} (I : L2.Inv X pins σ H s) (ha : H a = some (exo a C o)) (hx : XD μ H o fs) : ∃ oe od, PySem.W.InstAt s.heap a oe C od := by
  obtain ⟨t1, ho⟩ := exo_at I.hok ha
  cases o with
  | none => exact ⟨_, none, ho, rfl, rfl, trivial⟩
  | some dx =>
    obtain ⟨mA, hns, hr⟩ := exd_at I.hok hx.1
    obtain ⟨od, hod, _⟩ := lookIn_ns hns
    exact ⟨_, some od, ho, rfl, rfl, hod⟩
theorem pe_xv {te : TE} (he : PE X e te) (hb : attributeBase e f X.env (eval e X.env) = eval e X.env := by rfl) : PE X (.Attribute e f pos) (tXv X.K f te) := by
  refine ⟨fun pins s σ H Q I h => ?_⟩
  refine attr_of hb (thn (he.run pins s σ H _ I h) fun u s1 hh => ?_)
  obtain ⟨x, H1, I1, rx, a, C, dd, fs, v, ex, ea, ed, T, hno, l, q⟩ := hh
  subst ex
  obtain rfl : u = Value.ref a := rx
  obtain ⟨t1, ho⟩ := exo_at I1.hok ea
  obtain ⟨mA, hns, hr⟩ := exd_at I1.hok ed
  obtain ⟨od, hod, hl⟩ := lookIn_ns hns
  obtain ⟨u, hu, ru⟩ := RelO.some_of (v := v) (o := mA f) (by rw [← l]; exact hr f)
  have J : PySem.W.InstAt s1.heap a _ C (some od) := ⟨ho, rfl, rfl, hod⟩
  exact HandSPX.exc_get I1.kIn J T.ga T.gg T.exC (PySem.W.findObj_own T.hdC hno rfl (by rw [hl, hu])) (handed_of ru) ⟨v, H1, I1.tok _, ru, q⟩
@[simp] def vFldX (cs : List Str) (f : Str) (ve : Ev) : Ev := fun ρ M => bnd (ve ρ M) fun d M1 => match d with
  | .xob C ks xs => if C ∈ cs then ((ks.zip xs).lookup f).map fun y => .ok y M1 else none
  | _ => none
theorem mv_fldX {cs : List Str} (hcs : ∀ C ∈ cs, XfC X.K (cad X.K C) ∧ PySem.W.findIn X.K (.ref (cad X.K C)) f = some none) (he : MV X E e ve) (hb : attributeBase e f X.env (eval e X.env) = eval e X.env := by rfl) : MV X E (.Attribute e f pos) (vFldX cs f ve) :=
  PE.imp (pe_xv he hb) fun σ H Q ⟨μ, ρ, M, r, hs, hm, e, q⟩ => tr_bnd hs hm e q fun μ1 x H1 d M1 l hs1 hm1 rx e1 q1 => by
    split at e1
    · rename_i C ks xs
      split at e1
      · rename_i hC
        cases hl : (ks.zip xs).lookup f with
        | none => rw [hl] at e1; cases e1
        | some y =>
          rw [hl] at e1; cases e1
          cases rx with
          | @xob a o _ _ vs _ ha out hxd hlen k =>
            have rf : RF X.kx μ1 H1 (ks.zip vs) (ks.zip xs) := k.zip
            obtain ⟨v, k1, k2⟩ := (rf.lookup f).1 y hl
            cases o with
            | none =>
              have : ks.zip vs = [] := hxd
              rw [this] at k1
              cases k1
            | some dd => exact ⟨a, cad X.K C, dd, ks.zip vs, v, rfl, ha, hxd.1, (hcs C hC).1, (hcs C hC).2, k1, q1 μ1 _ H1 Le.refl hm1 k2⟩
      · cases e1
    · cases e1
end
/-! ### isinstance of an exception -/
section
variable {X : Cx} {E : XK} {e : Expr} {ve : Ev} {pos p pT : Pos} {x : Str}
@[simp] def vIsX (yes no : List Str) (ve : Ev) : Ev := fun ρ M => bnd (ve ρ M) fun d M1 => match d with
  | .xob C _ _ => (kitX yes no (.c C)).map fun b => .ok (.bl b) M1
  | _ => none
theorem call_isX {cv : V} {u : Value} (hc : ClsV cv u) : CallR X (.builtin "isinstance") (fun xs H Q => ∃ (a C : Addr) (o : Option Addr) (fs : List (Str × V)) (μ : Wd) (b : Bool), xs = [.ref a, cv] ∧ H a = some (exo a C o) ∧ XD μ H o fs ∧ XiC X.K C ∧ PySem.W.kitOne X.K (.ref C) u = some b ∧ Q (.bl b) H) := by
  intro pins s σ H xs us Q I r hq
  obtain ⟨a, C, o, fs, μ, b, rfl, ha, hx, T, hk, q⟩ := hq
  cases r with
  | cons rx rr =>
    cases rr with
    | cons rt rr =>
      cases rr
      cases rx
      have ec := hc.eq rt
      subst ec
      obtain ⟨oe, od, J⟩ := inst_x I ha hx
      exact PySem.W.kia_one (PySem.W.kitx_exc T.cl T.hg T.hk T.hs T.ha T.hn T.ht T.hm) I.kIn J hk (fun z => nomatch z) fun tk => ⟨.bl b, H, I.kept (t' := tk) fun _ _ z => z, rfl, q⟩
theorem mv_isX {yes no : List Str} {cv : V} {u : Value} (hy : ∀ C ∈ yes, XiC X.K (cad X.K C) ∧ PySem.W.kitOne X.K (.ref (cad X.K C)) u = some true) (hno : ∀ C ∈ no, XiC X.K (cad X.K C) ∧ PySem.W.kitOne X.K (.ref (cad X.K C)) u = some false) (hc : ClsV cv u) (hT : PE X (.Name x pT) (tC cv)) (hg : Gl X "isinstance") (hm : X.mg "isinstance" = none) (he : MV X E e ve)
    (hs1 : starEach [e, .Name x pT] X.env = (false, eval e X.env) :: starEach [.Name x pT] X.env := by rfl) (hs2 : starEach [.Name x pT] X.env = (false, eval (.Name x pT) X.env) :: starEach [] X.env := by rfl) (hpl : (backTo pos (starEach [.Name x pT] X.env)).any (·.1) = false := by rfl) :
    MV X E (.Call (.Name "isinstance" p) [e, .Name x pT] [] pos) (vIsX yes no ve) :=
  PE.imp (pe_callB (call_isX hc) hg hm Fh.bt_isinstance (pa_cons he (pa_cons hT pa_nil hs2) hs1) (by decide) (by decide) hs1 hpl) fun σ H Q ⟨μ, ρ, M, r, hs, hm, e, q⟩ => tr_bnd hs hm e q fun μ1 y H1 d M1 l hs1 hm1 rx e1 q1 => by
    split at e1
    · rename_i C ks xs
      cases hk : kitX yes no (.c C) with
      | none => rw [hk] at e1; cases e1
      | some b =>
        rw [hk] at e1; cases e1
        have fact : XiC X.K (cad X.K C) ∧ PySem.W.kitOne X.K (.ref (cad X.K C)) u = some b := by
          simp only [kitX] at hk
          split at hk
          · rename_i hC; cases hk; exact hy C hC
          · split at hk
            · rename_i hC; cases hk; exact hno C hC
            · cases hk
        cases rx with
        | @xob a o _ _ vs _ ha out hxd hlen k => exact ⟨a, cad X.K C, o, ks.zip vs, μ1, b, rfl, ha, hxd, fact.1, fact.2, q1 μ1 _ H1 Le.refl hm1 (.bl b)⟩
    · cases e1
/-- isinstance of an exception, or of anything else -/
@[simp] def vIsA (yes no : List Str) (cs : List Str) (kit : Ty → Option Bool) (ve : Ev) : Ev := fun ρ M => bnd (ve ρ M) fun d M1 => match d with
  | .xob C _ _ => (kitX yes no (.c C)).map fun b => .ok (.bl b) M1
  | _ => (isiM cs kit M1 d).map fun b => .ok (.bl b) M1
theorem mv_isA {yes no cs : List Str} {kit : Ty → Option Bool} {e' : Expr} (h1 : MV X E e' (vIsX yes no ve)) (h2 : MV X E e' (vIsi cs kit ve)) : MV X E e' (vIsA yes no cs kit ve) :=
  PE.imp (PE.or h1 h2) fun σ H Q ⟨μ, ρ, M, r, hs, hm, e, q⟩ => by
    unfold vIsA at e
    cases hv : ve ρ M with
    | none => rw [hv] at e; cases e
    | some r1 =>
      rw [hv] at e
      cases r1 with
      | err z M1 => exact .inl ⟨μ, ρ, M, r, hs, hm, by unfold vIsX; rw [hv]; exact e, q⟩
      | ok d M1 =>
        simp only [bnd_ok] at e
        split at e
        · exact .inl ⟨μ, ρ, M, r, hs, hm, by unfold vIsX; rw [hv]; exact e, q⟩
        · exact .inr ⟨μ, ρ, M, r, hs, hm, by unfold vIsi; rw [hv]; exact e, q⟩
end
/-! ### an exception without own __init__, made of nothing -/
section
variable {X : Cx} {E : XK} {p pos : Pos} {x C : Str}
theorem pe_exc0 {C : Addr} (q : PySem.W.excIn X.K C [.type "ValueError", .type "Exception", .type "BaseException", .type "object"] "ValueError.__new__" = true) (gC : X.mg x = some (.ref C)) (kC : PySem.W.keepIn X.K (.ref C) = true) (hg : Gl X x) (hdb : (x == ("__debug__" : Str)) = false := by decide) :
    PE X (.Call (.Name x p) [] [] pos) (fun σ H Q => ∀ a, H a = none → Q (.ref a) (upd H a (exo a C none))) := by
  refine ⟨fun pins s σ H Q I h => ?_⟩
  refine wpAny_Call_Name_kw (ld_glob I hg gC ?_ hdb)
  refine PySem.W.callWith_K0 I.kIn kC ?_
  show wpAny _ _ (call (.ref C) []) _ _ _
  obtain ⟨bm, N, nm, qn, bs, hdct, sn, sub, ab, col, dd, k0, k1, k2, k3, k5, mN, hC, hN, hni, T⟩ := exc_obj I.kIn q
  obtain ⟨hp, g, d, t, os⟩ := s
  refine wpAny_call_exc_subT F.excBase_ValueError T hC hN hni (fun h' a hm => ?_) (by simp)
  have hn : H a = none := I.hok.gone hm.new
  obtain ⟨t, ht, _, _⟩ := hm.there
  exact ⟨.ref a, upd H a (exo a C none), I.laidN hm.keeps hm.new hn (exo_ok ht), rfl, h a hn⟩
@[simp] def vMkX0 (C : Str) : Ev := fun _ M => some (.ok (.xob C [] []) M)
theorem mv_mkX0 (q : PySem.W.excIn X.K (cad X.K C) [.type "ValueError", .type "Exception", .type "BaseException", .type "object"] "ValueError.__new__" = true) (gC : X.mg x = some (.ref (cad X.K C))) (kC : PySem.W.keepIn X.K (.ref (cad X.K C)) = true) (hg : Gl X x) (hdb : (x == ("__debug__" : Str)) = false := by decide) :
    MV X E (.Call (.Name x p) [] [] pos) (vMkX0 C) := PE.imp (pe_exc0 q gC kC hg hdb) fun σ H Q ⟨μ, ρ, M, r, hs, hm, e, q⟩ => by
      cases e
      intro a ha
      exact q μ _ _ (Le.new ha) (hm.new ha) (.xob (o := none) (ks := []) (vs := []) upd_same (hm.freshOut ha) rfl rfl .nil)
/-- an expression that is not come to -/
@[simp] def vNo : Ev := fun _ _ => none
theorem mv_never {e : Expr} {te : TE} (h : PE X e te) : MV X E e vNo := ⟨fun pins s σ H Q I ⟨μ, ρ, M, r, hs, hm, e, q⟩ => by cases e⟩
theorem mv_no {e : Expr} : MV X E e vNo := ⟨fun pins s σ H Q I ⟨μ, ρ, M, r, hs, hm, e, q⟩ => by cases e⟩
end
/-! ### exceptions with one field -/
def m_x1 (C f : Str) : FC := runB 2 (vSetX [C] f (vVar 0) (vVar 1))
def gi_x1 (f : Str) : List D → Option (List (Str × D))
  | [d] => some [(f, d)]
  | _ => none
theorem iv_x1 (C f : Str) : InitX C (m_x1 C f) (gi_x1 f) := by
  intro ds M fs h
  unfold gi_x1 at h
  split at h
  · rename_i d
    cases h
    refine ⟨?_, fun N hN => ?_⟩
    · have e : ((M ++ [Cell.exc C none]) ++ [Cell.xdc [(f, d)]]).set M.length (Cell.exc C (some (M.length + 1))) = M ++ [Cell.exc C (some (M.length + 1)), Cell.xdc [(f, d)]] := by
        simp
      simp [m_x1]
    · simp [lows, low] at hN ⊢
      exact hN
  · cases h
section
variable {P : Program} {w : World} {K : PySem.W.Frag} {mg : Str → Option Value} {base : Heap}
theorem okXM {x qual fl : Str} {C : Str} {st : Stmt} {f fI : Addr} {fd : FuncData} {n1 n2 : Str} {k : Nat} (F : Fun K x qual st f fd) (S : FnScope [n1, n2] [n1, n2] (defScope st)) (xc : Xc K (cad K C) fl fI)
    (hb : ∀ (cdv : Value) (A : Around) (outer : List Env) (s : Shared) (H : Hp) (E : XK), MSs (cxOf (L2.CX P w) P w K mg base [n1, n2] qual (defScope st) f cdv A outer s H E) E (defBody st) (vSetX [C] fl (vVar 0) (vVar 1))) :
    OkM P w K mg base (k + 1) f fd [n1, n2] (m_x1 C fl) := okM (N := [n1, n2]) (b := vSetX [C] fl (vVar 0) (vVar 1)) F S fun cdv A outer s H E hr => hb cdv A outer s H E
end
/-! ### checks -/
def xmB (K : PySem.W.Frag) (C : Addr) : Bool := oexB K C && (decide (PySem.W.findIn K (.ref C) "__init__" = some (some (.ref (He.ma K C "__init__")))) && decide (PySem.W.typeIn K (.ref (He.ma K C "__init__")) = some (.type "function")))
theorem xmB_ok {K : PySem.W.Frag} {C : Addr} (c : xmB K C = true) : OexC K C ∧ PySem.W.findIn K (.ref C) "__init__" = some (some (.ref (He.ma K C "__init__"))) ∧ PySem.W.typeIn K (.ref (He.ma K C "__init__")) = some (.type "function") := by
  obtain ⟨c1, c⟩ := He.ba c
  obtain ⟨c2, c3⟩ := He.ba c
  exact ⟨oexB_ok c1, of_decide_eq_true c2, of_decide_eq_true c3⟩
def isB (K : PySem.W.Frag) (cs : List Str) (u : Value) (b : Bool) : Bool := cs.all fun C => xiB K (He.ga K C) && decide (PySem.W.kitOne K (.ref (He.ga K C)) u = some b)
theorem isB_ok {K : PySem.W.Frag} {cs : List Str} {u : Value} {b : Bool} (c : isB K cs u b = true) : ∀ C ∈ cs, XiC K (cad K C) ∧ PySem.W.kitOne K (.ref (cad K C)) u = some b := fun C hC => by
  obtain ⟨c1, c2⟩ := He.ba (List.all_eq_true.mp c C hC)
  exact ⟨xiB_ok c1, of_decide_eq_true c2⟩
end Mi
/-! The head's facts: defs at any address, and one Bool. -/
namespace Fh
open PySem PySem.Spec PyProof.Rows L2
abbrev AlX : Type := Bool × List He.FnW
def obsX (ex : PySem.W.Frag → Bool) (fn : List He5.DefA) (K : PySem.W.Frag) : AlX := (ex K && fn.all fun d => d.ok K, fn.map fun d => He5.fnA K (d.at_ K))
def valX (fn : List He5.DefA) : AlX := (true, fn.map He5.DefA.val)
def SaysX (ex : PySem.W.Frag → Bool) (fn : List He5.DefA) (K : PySem.W.Frag) : Prop := obsX ex fn K = valX fn
def obsXG (n : Nat) (ex : PySem.W.Frag → Bool) (fn : List He5.DefA) (g : Addr → Option Obj) : AlX := obsX ex fn (He.frG g (He5.asA g n))
def hookX (n : Nat) (ex : PySem.W.Frag → Bool) (fn : List He5.DefA) : PySem.W.Hook where
  α := AlX
  obs := fun s => obsXG n ex fn s.heap.get?
  val := fun _ => valX fn
  says := fun _ h => ∃ K : PySem.W.Frag, K.In h ∧ SaysX ex fn K
  of := fun _ _ e => ⟨_, He.frG_in, e⟩
  keeps := fun _ _ _ ⟨K, hK, c⟩ k => ⟨K, PySem.W.Frag.In.keeps hK k, c⟩
theorem obsXG_eq {n : Nat} {ex : PySem.W.Frag → Bool} {fn : List He5.DefA} {g : Addr → Option Obj} {s : Shared} (h : ∀ a, g a = s.heap.get? a) : obsXG n ex fn g = (hookX n ex fn).obs s := by
  have e : g = s.heap.get? := funext h
  rw [e] <;> rfl
section
variable {ex : PySem.W.Frag → Bool} {fn : List He5.DefA} {K : PySem.W.Frag} {mg : Str → Option Value} {h : Heap}
theorem SaysX.ex_ (c : SaysX ex fn K) : ex K = true := (He.ba (show (ex K && fn.all fun d => d.ok K) = true from congrArg (fun z : AlX => z.1) c)).1
theorem SaysX.def_ (c : SaysX ex fn K) (i : Nat) {d : He5.DefA} (h : fn[i]? = some d := by rfl) : ∃ fd, L2.FunD K d.name d.qual d.params d.body d.scope (d.dvs K) (d.kws K) (d.at_ K) fd := by
  have c2 := (He.ba (show (ex K && fn.all fun d => d.ok K) = true from congrArg (fun z : AlX => z.1) c)).2
  have e : fn.map (fun d => He5.fnA K (d.at_ K)) = fn.map He5.DefA.val := congrArg (fun z : AlX => z.2) c
  have e2 : (fn.map fun d => He5.fnA K (d.at_ K))[i]? = (fn.map He5.DefA.val)[i]? := by rw [e]
  rw [List.getElem?_map, List.getElem?_map, h] at e2
  exact He5.DefA.funD (Option.some.inj e2) (List.all_eq_true.mp c2 d (List.mem_of_getElem? h))
/-- a def of the text: where it stands, its name, its qualified name -/
def defA (st : Stmt) (x q : Str) (at_ : PySem.W.Frag → Addr) : He5.DefA := ⟨at_, x, q, defArgs st, defBody st, defScope st, [], []⟩
theorem SaysX.fnAt (c : SaysX ex fn K) (i : Nat) {st : Stmt} {x q : Str} {a : PySem.W.Frag → Addr} (h : fn[i]? = some (defA st x q a) := by rfl) : ∃ fd, Fn K x q st (a K) fd := by
  obtain ⟨fd, F⟩ := c.def_ i h
  exact ⟨fd, He5.fun_of F⟩
theorem At.mk' {x : Str} {fd : FuncData} {q : Str} {st : Stmt} {ps : List Str} (X : K.In h) (G : h.Ns mainGlobals mg) (g : (He.Fa.glo x).ok K = true) (F : Fn K x q st (He.ga K x) fd) (b : Binds K fd ps []) : At K mg x (He.ga K x) fd ps := ⟨He.glo_ok X G g, F.kp, b⟩
/-- all the built-ins that are asked for -/
def biB (K : PySem.W.Frag) : Bool := (["len", "abs", "int", "range", "tuple", "sorted", "set", "bool", "isinstance", "all", "sum", "max", "min", "enumerate", "str"] : List Str).all fun x => (He.Fa.free x).ok K
theorem biB_ok (X : K.In h) (G : h.Ns mainGlobals mg) (c : biB K = true) : Bi mg := by
  have z := fun (x : Str) hx => He.free_ok X G (List.all_eq_true.mp c x hx)
  exact ⟨z _ (by simp), z _ (by simp), z _ (by simp), z _ (by simp), z _ (by simp), z _ (by simp), z _ (by simp), z _ (by simp), z _ (by simp), z _ (by simp), z _ (by simp), z _ (by simp), z _ (by simp), z _ (by simp), z _ (by simp)⟩
/-- what isinstance asks of an instance's class -/
def tyB (K : PySem.W.Frag) (C : Addr) : Bool := He.eqO (PySem.W.findIn K (.ref C) "__class__") (some (some (.builtin "object.__class__"))) && (He.eqO (PySem.W.specialIn K (.builtin "object.__class__") "__get__") (some (some (.builtin "getset_descriptor.__get__"))) &&
  (decide (PySem.W.takesIn K (.builtin "object.__class__") = some true) && decide (PySem.W.mroIn K C (.type "object") = some true)))
/-- attributes of the class itself are read as usual -/
def creadB (K : PySem.W.Frag) (C : Addr) : Bool := PySem.W.readsIn K C (.type "type") && He.eqO (PySem.W.specialIn K (.ref C) "__getattribute__") (some (some (.builtin "type.__getattribute__")))
theorem creadB_ok {C : Addr} (c : creadB K C = true) : ClX.CRead K C (.type "type") := let ⟨a, b⟩ := He.ba c; ⟨a, He.eqO_ok b⟩
/-- a classmethod: its def -/
abbrev cmA (K : PySem.W.Frag) (C : Addr) (m : Str) : Addr := He5.wf K C "classmethod" m
def cmB (K : PySem.W.Frag) (C : Addr) (m : Str) : Bool := He5.wrapB K C "classmethod" "classmethod.__get__" m && PySem.W.fnIn K (cmA K C m)
theorem cmB_ok {C : Addr} {m : Str} (c : cmB K C m = true) : ClX.CMet K C (.type "type") m (He.ma K C m) (cmA K C m) := let ⟨a, b⟩ := He.ba c; He5.cmet_of a b
/-- a property: its getter -/
def prA (K : PySem.W.Frag) (C : Addr) (m : Str) : Addr := match PySem.W.recIn K (He.ma K C m) "property" with
  | some (.ref f :: _) => f
  | _ => 0
def prB (K : PySem.W.Frag) (C : Addr) (m : Str) : Bool := He.eqO (PySem.W.findIn K (.ref C) m) (some (some (.ref (He.ma K C m)))) && (He.eqO (PySem.W.specialIn K (.ref (He.ma K C m)) "__get__") (some (some (.builtin "property.__get__"))) &&
  (decide (PySem.W.takesIn K (.ref (He.ma K C m)) = some true) && (match PySem.W.recIn K (He.ma K C m) "property" with
    | some (.ref _ :: _) => true
    | _ => false)))
theorem prB_ok {C : Addr} {m : Str} (c : prB K C m = true) : PropOf K C m (He.ma K C m) (prA K C m) := by
  obtain ⟨c1, c⟩ := He.ba c
  obtain ⟨c2, c⟩ := He.ba c
  obtain ⟨c3, c4⟩ := He.ba c
  refine ⟨He.eqO_ok c1, He.eqO_ok c2, of_decide_eq_true c3, ?_⟩
  unfold prA
  split at c4
  · rename_i f r e
    exact ⟨r, by rw [e]⟩
  · cases c4
/-- a method of a class -/
def meB (K : PySem.W.Frag) (C : Addr) (m : Str) : Bool := He.eqO (PySem.W.findIn K (.ref C) m) (some (some (.ref (He.ma K C m)))) && (PySem.W.isFn K (.ref (He.ma K C m)) && PySem.W.keepIn K (.ref (He.ma K C m)))
theorem meB_ok {C : Addr} {m : Str} (c : meB K C m = true) : Meth K C m (He.ma K C m) := by
  obtain ⟨c1, c⟩ := He.ba c
  obtain ⟨c2, c3⟩ := He.ba c
  exact ⟨He.eqO_ok c1, c2, c3⟩
end
end Fh
set_option autoImplicit false
namespace Lw
open PySem PySem.Spec L2 Mi
def top (i : Nat) : Stmt := PySem.Challenge.pw_faultsheard_k14_errors_by_hand.main.body.getD i (.Pass ⟨0, 0, 0, 0⟩)
abbrev s_Fault_init : Stmt := (inClass (top 23) 0)
abbrev n_Fault_init : List Str := ["self", "row", "counts", "layers", "core"]
theorem sc_Fault_init : FnScope n_Fault_init ["self", "row", "counts", "layers", "core"] (defScope s_Fault_init) := ⟨rfl, rfl, rfl, by decide +kernel, rfl, by decide +kernel, by decide +kernel⟩
abbrev s_Fault_happening : Stmt := (inClass (top 23) 2)
abbrev n_Fault_happening : List Str := ["cls", "word", "number"]
theorem sc_Fault_happening : FnScope n_Fault_happening ["cls", "word", "number"] (defScope s_Fault_happening) := ⟨rfl, rfl, rfl, by decide +kernel, rfl, by decide +kernel, by decide +kernel⟩
abbrev s_Fault_inner : Stmt := (inClass (top 23) 10)
abbrev n_Fault_inner : List Str := ["self"]
theorem sc_Fault_inner : FnScope n_Fault_inner ["self"] (defScope s_Fault_inner) := ⟨rfl, rfl, rfl, by decide +kernel, rfl, by decide +kernel, by decide +kernel⟩
abbrev s_word_of : Stmt := (top 24)
abbrev n_word_of : List Str := ["fault"]
theorem sc_word_of : FnScope n_word_of ["fault"] (defScope s_word_of) := ⟨rfl, rfl, rfl, by decide +kernel, rfl, by decide +kernel, by decide +kernel⟩
abbrev s_BadKeep_init : Stmt := (inClass (top 3) 0)
abbrev n_BadKeep_init : List Str := ["self", "keep"]
theorem sc_BadKeep_init : FnScope n_BadKeep_init ["self", "keep"] (defScope s_BadKeep_init) := ⟨rfl, rfl, rfl, by decide +kernel, rfl, by decide +kernel, by decide +kernel⟩
abbrev s_BadLine_init : Stmt := (inClass (top 4) 0)
abbrev n_BadLine_init : List Str := ["self", "at"]
theorem sc_BadLine_init : FnScope n_BadLine_init ["self", "at"] (defScope s_BadLine_init) := ⟨rfl, rfl, rfl, by decide +kernel, rfl, by decide +kernel, by decide +kernel⟩
abbrev s_TooMany_init : Stmt := (inClass (top 5) 0)
abbrev n_TooMany_init : List Str := ["self", "what"]
theorem sc_TooMany_init : FnScope n_TooMany_init ["self", "what"] (defScope s_TooMany_init) := ⟨rfl, rfl, rfl, by decide +kernel, rfl, by decide +kernel, by decide +kernel⟩
abbrev s_BadCall_init : Stmt := (inClass (top 6) 0)
abbrev n_BadCall_init : List Str := ["self", "at"]
theorem sc_BadCall_init : FnScope n_BadCall_init ["self", "at"] (defScope s_BadCall_init) := ⟨rfl, rfl, rfl, by decide +kernel, rfl, by decide +kernel, by decide +kernel⟩
abbrev s_Endless_init : Stmt := (inClass (top 7) 0)
abbrev n_Endless_init : List Str := ["self", "name"]
theorem sc_Endless_init : FnScope n_Endless_init ["self", "name"] (defScope s_Endless_init) := ⟨rfl, rfl, rfl, by decide +kernel, rfl, by decide +kernel, by decide +kernel⟩
abbrev s_NoFunction_init : Stmt := (inClass (top 8) 0)
abbrev n_NoFunction_init : List Str := ["self", "name"]
theorem sc_NoFunction_init : FnScope n_NoFunction_init ["self", "name"] (defScope s_NoFunction_init) := ⟨rfl, rfl, rfl, by decide +kernel, rfl, by decide +kernel, by decide +kernel⟩
abbrev s_Clash_init : Stmt := (inClass (top 9) 0)
abbrev n_Clash_init : List Str := ["self", "name"]
theorem sc_Clash_init : FnScope n_Clash_init ["self", "name"] (defScope s_Clash_init) := ⟨rfl, rfl, rfl, by decide +kernel, rfl, by decide +kernel, by decide +kernel⟩
abbrev s_BadMove_init : Stmt := (inClass (top 10) 0)
abbrev n_BadMove_init : List Str := ["self", "at"]
theorem sc_BadMove_init : FnScope n_BadMove_init ["self", "at"] (defScope s_BadMove_init) := ⟨rfl, rfl, rfl, by decide +kernel, rfl, by decide +kernel, by decide +kernel⟩
abbrev s_NoName_init : Stmt := (inClass (top 11) 0)
abbrev n_NoName_init : List Str := ["self", "name"]
theorem sc_NoName_init : FnScope n_NoName_init ["self", "name"] (defScope s_NoName_init) := ⟨rfl, rfl, rfl, by decide +kernel, rfl, by decide +kernel, by decide +kernel⟩
abbrev s_NoDeed_init : Stmt := (inClass (top 12) 0)
abbrev n_NoDeed_init : List Str := ["self", "name"]
theorem sc_NoDeed_init : FnScope n_NoDeed_init ["self", "name"] (defScope s_NoDeed_init) := ⟨rfl, rfl, rfl, by decide +kernel, rfl, by decide +kernel, by decide +kernel⟩
abbrev s_BadAnswer_init : Stmt := (inClass (top 13) 0)
abbrev n_BadAnswer_init : List Str := ["self", "name"]
theorem sc_BadAnswer_init : FnScope n_BadAnswer_init ["self", "name"] (defScope s_BadAnswer_init) := ⟨rfl, rfl, rfl, by decide +kernel, rfl, by decide +kernel, by decide +kernel⟩
abbrev s_BadKind_init : Stmt := (inClass (top 15) 0)
abbrev n_BadKind_init : List Str := ["self", "at"]
theorem sc_BadKind_init : FnScope n_BadKind_init ["self", "at"] (defScope s_BadKind_init) := ⟨rfl, rfl, rfl, by decide +kernel, rfl, by decide +kernel, by decide +kernel⟩
abbrev s_NoCase_init : Stmt := (inClass (top 16) 0)
abbrev n_NoCase_init : List Str := ["self", "case"]
theorem sc_NoCase_init : FnScope n_NoCase_init ["self", "case"] (defScope s_NoCase_init) := ⟨rfl, rfl, rfl, by decide +kernel, rfl, by decide +kernel, by decide +kernel⟩
abbrev s_NoEnd_init : Stmt := (inClass (top 17) 0)
abbrev n_NoEnd_init : List Str := ["self", "end"]
theorem sc_NoEnd_init : FnScope n_NoEnd_init ["self", "end"] (defScope s_NoEnd_init) := ⟨rfl, rfl, rfl, by decide +kernel, rfl, by decide +kernel, by decide +kernel⟩
abbrev s_TooLong_init : Stmt := (inClass (top 18) 0)
abbrev n_TooLong_init : List Str := ["self", "number"]
theorem sc_TooLong_init : FnScope n_TooLong_init ["self", "number"] (defScope s_TooLong_init) := ⟨rfl, rfl, rfl, by decide +kernel, rfl, by decide +kernel, by decide +kernel⟩
abbrev s_BadChange_init : Stmt := (inClass (top 19) 0)
abbrev n_BadChange_init : List Str := ["self", "at"]
theorem sc_BadChange_init : FnScope n_BadChange_init ["self", "at"] (defScope s_BadChange_init) := ⟨rfl, rfl, rfl, by decide +kernel, rfl, by decide +kernel, by decide +kernel⟩
abbrev s_NotByValues_init : Stmt := (inClass (top 20) 0)
abbrev n_NotByValues_init : List Str := ["self", "at"]
theorem sc_NotByValues_init : FnScope n_NotByValues_init ["self", "at"] (defScope s_NotByValues_init) := ⟨rfl, rfl, rfl, by decide +kernel, rfl, by decide +kernel, by decide +kernel⟩
abbrev s_Recursive_init : Stmt := (inClass (top 21) 0)
abbrev n_Recursive_init : List Str := ["self", "name"]
theorem sc_Recursive_init : FnScope n_Recursive_init ["self", "name"] (defScope s_Recursive_init) := ⟨rfl, rfl, rfl, by decide +kernel, rfl, by decide +kernel, by decide +kernel⟩
abbrev s_Failure_init : Stmt := (inClass (top 25) 0)
abbrev n_Failure_init : List Str := ["self", "fault", "inner"]
theorem sc_Failure_init : FnScope n_Failure_init ["self", "fault"] (defScope s_Failure_init) := ⟨rfl, rfl, rfl, by decide +kernel, rfl, by decide +kernel, by decide +kernel⟩
abbrev s_l_bag : Stmt := (top 27)
abbrev n_l_bag : List Str := ["_law_script", "_law_at", "_law_cell"]
theorem sc_l_bag : FnScope n_l_bag ["_law_script", "_law_at"] (defScope s_l_bag) := ⟨rfl, rfl, rfl, by decide +kernel, rfl, by decide +kernel, by decide +kernel⟩
abbrev s_l_draw : Stmt := (top 28)
abbrev n_l_draw : List Str := ["_law_bag_here", "_law_many", "_law_digit", "_law_mixed"]
theorem sc_l_draw : FnScope n_l_draw ["_law_bag_here", "_law_many"] (defScope s_l_draw) := ⟨rfl, rfl, rfl, by decide +kernel, rfl, by decide +kernel, by decide +kernel⟩
abbrev s_l_name : Stmt := (top 30)
abbrev n_l_name : List Str := ["_law_bag_here", "_law_taken", "_law_text", "_law_barred", "_law_letters", "_law_name_here", "_law_fresh", "_law_turn", "_law_sign", "_law_one_here"]
theorem sc_l_name : FnScope n_l_name ["_law_bag_here", "_law_taken"] (defScope s_l_name) := ⟨rfl, rfl, rfl, by decide +kernel, rfl, by decide +kernel, by decide +kernel⟩
abbrev s_l_like : Stmt := (top 31)
abbrev n_l_like : List Str := ["_law_actual", "_law_wanted", "_law_at"]
theorem sc_l_like : FnScope n_l_like ["_law_actual", "_law_wanted"] (defScope s_l_like) := ⟨rfl, rfl, rfl, by decide +kernel, rfl, by decide +kernel, by decide +kernel⟩
abbrev s_l_kinds : Stmt := (top 32)
abbrev n_l_kinds : List Str := ["_law_e", "_law_found"]
theorem sc_l_kinds : FnScope n_l_kinds ["_law_e"] (defScope s_l_kinds) := ⟨rfl, rfl, rfl, by decide +kernel, rfl, by decide +kernel, by decide +kernel⟩
abbrev s_l_right : Stmt := (top 33)
abbrev n_l_right : List Str := ["_law_bag_here", "_law_number", "_law_name_here", "_law_made", "_law_at", "_law_kinds_here", "_law_numbers", "_law_names", "_law_one_here"]
theorem sc_l_right : FnScope n_l_right ["_law_bag_here"] (defScope s_l_right) := ⟨rfl, rfl, rfl, by decide +kernel, rfl, by decide +kernel, by decide +kernel⟩
abbrev s_law : Stmt := (top 34)
abbrev n_law : List Str := ["_law_script", "_law_at"]
theorem sc_law : FnScope n_law ["_law_script"] (defScope s_law) := ⟨rfl, rfl, rfl, by decide +kernel, rfl, by decide +kernel, by decide +kernel⟩
structure Fd where
  Fault_init : FuncData
  Fault_happening : FuncData
  Fault_inner : FuncData
  word_of : FuncData
  BadKeep_init : FuncData
  BadLine_init : FuncData
  TooMany_init : FuncData
  BadCall_init : FuncData
  Endless_init : FuncData
  NoFunction_init : FuncData
  Clash_init : FuncData
  BadMove_init : FuncData
  NoName_init : FuncData
  NoDeed_init : FuncData
  BadAnswer_init : FuncData
  BadKind_init : FuncData
  NoCase_init : FuncData
  NoEnd_init : FuncData
  TooLong_init : FuncData
  BadChange_init : FuncData
  NotByValues_init : FuncData
  Recursive_init : FuncData
  Failure_init : FuncData
  l_bag : FuncData
  l_draw : FuncData
  l_name : FuncData
  l_like : FuncData
  l_kinds : FuncData
  l_right : FuncData
  law : FuncData
def fl_core : List Str := ["Fault"]
def fl_counts : List Str := ["Fault"]
def fl_layers : List Str := ["Fault"]
def fl_row : List Str := ["Fault"]
def fl_words : List Str := ["Fault"]
def it_all : List Str := ["Fault"]
def yes_BadAnswer : List Str := ["BadAnswer"]
def no_BadAnswer : List Str := ["BadKeep", "BadLine", "TooMany", "BadCall", "Endless", "NoFunction", "Clash", "BadMove", "NoName", "NoDeed", "Busy", "BadKind", "NoCase", "NoEnd", "TooLong", "BadChange", "NotByValues", "Recursive", "Failure"]
def yes_BadCall : List Str := ["BadCall"]
def no_BadCall : List Str := ["BadKeep", "BadLine", "TooMany", "Endless", "NoFunction", "Clash", "BadMove", "NoName", "NoDeed", "BadAnswer", "Busy", "BadKind", "NoCase", "NoEnd", "TooLong", "BadChange", "NotByValues", "Recursive", "Failure"]
def yes_BadChange : List Str := ["BadChange"]
def no_BadChange : List Str := ["BadKeep", "BadLine", "TooMany", "BadCall", "Endless", "NoFunction", "Clash", "BadMove", "NoName", "NoDeed", "BadAnswer", "Busy", "BadKind", "NoCase", "NoEnd", "TooLong", "NotByValues", "Recursive", "Failure"]
def yes_BadKeep : List Str := ["BadKeep"]
def no_BadKeep : List Str := ["BadLine", "TooMany", "BadCall", "Endless", "NoFunction", "Clash", "BadMove", "NoName", "NoDeed", "BadAnswer", "Busy", "BadKind", "NoCase", "NoEnd", "TooLong", "BadChange", "NotByValues", "Recursive", "Failure"]
def yes_BadKind : List Str := ["BadKind"]
def no_BadKind : List Str := ["BadKeep", "BadLine", "TooMany", "BadCall", "Endless", "NoFunction", "Clash", "BadMove", "NoName", "NoDeed", "BadAnswer", "Busy", "NoCase", "NoEnd", "TooLong", "BadChange", "NotByValues", "Recursive", "Failure"]
def yes_BadLine : List Str := ["BadLine"]
def no_BadLine : List Str := ["BadKeep", "TooMany", "BadCall", "Endless", "NoFunction", "Clash", "BadMove", "NoName", "NoDeed", "BadAnswer", "Busy", "BadKind", "NoCase", "NoEnd", "TooLong", "BadChange", "NotByValues", "Recursive", "Failure"]
def yes_BadMove : List Str := ["BadMove"]
def no_BadMove : List Str := ["BadKeep", "BadLine", "TooMany", "BadCall", "Endless", "NoFunction", "Clash", "NoName", "NoDeed", "BadAnswer", "Busy", "BadKind", "NoCase", "NoEnd", "TooLong", "BadChange", "NotByValues", "Recursive", "Failure"]
def yes_Busy : List Str := ["Busy"]
def no_Busy : List Str := ["BadKeep", "BadLine", "TooMany", "BadCall", "Endless", "NoFunction", "Clash", "BadMove", "NoName", "NoDeed", "BadAnswer", "BadKind", "NoCase", "NoEnd", "TooLong", "BadChange", "NotByValues", "Recursive", "Failure"]
def yes_Clash : List Str := ["Clash"]
def no_Clash : List Str := ["BadKeep", "BadLine", "TooMany", "BadCall", "Endless", "NoFunction", "BadMove", "NoName", "NoDeed", "BadAnswer", "Busy", "BadKind", "NoCase", "NoEnd", "TooLong", "BadChange", "NotByValues", "Recursive", "Failure"]
def yes_Endless : List Str := ["Endless"]
def no_Endless : List Str := ["BadKeep", "BadLine", "TooMany", "BadCall", "NoFunction", "Clash", "BadMove", "NoName", "NoDeed", "BadAnswer", "Busy", "BadKind", "NoCase", "NoEnd", "TooLong", "BadChange", "NotByValues", "Recursive", "Failure"]
def yes_Failure : List Str := ["Failure"]
def no_Failure : List Str := ["BadKeep", "BadLine", "TooMany", "BadCall", "Endless", "NoFunction", "Clash", "BadMove", "NoName", "NoDeed", "BadAnswer", "Busy", "BadKind", "NoCase", "NoEnd", "TooLong", "BadChange", "NotByValues", "Recursive"]
def yes_FaultsheardError : List Str := ["BadKeep", "BadLine", "TooMany", "BadCall", "Endless", "NoFunction", "Clash", "BadMove", "NoName", "NoDeed", "BadAnswer", "Busy", "BadKind", "NoCase", "NoEnd", "TooLong", "BadChange", "NotByValues", "Recursive", "Failure"]
def no_FaultsheardError : List Str := []
def yes_NoCase : List Str := ["NoCase"]
def no_NoCase : List Str := ["BadKeep", "BadLine", "TooMany", "BadCall", "Endless", "NoFunction", "Clash", "BadMove", "NoName", "NoDeed", "BadAnswer", "Busy", "BadKind", "NoEnd", "TooLong", "BadChange", "NotByValues", "Recursive", "Failure"]
def yes_NoDeed : List Str := ["NoDeed"]
def no_NoDeed : List Str := ["BadKeep", "BadLine", "TooMany", "BadCall", "Endless", "NoFunction", "Clash", "BadMove", "NoName", "BadAnswer", "Busy", "BadKind", "NoCase", "NoEnd", "TooLong", "BadChange", "NotByValues", "Recursive", "Failure"]
def yes_NoEnd : List Str := ["NoEnd"]
def no_NoEnd : List Str := ["BadKeep", "BadLine", "TooMany", "BadCall", "Endless", "NoFunction", "Clash", "BadMove", "NoName", "NoDeed", "BadAnswer", "Busy", "BadKind", "NoCase", "TooLong", "BadChange", "NotByValues", "Recursive", "Failure"]
def yes_NoFunction : List Str := ["NoFunction"]
def no_NoFunction : List Str := ["BadKeep", "BadLine", "TooMany", "BadCall", "Endless", "Clash", "BadMove", "NoName", "NoDeed", "BadAnswer", "Busy", "BadKind", "NoCase", "NoEnd", "TooLong", "BadChange", "NotByValues", "Recursive", "Failure"]
def yes_NoName : List Str := ["NoName"]
def no_NoName : List Str := ["BadKeep", "BadLine", "TooMany", "BadCall", "Endless", "NoFunction", "Clash", "BadMove", "NoDeed", "BadAnswer", "Busy", "BadKind", "NoCase", "NoEnd", "TooLong", "BadChange", "NotByValues", "Recursive", "Failure"]
def yes_NotByValues : List Str := ["NotByValues"]
def no_NotByValues : List Str := ["BadKeep", "BadLine", "TooMany", "BadCall", "Endless", "NoFunction", "Clash", "BadMove", "NoName", "NoDeed", "BadAnswer", "Busy", "BadKind", "NoCase", "NoEnd", "TooLong", "BadChange", "Recursive", "Failure"]
def yes_Recursive : List Str := ["Recursive"]
def no_Recursive : List Str := ["BadKeep", "BadLine", "TooMany", "BadCall", "Endless", "NoFunction", "Clash", "BadMove", "NoName", "NoDeed", "BadAnswer", "Busy", "BadKind", "NoCase", "NoEnd", "TooLong", "BadChange", "NotByValues", "Failure"]
def yes_TooLong : List Str := ["TooLong"]
def no_TooLong : List Str := ["BadKeep", "BadLine", "TooMany", "BadCall", "Endless", "NoFunction", "Clash", "BadMove", "NoName", "NoDeed", "BadAnswer", "Busy", "BadKind", "NoCase", "NoEnd", "BadChange", "NotByValues", "Recursive", "Failure"]
def yes_TooMany : List Str := ["TooMany"]
def no_TooMany : List Str := ["BadKeep", "BadLine", "BadCall", "Endless", "NoFunction", "Clash", "BadMove", "NoName", "NoDeed", "BadAnswer", "Busy", "BadKind", "NoCase", "NoEnd", "TooLong", "BadChange", "NotByValues", "Recursive", "Failure"]
def yes_ValueError : List Str := ["BadKeep", "BadLine", "TooMany", "BadCall", "Endless", "NoFunction", "Clash", "BadMove", "NoName", "NoDeed", "BadAnswer", "Busy", "BadKind", "NoCase", "NoEnd", "TooLong", "BadChange", "NotByValues", "Recursive", "Failure"]
def no_ValueError : List Str := []
structure Facts (K : PySem.W.Frag) (mg : Str → Option Value) (d : Fd) : Prop where
  bi : Fh.Bi mg
  g_Fault : mg "Fault" = some (.ref (cad K "Fault"))
  cl_Fault : Cls K (cad K "Fault")
  mk_Fault : Mk K (cad K "Fault") (He.ma K (cad K "Fault") "__init__")
  cr_Fault : ClX.CRead K (cad K "Fault") (.type "type")
  sf_Fault : PySem.W.selfFirst K (cad K "Fault") = true
  na_Fault_rshift : NoAttr K (cad K "Fault") "__rshift__"
  ne_Fault : PySem.W.findIn K (.ref (cad K "Fault")) "__ne__" = some (some (.builtin "object.__ne__"))
  ob_Fault : PySem.W.mroIn K (cad K "Fault") (.type "object") = some true
  it_Fault : IsT K (cad K "Fault")
  nf_Fault_core : NoAttr K (cad K "Fault") "core"
  nf_Fault_counts : NoAttr K (cad K "Fault") "counts"
  nf_Fault_layers : NoAttr K (cad K "Fault") "layers"
  nf_Fault_row : NoAttr K (cad K "Fault") "row"
  nf_Fault_words : NoAttr K (cad K "Fault") "words"
  kt_tuple_Fault : PySem.W.kitOne K (.ref (cad K "Fault")) (.type "tuple") = some false
  kt_bool_Fault : PySem.W.kitOne K (.ref (cad K "Fault")) (.type "bool") = some false
  kt_int_Fault : PySem.W.kitOne K (.ref (cad K "Fault")) (.type "int") = some false
  kt_str_Fault : PySem.W.kitOne K (.ref (cad K "Fault")) (.type "str") = some false
  F_Fault_init : Fh.Fn K "__init__" "Fault.__init__" s_Fault_init (He.ma K (cad K "Fault") "__init__") d.Fault_init
  b_Fault_init : Binds K d.Fault_init ["self", "row", "counts", "layers", "core"] []
  me_Fault_init : Meth K (cad K "Fault") "__init__" (He.ma K (cad K "Fault") "__init__")
  F_Fault_happening : Fh.Fn K "happening" "Fault.happening" s_Fault_happening (Fh.cmA K (cad K "Fault") "happening") d.Fault_happening
  b_Fault_happening : Binds K d.Fault_happening ["cls", "word", "number"] []
  cm_Fault_happening : ClX.CMet K (cad K "Fault") (.type "type") "happening" (He.ma K (cad K "Fault") "happening") (Fh.cmA K (cad K "Fault") "happening")
  F_Fault_inner : Fh.Fn K "inner" "Fault.inner" s_Fault_inner (He.ma K (cad K "Fault") "inner") d.Fault_inner
  b_Fault_inner : Binds K d.Fault_inner ["self"] []
  me_Fault_inner : Meth K (cad K "Fault") "inner" (He.ma K (cad K "Fault") "inner")
  F_word_of : Fh.Fn K "word_of" "word_of" s_word_of (He.ga K "word_of") d.word_of
  a_word_of : Fh.At K mg "word_of" (He.ga K "word_of") d.word_of ["fault"]
  F_BadKeep_init : Fh.Fn K "__init__" "BadKeep.__init__" s_BadKeep_init (He.ma K (cad K "BadKeep") "__init__") d.BadKeep_init
  b_BadKeep_init : Binds K d.BadKeep_init ["self", "keep"] []
  F_BadLine_init : Fh.Fn K "__init__" "BadLine.__init__" s_BadLine_init (He.ma K (cad K "BadLine") "__init__") d.BadLine_init
  b_BadLine_init : Binds K d.BadLine_init ["self", "at"] []
  F_TooMany_init : Fh.Fn K "__init__" "TooMany.__init__" s_TooMany_init (He.ma K (cad K "TooMany") "__init__") d.TooMany_init
  b_TooMany_init : Binds K d.TooMany_init ["self", "what"] []
  F_BadCall_init : Fh.Fn K "__init__" "BadCall.__init__" s_BadCall_init (He.ma K (cad K "BadCall") "__init__") d.BadCall_init
  b_BadCall_init : Binds K d.BadCall_init ["self", "at"] []
  F_Endless_init : Fh.Fn K "__init__" "Endless.__init__" s_Endless_init (He.ma K (cad K "Endless") "__init__") d.Endless_init
  b_Endless_init : Binds K d.Endless_init ["self", "name"] []
  F_NoFunction_init : Fh.Fn K "__init__" "NoFunction.__init__" s_NoFunction_init (He.ma K (cad K "NoFunction") "__init__") d.NoFunction_init
  b_NoFunction_init : Binds K d.NoFunction_init ["self", "name"] []
  F_Clash_init : Fh.Fn K "__init__" "Clash.__init__" s_Clash_init (He.ma K (cad K "Clash") "__init__") d.Clash_init
  b_Clash_init : Binds K d.Clash_init ["self", "name"] []
  F_BadMove_init : Fh.Fn K "__init__" "BadMove.__init__" s_BadMove_init (He.ma K (cad K "BadMove") "__init__") d.BadMove_init
  b_BadMove_init : Binds K d.BadMove_init ["self", "at"] []
  F_NoName_init : Fh.Fn K "__init__" "NoName.__init__" s_NoName_init (He.ma K (cad K "NoName") "__init__") d.NoName_init
  b_NoName_init : Binds K d.NoName_init ["self", "name"] []
  F_NoDeed_init : Fh.Fn K "__init__" "NoDeed.__init__" s_NoDeed_init (He.ma K (cad K "NoDeed") "__init__") d.NoDeed_init
  b_NoDeed_init : Binds K d.NoDeed_init ["self", "name"] []
  F_BadAnswer_init : Fh.Fn K "__init__" "BadAnswer.__init__" s_BadAnswer_init (He.ma K (cad K "BadAnswer") "__init__") d.BadAnswer_init
  b_BadAnswer_init : Binds K d.BadAnswer_init ["self", "name"] []
  F_BadKind_init : Fh.Fn K "__init__" "BadKind.__init__" s_BadKind_init (He.ma K (cad K "BadKind") "__init__") d.BadKind_init
  b_BadKind_init : Binds K d.BadKind_init ["self", "at"] []
  F_NoCase_init : Fh.Fn K "__init__" "NoCase.__init__" s_NoCase_init (He.ma K (cad K "NoCase") "__init__") d.NoCase_init
  b_NoCase_init : Binds K d.NoCase_init ["self", "case"] []
  F_NoEnd_init : Fh.Fn K "__init__" "NoEnd.__init__" s_NoEnd_init (He.ma K (cad K "NoEnd") "__init__") d.NoEnd_init
  b_NoEnd_init : Binds K d.NoEnd_init ["self", "end"] []
  F_TooLong_init : Fh.Fn K "__init__" "TooLong.__init__" s_TooLong_init (He.ma K (cad K "TooLong") "__init__") d.TooLong_init
  b_TooLong_init : Binds K d.TooLong_init ["self", "number"] []
  F_BadChange_init : Fh.Fn K "__init__" "BadChange.__init__" s_BadChange_init (He.ma K (cad K "BadChange") "__init__") d.BadChange_init
  b_BadChange_init : Binds K d.BadChange_init ["self", "at"] []
  F_NotByValues_init : Fh.Fn K "__init__" "NotByValues.__init__" s_NotByValues_init (He.ma K (cad K "NotByValues") "__init__") d.NotByValues_init
  b_NotByValues_init : Binds K d.NotByValues_init ["self", "at"] []
  F_Recursive_init : Fh.Fn K "__init__" "Recursive.__init__" s_Recursive_init (He.ma K (cad K "Recursive") "__init__") d.Recursive_init
  b_Recursive_init : Binds K d.Recursive_init ["self", "name"] []
  F_Failure_init : Fh.Fn K "__init__" "Failure.__init__" s_Failure_init (He.ma K (cad K "Failure") "__init__") d.Failure_init
  b_Failure_init : Binds K d.Failure_init ["self", "fault"] []
  F_l_bag : Fh.Fn K "_law_bag" "_law_bag" s_l_bag (He.ga K "_law_bag") d.l_bag
  a_l_bag : Fh.At K mg "_law_bag" (He.ga K "_law_bag") d.l_bag ["_law_script", "_law_at"]
  F_l_draw : Fh.Fn K "_law_draw" "_law_draw" s_l_draw (He.ga K "_law_draw") d.l_draw
  a_l_draw : Fh.At K mg "_law_draw" (He.ga K "_law_draw") d.l_draw ["_law_bag_here", "_law_many"]
  F_l_name : Fh.Fn K "_law_name" "_law_name" s_l_name (He.ga K "_law_name") d.l_name
  a_l_name : Fh.At K mg "_law_name" (He.ga K "_law_name") d.l_name ["_law_bag_here", "_law_taken"]
  F_l_like : Fh.Fn K "_law_like" "_law_like" s_l_like (He.ga K "_law_like") d.l_like
  a_l_like : Fh.At K mg "_law_like" (He.ga K "_law_like") d.l_like ["_law_actual", "_law_wanted"]
  F_l_kinds : Fh.Fn K "_law_kinds" "_law_kinds" s_l_kinds (He.ga K "_law_kinds") d.l_kinds
  a_l_kinds : Fh.At K mg "_law_kinds" (He.ga K "_law_kinds") d.l_kinds ["_law_e"]
  F_l_right : Fh.Fn K "_law_right" "_law_right" s_l_right (He.ga K "_law_right") d.l_right
  a_l_right : Fh.At K mg "_law_right" (He.ga K "_law_right") d.l_right ["_law_bag_here"]
  F_law : Fh.Fn K "law" "law" s_law (He.ga K "law") d.law
  a_law : Fh.At K mg "law" (He.ga K "law") d.law ["_law_script"]
  fr_ValueError : mg "ValueError" = none
  g_BadAnswer : mg "BadAnswer" = some (.ref (cad K "BadAnswer"))
  g_BadCall : mg "BadCall" = some (.ref (cad K "BadCall"))
  g_BadChange : mg "BadChange" = some (.ref (cad K "BadChange"))
  g_BadKeep : mg "BadKeep" = some (.ref (cad K "BadKeep"))
  g_BadKind : mg "BadKind" = some (.ref (cad K "BadKind"))
  g_BadLine : mg "BadLine" = some (.ref (cad K "BadLine"))
  g_BadMove : mg "BadMove" = some (.ref (cad K "BadMove"))
  g_Busy : mg "Busy" = some (.ref (cad K "Busy"))
  g_Clash : mg "Clash" = some (.ref (cad K "Clash"))
  g_Endless : mg "Endless" = some (.ref (cad K "Endless"))
  g_Failure : mg "Failure" = some (.ref (cad K "Failure"))
  g_FaultsheardError : mg "FaultsheardError" = some (.ref (cad K "FaultsheardError"))
  g_NoCase : mg "NoCase" = some (.ref (cad K "NoCase"))
  g_NoDeed : mg "NoDeed" = some (.ref (cad K "NoDeed"))
  g_NoEnd : mg "NoEnd" = some (.ref (cad K "NoEnd"))
  g_NoFunction : mg "NoFunction" = some (.ref (cad K "NoFunction"))
  g_NoName : mg "NoName" = some (.ref (cad K "NoName"))
  g_NotByValues : mg "NotByValues" = some (.ref (cad K "NotByValues"))
  g_Recursive : mg "Recursive" = some (.ref (cad K "Recursive"))
  g_TooLong : mg "TooLong" = some (.ref (cad K "TooLong"))
  g_TooMany : mg "TooMany" = some (.ref (cad K "TooMany"))
  xc_BadAnswer : Xc K (cad K "BadAnswer") "name" (He.ma K (cad K "BadAnswer") "__init__")
  xc_BadCall : Xc K (cad K "BadCall") "at" (He.ma K (cad K "BadCall") "__init__")
  xc_BadChange : Xc K (cad K "BadChange") "at" (He.ma K (cad K "BadChange") "__init__")
  xc_BadKeep : Xc K (cad K "BadKeep") "keep" (He.ma K (cad K "BadKeep") "__init__")
  xc_BadKind : Xc K (cad K "BadKind") "at" (He.ma K (cad K "BadKind") "__init__")
  xc_BadLine : Xc K (cad K "BadLine") "at" (He.ma K (cad K "BadLine") "__init__")
  xc_BadMove : Xc K (cad K "BadMove") "at" (He.ma K (cad K "BadMove") "__init__")
  xc_Clash : Xc K (cad K "Clash") "name" (He.ma K (cad K "Clash") "__init__")
  xc_Endless : Xc K (cad K "Endless") "name" (He.ma K (cad K "Endless") "__init__")
  xc_NoCase : Xc K (cad K "NoCase") "case" (He.ma K (cad K "NoCase") "__init__")
  xc_NoDeed : Xc K (cad K "NoDeed") "name" (He.ma K (cad K "NoDeed") "__init__")
  xc_NoEnd : Xc K (cad K "NoEnd") "end" (He.ma K (cad K "NoEnd") "__init__")
  xc_NoFunction : Xc K (cad K "NoFunction") "name" (He.ma K (cad K "NoFunction") "__init__")
  xc_NoName : Xc K (cad K "NoName") "name" (He.ma K (cad K "NoName") "__init__")
  xc_NotByValues : Xc K (cad K "NotByValues") "at" (He.ma K (cad K "NotByValues") "__init__")
  xc_Recursive : Xc K (cad K "Recursive") "name" (He.ma K (cad K "Recursive") "__init__")
  xc_TooLong : Xc K (cad K "TooLong") "number" (He.ma K (cad K "TooLong") "__init__")
  xc_TooMany : Xc K (cad K "TooMany") "what" (He.ma K (cad K "TooMany") "__init__")
  xm_Failure : OexC K (cad K "Failure") ∧ PySem.W.findIn K (.ref (cad K "Failure")) "__init__" = some (some (.ref (He.ma K (cad K "Failure") "__init__"))) ∧ PySem.W.typeIn K (.ref (He.ma K (cad K "Failure") "__init__")) = some (.type "function")
  nx_Failure_cause : PySem.W.findIn K (.ref (cad K "Failure")) "cause" = some none
  nx_Failure_fault : PySem.W.findIn K (.ref (cad K "Failure")) "fault" = some none
  nx_Failure_word : PySem.W.findIn K (.ref (cad K "Failure")) "word" = some none
  xb_Busy : PySem.W.excIn K (cad K "Busy") [.type "ValueError", .type "Exception", .type "BaseException", .type "object"] "ValueError.__new__" = true
  kp_Busy : PySem.W.keepIn K (.ref (cad K "Busy")) = true
  iy_BadAnswer : ∀ C ∈ yes_BadAnswer, XiC K (cad K C) ∧ PySem.W.kitOne K (.ref (cad K C)) (.ref (cad K "BadAnswer")) = some true
  in_BadAnswer : ∀ C ∈ no_BadAnswer, XiC K (cad K C) ∧ PySem.W.kitOne K (.ref (cad K C)) (.ref (cad K "BadAnswer")) = some false
  iy_BadCall : ∀ C ∈ yes_BadCall, XiC K (cad K C) ∧ PySem.W.kitOne K (.ref (cad K C)) (.ref (cad K "BadCall")) = some true
  in_BadCall : ∀ C ∈ no_BadCall, XiC K (cad K C) ∧ PySem.W.kitOne K (.ref (cad K C)) (.ref (cad K "BadCall")) = some false
  iy_BadChange : ∀ C ∈ yes_BadChange, XiC K (cad K C) ∧ PySem.W.kitOne K (.ref (cad K C)) (.ref (cad K "BadChange")) = some true
  in_BadChange : ∀ C ∈ no_BadChange, XiC K (cad K C) ∧ PySem.W.kitOne K (.ref (cad K C)) (.ref (cad K "BadChange")) = some false
  iy_BadKeep : ∀ C ∈ yes_BadKeep, XiC K (cad K C) ∧ PySem.W.kitOne K (.ref (cad K C)) (.ref (cad K "BadKeep")) = some true
  in_BadKeep : ∀ C ∈ no_BadKeep, XiC K (cad K C) ∧ PySem.W.kitOne K (.ref (cad K C)) (.ref (cad K "BadKeep")) = some false
  iy_BadKind : ∀ C ∈ yes_BadKind, XiC K (cad K C) ∧ PySem.W.kitOne K (.ref (cad K C)) (.ref (cad K "BadKind")) = some true
  in_BadKind : ∀ C ∈ no_BadKind, XiC K (cad K C) ∧ PySem.W.kitOne K (.ref (cad K C)) (.ref (cad K "BadKind")) = some false
  iy_BadLine : ∀ C ∈ yes_BadLine, XiC K (cad K C) ∧ PySem.W.kitOne K (.ref (cad K C)) (.ref (cad K "BadLine")) = some true
  in_BadLine : ∀ C ∈ no_BadLine, XiC K (cad K C) ∧ PySem.W.kitOne K (.ref (cad K C)) (.ref (cad K "BadLine")) = some false
  iy_BadMove : ∀ C ∈ yes_BadMove, XiC K (cad K C) ∧ PySem.W.kitOne K (.ref (cad K C)) (.ref (cad K "BadMove")) = some true
  in_BadMove : ∀ C ∈ no_BadMove, XiC K (cad K C) ∧ PySem.W.kitOne K (.ref (cad K C)) (.ref (cad K "BadMove")) = some false
  iy_Busy : ∀ C ∈ yes_Busy, XiC K (cad K C) ∧ PySem.W.kitOne K (.ref (cad K C)) (.ref (cad K "Busy")) = some true
  in_Busy : ∀ C ∈ no_Busy, XiC K (cad K C) ∧ PySem.W.kitOne K (.ref (cad K C)) (.ref (cad K "Busy")) = some false
  iy_Clash : ∀ C ∈ yes_Clash, XiC K (cad K C) ∧ PySem.W.kitOne K (.ref (cad K C)) (.ref (cad K "Clash")) = some true
  in_Clash : ∀ C ∈ no_Clash, XiC K (cad K C) ∧ PySem.W.kitOne K (.ref (cad K C)) (.ref (cad K "Clash")) = some false
  iy_Endless : ∀ C ∈ yes_Endless, XiC K (cad K C) ∧ PySem.W.kitOne K (.ref (cad K C)) (.ref (cad K "Endless")) = some true
  in_Endless : ∀ C ∈ no_Endless, XiC K (cad K C) ∧ PySem.W.kitOne K (.ref (cad K C)) (.ref (cad K "Endless")) = some false
  iy_Failure : ∀ C ∈ yes_Failure, XiC K (cad K C) ∧ PySem.W.kitOne K (.ref (cad K C)) (.ref (cad K "Failure")) = some true
  in_Failure : ∀ C ∈ no_Failure, XiC K (cad K C) ∧ PySem.W.kitOne K (.ref (cad K C)) (.ref (cad K "Failure")) = some false
  iy_FaultsheardError : ∀ C ∈ yes_FaultsheardError, XiC K (cad K C) ∧ PySem.W.kitOne K (.ref (cad K C)) (.ref (cad K "FaultsheardError")) = some true
  in_FaultsheardError : ∀ C ∈ no_FaultsheardError, XiC K (cad K C) ∧ PySem.W.kitOne K (.ref (cad K C)) (.ref (cad K "FaultsheardError")) = some false
  iy_NoCase : ∀ C ∈ yes_NoCase, XiC K (cad K C) ∧ PySem.W.kitOne K (.ref (cad K C)) (.ref (cad K "NoCase")) = some true
  in_NoCase : ∀ C ∈ no_NoCase, XiC K (cad K C) ∧ PySem.W.kitOne K (.ref (cad K C)) (.ref (cad K "NoCase")) = some false
  iy_NoDeed : ∀ C ∈ yes_NoDeed, XiC K (cad K C) ∧ PySem.W.kitOne K (.ref (cad K C)) (.ref (cad K "NoDeed")) = some true
  in_NoDeed : ∀ C ∈ no_NoDeed, XiC K (cad K C) ∧ PySem.W.kitOne K (.ref (cad K C)) (.ref (cad K "NoDeed")) = some false
  iy_NoEnd : ∀ C ∈ yes_NoEnd, XiC K (cad K C) ∧ PySem.W.kitOne K (.ref (cad K C)) (.ref (cad K "NoEnd")) = some true
  in_NoEnd : ∀ C ∈ no_NoEnd, XiC K (cad K C) ∧ PySem.W.kitOne K (.ref (cad K C)) (.ref (cad K "NoEnd")) = some false
  iy_NoFunction : ∀ C ∈ yes_NoFunction, XiC K (cad K C) ∧ PySem.W.kitOne K (.ref (cad K C)) (.ref (cad K "NoFunction")) = some true
  in_NoFunction : ∀ C ∈ no_NoFunction, XiC K (cad K C) ∧ PySem.W.kitOne K (.ref (cad K C)) (.ref (cad K "NoFunction")) = some false
  iy_NoName : ∀ C ∈ yes_NoName, XiC K (cad K C) ∧ PySem.W.kitOne K (.ref (cad K C)) (.ref (cad K "NoName")) = some true
  in_NoName : ∀ C ∈ no_NoName, XiC K (cad K C) ∧ PySem.W.kitOne K (.ref (cad K C)) (.ref (cad K "NoName")) = some false
  iy_NotByValues : ∀ C ∈ yes_NotByValues, XiC K (cad K C) ∧ PySem.W.kitOne K (.ref (cad K C)) (.ref (cad K "NotByValues")) = some true
  in_NotByValues : ∀ C ∈ no_NotByValues, XiC K (cad K C) ∧ PySem.W.kitOne K (.ref (cad K C)) (.ref (cad K "NotByValues")) = some false
  iy_Recursive : ∀ C ∈ yes_Recursive, XiC K (cad K C) ∧ PySem.W.kitOne K (.ref (cad K C)) (.ref (cad K "Recursive")) = some true
  in_Recursive : ∀ C ∈ no_Recursive, XiC K (cad K C) ∧ PySem.W.kitOne K (.ref (cad K C)) (.ref (cad K "Recursive")) = some false
  iy_TooLong : ∀ C ∈ yes_TooLong, XiC K (cad K C) ∧ PySem.W.kitOne K (.ref (cad K C)) (.ref (cad K "TooLong")) = some true
  in_TooLong : ∀ C ∈ no_TooLong, XiC K (cad K C) ∧ PySem.W.kitOne K (.ref (cad K C)) (.ref (cad K "TooLong")) = some false
  iy_TooMany : ∀ C ∈ yes_TooMany, XiC K (cad K C) ∧ PySem.W.kitOne K (.ref (cad K C)) (.ref (cad K "TooMany")) = some true
  in_TooMany : ∀ C ∈ no_TooMany, XiC K (cad K C) ∧ PySem.W.kitOne K (.ref (cad K C)) (.ref (cad K "TooMany")) = some false
  iy_ValueError : ∀ C ∈ yes_ValueError, XiC K (cad K C) ∧ PySem.W.kitOne K (.ref (cad K C)) (.type "ValueError") = some true
  in_ValueError : ∀ C ∈ no_ValueError, XiC K (cad K C) ∧ PySem.W.kitOne K (.ref (cad K C)) (.type "ValueError") = some false
  xf_BadAnswer : XfC K (cad K "BadAnswer")
  xf_BadCall : XfC K (cad K "BadCall")
  xf_BadChange : XfC K (cad K "BadChange")
  xf_BadKeep : XfC K (cad K "BadKeep")
  xf_BadKind : XfC K (cad K "BadKind")
  xf_BadLine : XfC K (cad K "BadLine")
  xf_BadMove : XfC K (cad K "BadMove")
  xf_Clash : XfC K (cad K "Clash")
  xf_Endless : XfC K (cad K "Endless")
  xf_NoCase : XfC K (cad K "NoCase")
  xf_NoDeed : XfC K (cad K "NoDeed")
  xf_NoEnd : XfC K (cad K "NoEnd")
  xf_NoFunction : XfC K (cad K "NoFunction")
  xf_NoName : XfC K (cad K "NoName")
  xf_NotByValues : XfC K (cad K "NotByValues")
  xf_Recursive : XfC K (cad K "Recursive")
  xf_TooLong : XfC K (cad K "TooLong")
  xf_TooMany : XfC K (cad K "TooMany")
section
variable {P : Program} {w : World} {K : PySem.W.Frag} {mg : Str → Option Value} {base : Heap} {d : Fd}
theorem Facts.fl_core (T : Facts K mg d) : ∀ C ∈ Lw.fl_core, Cls K (cad K C) ∧ NoAttr K (cad K C) "core" := by
  intro C h
  simp only [Lw.fl_core, List.mem_cons, List.not_mem_nil, or_false] at h
  subst h
  exact ⟨T.cl_Fault, T.nf_Fault_core⟩
theorem Facts.fl_counts (T : Facts K mg d) : ∀ C ∈ Lw.fl_counts, Cls K (cad K C) ∧ NoAttr K (cad K C) "counts" := by
  intro C h
  simp only [Lw.fl_counts, List.mem_cons, List.not_mem_nil, or_false] at h
  subst h
  exact ⟨T.cl_Fault, T.nf_Fault_counts⟩
theorem Facts.fl_layers (T : Facts K mg d) : ∀ C ∈ Lw.fl_layers, Cls K (cad K C) ∧ NoAttr K (cad K C) "layers" := by
  intro C h
  simp only [Lw.fl_layers, List.mem_cons, List.not_mem_nil, or_false] at h
  subst h
  exact ⟨T.cl_Fault, T.nf_Fault_layers⟩
theorem Facts.fl_row (T : Facts K mg d) : ∀ C ∈ Lw.fl_row, Cls K (cad K C) ∧ NoAttr K (cad K C) "row" := by
  intro C h
  simp only [Lw.fl_row, List.mem_cons, List.not_mem_nil, or_false] at h
  subst h
  exact ⟨T.cl_Fault, T.nf_Fault_row⟩
theorem Facts.fl_words (T : Facts K mg d) : ∀ C ∈ Lw.fl_words, Cls K (cad K C) ∧ NoAttr K (cad K C) "words" := by
  intro C h
  simp only [Lw.fl_words, List.mem_cons, List.not_mem_nil, or_false] at h
  subst h
  exact ⟨T.cl_Fault, T.nf_Fault_words⟩
theorem Facts.it_all (T : Facts K mg d) : ∀ C ∈ Lw.it_all, IsT K (cad K C) := by
  intro C h
  simp only [Lw.it_all, List.mem_cons, List.not_mem_nil, or_false] at h
  subst h
  exact T.it_Fault
theorem Facts.kt_tuple (T : Facts K mg d) : ∀ C ∈ Lw.it_all, PySem.W.kitOne K (.ref (cad K C)) (.type "tuple") = some false := by
  intro C h
  simp only [Lw.it_all, List.mem_cons, List.not_mem_nil, or_false] at h
  subst h
  exact T.kt_tuple_Fault
theorem Facts.kt_bool (T : Facts K mg d) : ∀ C ∈ Lw.it_all, PySem.W.kitOne K (.ref (cad K C)) (.type "bool") = some false := by
  intro C h
  simp only [Lw.it_all, List.mem_cons, List.not_mem_nil, or_false] at h
  subst h
  exact T.kt_bool_Fault
theorem Facts.kt_int (T : Facts K mg d) : ∀ C ∈ Lw.it_all, PySem.W.kitOne K (.ref (cad K C)) (.type "int") = some false := by
  intro C h
  simp only [Lw.it_all, List.mem_cons, List.not_mem_nil, or_false] at h
  subst h
  exact T.kt_int_Fault
theorem Facts.kt_str (T : Facts K mg d) : ∀ C ∈ Lw.it_all, PySem.W.kitOne K (.ref (cad K C)) (.type "str") = some false := by
  intro C h
  simp only [Lw.it_all, List.mem_cons, List.not_mem_nil, or_false] at h
  subst h
  exact T.kt_str_Fault
end
end Lw
set_option autoImplicit false
namespace Lw
open PySem PySem.Spec L2 Mi
/-! ### Fault.__init__ -/
def e_Fault_init : Sv := (vSeq (vSetF fl_row "row" (vVar 0) (vVar 1))
  (vSeq (vSetF fl_counts "counts" (vVar 0) (vVar 2))
  (vSeq (vSetF fl_layers "layers" (vVar 0) (vVar 3))
  (vSeq (vSetF fl_core "core" (vVar 0) (vVar 4))
  (vSetF fl_words "words" (vVar 0) (vCall cTup (vCons (vSortSet (vOp fAdd (vVar 4) (vVar 3))) vNil)))))))
def m_Fault_init : FC := runB 5 e_Fault_init
section
variable {P : Program} {w : World} {K : PySem.W.Frag} {mg : Str → Option Value} {base : Heap} {d : Fd}
theorem ok_Fault_init (T : Facts K mg d) : OkM P w K mg base 1 (He.ma K (cad K "Fault") "__init__") d.Fault_init ["self", "row", "counts", "layers", "core"] m_Fault_init := okM (k := 0) (N := n_Fault_init) (b := e_Fault_init) T.F_Fault_init sc_Fault_init fun cdv A outer s H E hr => by
  have hx := pass_def (P := P) (w := w) (K := K) (mg := mg) (base := base) (N := n_Fault_init) (qual := "Fault.__init__") (scope := defScope s_Fault_init) (f := (He.ma K (cad K "Fault") "__init__")) (cd := cdv) (A := A) (outer := outer) (s := s) (H := H) (E := E)
  exact (mss_cons (ms_fld T.fl_row (mv_var (pv 0)) (mv_var (pv 1)))
  (mss_cons (ms_fld T.fl_counts (mv_var (pv 0)) (mv_var (pv 2)))
  (mss_cons (ms_fld T.fl_layers (mv_var (pv 0)) (mv_var (pv 3)))
  (mss_cons (ms_fld T.fl_core (mv_var (pv 0)) (mv_var (pv 4)))
  (mss_one (ms_fld T.fl_words (mv_var (pv 0)) (mv_callTy call_tuple_of sim_tup (by rfl) T.bi.tuple Fh.bt_tuple (ma_cons (mv_sortset (by rfl) (by rfl) T.bi.sorted (by rfl) T.bi.set (mv_add (mv_var (pv 4)) (mv_var (pv 3)))) ma_nil))))))))
end
/-! ### Fault's fields -/
def gi_Fault : List D → Option (List (Str × D))
  | [r, c, .tup ls, .tup co] => match dSt (co ++ ls) with
    | some ss => if (co ++ ls).length ≤ 3000 then some [("row", r), ("counts", c), ("layers", .tup ls), ("core", .tup co), ("words", .tup ((Fh.srt ss).map D.str))] else none
    | none => none
  | _ => none
theorem iv_Fault : InitV "Fault" m_Fault_init gi_Fault := by
  intro ds M fs h
  unfold gi_Fault at h
  split at h
  · rename_i r c ls co
    split at h
    · rename_i ss hss
      split at h
      · rename_i hl
        cases h
        have hl2 : co.length + ls.length ≤ sizeLine := by rw [sizeLine_eq]; simp at hl; omega
        have hlen : ss.length = (co ++ ls).length := by rw [dSt_eq hss]; simp
        have h3 : ss.length + 1 < scanBound ∧ ss.length ≤ sizeLine := by
          rw [hlen]; simp at hl ⊢; rw [sizeLine_eq]; constructor
          · show _ < 4096; omega
          · omega
        constructor
        · simp [m_Fault_init, e_Fault_init, hl2, hss, h3, fl_row, fl_counts, fl_layers, fl_core, fl_words]
        · intro N hN
          simp [lows, low] at hN ⊢
          exact hN
      · cases h
    · cases h
  · cases h
/-! ### Fault.happening -/
def e_Fault_happening : Sv := (vRet (vMakeL 0 "Fault" gi_Fault 5 (vCons (vTup (vCons (vTup (vCons (vVar 1) (vCons (vVar 2) vNil))) vNil)) (vCons (vTup (vCons (vC (.int 1)) vNil)) (vCons (vTup vNil) (vCons (vTup (vCons (vVar 1) vNil)) vNil))))))
def m_Fault_happening : FC := runB 3 e_Fault_happening
section
variable {P : Program} {w : World} {K : PySem.W.Frag} {mg : Str → Option Value} {base : Heap} {d : Fd}
theorem ok_Fault_happening (T : Facts K mg d) : OkM P w K mg base 3 (Fh.cmA K (cad K "Fault") "happening") d.Fault_happening ["cls", "word", "number"] m_Fault_happening := okM (k := 2) (N := n_Fault_happening) (b := e_Fault_happening) T.F_Fault_happening sc_Fault_happening fun cdv A outer s H E hr => by
  have hx := pass_def (P := P) (w := w) (K := K) (mg := mg) (base := base) (N := n_Fault_happening) (qual := "Fault.happening") (scope := defScope s_Fault_happening) (f := (Fh.cmA K (cad K "Fault") "happening")) (cd := cdv) (A := A) (outer := outer) (s := s) (H := H) (E := E)
  exact (mss_one (ms_ret (mv_makeL (ps := ["self", "row", "counts", "layers", "core"]) (i := 0) iv_Fault T.mk_Fault (ok_Fault_init T) (hr.mono (by decide)) rfl (by first | exact Or.inl rfl | exact Or.inr (Or.inl rfl)) T.b_Fault_init hx (ma_cons (mv_tup (ma_cons (mv_tup (ma_cons (mv_var (pv 1)) (ma_cons (mv_var (pv 2)) ma_nil))) ma_nil)) (ma_cons (mv_tup (ma_cons mv_int ma_nil)) (ma_cons (mv_tup ma_nil) (ma_cons (mv_tup (ma_cons (mv_var (pv 1)) ma_nil)) ma_nil)))))))
end
/-! ### Fault.inner -/
def e_Fault_inner : Sv := (vSeq (vIfS (vNotT (vTru (vFld fl_layers "layers" (vVar 0)))) (vRet (vMakeV "Fault" gi_Fault 5 (vCons (vTup vNil) (vCons (vTup vNil) (vCons (vTup vNil) (vCons (vTup vNil) vNil)))))) vSkip)
  (vRet (vMakeV "Fault" gi_Fault 5 (vCons (vFld fl_row "row" (vVar 0)) (vCons (vFld fl_counts "counts" (vVar 0)) (vCons (vSl (vFld fl_layers "layers" (vVar 0)) (vP (vC (.int 1))) vNoP) (vCons (vFld fl_core "core" (vVar 0)) vNil)))))))
def m_Fault_inner : FC := runB 1 e_Fault_inner
section
variable {P : Program} {w : World} {K : PySem.W.Frag} {mg : Str → Option Value} {base : Heap} {d : Fd}
theorem ok_Fault_inner (T : Facts K mg d) : OkM P w K mg base 3 (He.ma K (cad K "Fault") "inner") d.Fault_inner ["self"] m_Fault_inner := okM (k := 2) (N := n_Fault_inner) (b := e_Fault_inner) T.F_Fault_inner sc_Fault_inner fun cdv A outer s H E hr => by
  have hx := pass_def (P := P) (w := w) (K := K) (mg := mg) (base := base) (N := n_Fault_inner) (qual := "Fault.inner") (scope := defScope s_Fault_inner) (f := (He.ma K (cad K "Fault") "inner")) (cd := cdv) (A := A) (outer := outer) (s := s) (H := H) (E := E)
  exact (mss_cons (ms_if (mt_not (mt_truth (mv_fld T.fl_layers (mv_var (pv 0))))) (mss_one (ms_ret (mv_makeV (ps := ["self", "row", "counts", "layers", "core"]) iv_Fault T.mk_Fault (ok_Fault_init T) (hr.mono (by decide)) (by rfl) T.g_Fault T.b_Fault_init hx (ma_cons (mv_tup ma_nil) (ma_cons (mv_tup ma_nil) (ma_cons (mv_tup ma_nil) (ma_cons (mv_tup ma_nil) ma_nil))))))) mss_nil)
  (mss_one (ms_ret (mv_makeV (ps := ["self", "row", "counts", "layers", "core"]) iv_Fault T.mk_Fault (ok_Fault_init T) (hr.mono (by decide)) (by rfl) T.g_Fault T.b_Fault_init hx (ma_cons (mv_fld T.fl_row (mv_var (pv 0))) (ma_cons (mv_fld T.fl_counts (mv_var (pv 0))) (ma_cons (mv_slice (mv_fld T.fl_layers (mv_var (pv 0))) (mp_some mv_int) mp_none) (ma_cons (mv_fld T.fl_core (mv_var (pv 0))) ma_nil))))))))
end
/-! ### word_of -/
def e_word_of : Sv := (vSeq (vIfS (vTru (vFld fl_layers "layers" (vVar 0))) (vRet (vOp fIx (vFld fl_layers "layers" (vVar 0)) (vC (.int 0)))) vSkip)
  (vSeq (vIfS (vTru (vFld fl_row "row" (vVar 0))) (vRet (vOp fIx (vOp fIx (vFld fl_row "row" (vVar 0)) (vC (.int 0))) (vC (.int 0)))) vSkip)
  (vRet (vIf (vTru (vFld fl_core "core" (vVar 0))) (vOp fIx (vFld fl_core "core" (vVar 0)) (vC (.int 0))) (vC .non)))))
def m_word_of : FC := runB 1 e_word_of
section
variable {P : Program} {w : World} {K : PySem.W.Frag} {mg : Str → Option Value} {base : Heap} {d : Fd}
theorem ok_word_of (T : Facts K mg d) : OkM P w K mg base 1 (He.ga K "word_of") d.word_of ["fault"] m_word_of := okM (k := 0) (N := n_word_of) (b := e_word_of) T.F_word_of sc_word_of fun cdv A outer s H E hr => by
  have hx := pass_def (P := P) (w := w) (K := K) (mg := mg) (base := base) (N := n_word_of) (qual := "word_of") (scope := defScope s_word_of) (f := (He.ga K "word_of")) (cd := cdv) (A := A) (outer := outer) (s := s) (H := H) (E := E)
  exact (mss_cons (ms_if (mt_truth (mv_fld T.fl_layers (mv_var (pv 0)))) (mss_one (ms_ret (mv_ix (mv_fld T.fl_layers (mv_var (pv 0))) mv_int))) mss_nil)
  (mss_cons (ms_if (mt_truth (mv_fld T.fl_row (mv_var (pv 0)))) (mss_one (ms_ret (mv_ix (mv_ix (mv_fld T.fl_row (mv_var (pv 0))) mv_int) mv_int))) mss_nil)
  (mss_one (ms_ret (mv_if (mt_truth (mv_fld T.fl_core (mv_var (pv 0)))) (mv_ix (mv_fld T.fl_core (mv_var (pv 0))) mv_int) mv_non)))))
end
section
variable {P : Program} {w : World} {K : PySem.W.Frag} {mg : Str → Option Value} {base : Heap} {d : Fd}
theorem ok_BadKeep_init (T : Facts K mg d) : FnOk P w K mg base (L2.CX P w) 1 (He.ma K (cad K "BadKeep") "__init__") d.BadKeep_init ["self", "keep"] (spX1 K "keep") := okX1 (k := 0) T.F_BadKeep_init sc_BadKeep_init fun cdv A outer s H E => pss_one (ps_ost (pv 0) (pv 1))
end
section
variable {P : Program} {w : World} {K : PySem.W.Frag} {mg : Str → Option Value} {base : Heap} {d : Fd}
theorem okm_BadKeep_init (T : Facts K mg d) : OkM P w K mg base 1 (He.ma K (cad K "BadKeep") "__init__") d.BadKeep_init ["self", "keep"] (m_x1 "BadKeep" "keep") := okXM (k := 0) T.F_BadKeep_init sc_BadKeep_init T.xc_BadKeep fun cdv A outer s H E => mss_one (ms_ost (fun C h => by rw [List.mem_singleton.mp h]; exact ⟨T.xc_BadKeep.T, T.xc_BadKeep.no⟩) (mv_var (pv 0)) (mv_var (pv 1)))
end
section
variable {P : Program} {w : World} {K : PySem.W.Frag} {mg : Str → Option Value} {base : Heap} {d : Fd}
theorem ok_BadLine_init (T : Facts K mg d) : FnOk P w K mg base (L2.CX P w) 1 (He.ma K (cad K "BadLine") "__init__") d.BadLine_init ["self", "at"] (spX1 K "at") := okX1 (k := 0) T.F_BadLine_init sc_BadLine_init fun cdv A outer s H E => pss_one (ps_ost (pv 0) (pv 1))
end
section
variable {P : Program} {w : World} {K : PySem.W.Frag} {mg : Str → Option Value} {base : Heap} {d : Fd}
theorem okm_BadLine_init (T : Facts K mg d) : OkM P w K mg base 1 (He.ma K (cad K "BadLine") "__init__") d.BadLine_init ["self", "at"] (m_x1 "BadLine" "at") := okXM (k := 0) T.F_BadLine_init sc_BadLine_init T.xc_BadLine fun cdv A outer s H E => mss_one (ms_ost (fun C h => by rw [List.mem_singleton.mp h]; exact ⟨T.xc_BadLine.T, T.xc_BadLine.no⟩) (mv_var (pv 0)) (mv_var (pv 1)))
end
section
variable {P : Program} {w : World} {K : PySem.W.Frag} {mg : Str → Option Value} {base : Heap} {d : Fd}
theorem ok_TooMany_init (T : Facts K mg d) : FnOk P w K mg base (L2.CX P w) 1 (He.ma K (cad K "TooMany") "__init__") d.TooMany_init ["self", "what"] (spX1 K "what") := okX1 (k := 0) T.F_TooMany_init sc_TooMany_init fun cdv A outer s H E => pss_one (ps_ost (pv 0) (pv 1))
end
section
variable {P : Program} {w : World} {K : PySem.W.Frag} {mg : Str → Option Value} {base : Heap} {d : Fd}
theorem okm_TooMany_init (T : Facts K mg d) : OkM P w K mg base 1 (He.ma K (cad K "TooMany") "__init__") d.TooMany_init ["self", "what"] (m_x1 "TooMany" "what") := okXM (k := 0) T.F_TooMany_init sc_TooMany_init T.xc_TooMany fun cdv A outer s H E => mss_one (ms_ost (fun C h => by rw [List.mem_singleton.mp h]; exact ⟨T.xc_TooMany.T, T.xc_TooMany.no⟩) (mv_var (pv 0)) (mv_var (pv 1)))
end
section
variable {P : Program} {w : World} {K : PySem.W.Frag} {mg : Str → Option Value} {base : Heap} {d : Fd}
theorem ok_BadCall_init (T : Facts K mg d) : FnOk P w K mg base (L2.CX P w) 1 (He.ma K (cad K "BadCall") "__init__") d.BadCall_init ["self", "at"] (spX1 K "at") := okX1 (k := 0) T.F_BadCall_init sc_BadCall_init fun cdv A outer s H E => pss_one (ps_ost (pv 0) (pv 1))
end
section
variable {P : Program} {w : World} {K : PySem.W.Frag} {mg : Str → Option Value} {base : Heap} {d : Fd}
theorem okm_BadCall_init (T : Facts K mg d) : OkM P w K mg base 1 (He.ma K (cad K "BadCall") "__init__") d.BadCall_init ["self", "at"] (m_x1 "BadCall" "at") := okXM (k := 0) T.F_BadCall_init sc_BadCall_init T.xc_BadCall fun cdv A outer s H E => mss_one (ms_ost (fun C h => by rw [List.mem_singleton.mp h]; exact ⟨T.xc_BadCall.T, T.xc_BadCall.no⟩) (mv_var (pv 0)) (mv_var (pv 1)))
end
section
variable {P : Program} {w : World} {K : PySem.W.Frag} {mg : Str → Option Value} {base : Heap} {d : Fd}
theorem ok_Endless_init (T : Facts K mg d) : FnOk P w K mg base (L2.CX P w) 1 (He.ma K (cad K "Endless") "__init__") d.Endless_init ["self", "name"] (spX1 K "name") := okX1 (k := 0) T.F_Endless_init sc_Endless_init fun cdv A outer s H E => pss_one (ps_ost (pv 0) (pv 1))
end
section
variable {P : Program} {w : World} {K : PySem.W.Frag} {mg : Str → Option Value} {base : Heap} {d : Fd}
theorem okm_Endless_init (T : Facts K mg d) : OkM P w K mg base 1 (He.ma K (cad K "Endless") "__init__") d.Endless_init ["self", "name"] (m_x1 "Endless" "name") := okXM (k := 0) T.F_Endless_init sc_Endless_init T.xc_Endless fun cdv A outer s H E => mss_one (ms_ost (fun C h => by rw [List.mem_singleton.mp h]; exact ⟨T.xc_Endless.T, T.xc_Endless.no⟩) (mv_var (pv 0)) (mv_var (pv 1)))
end
section
variable {P : Program} {w : World} {K : PySem.W.Frag} {mg : Str → Option Value} {base : Heap} {d : Fd}
theorem ok_NoFunction_init (T : Facts K mg d) : FnOk P w K mg base (L2.CX P w) 1 (He.ma K (cad K "NoFunction") "__init__") d.NoFunction_init ["self", "name"] (spX1 K "name") := okX1 (k := 0) T.F_NoFunction_init sc_NoFunction_init fun cdv A outer s H E => pss_one (ps_ost (pv 0) (pv 1))
end
section
variable {P : Program} {w : World} {K : PySem.W.Frag} {mg : Str → Option Value} {base : Heap} {d : Fd}
theorem okm_NoFunction_init (T : Facts K mg d) : OkM P w K mg base 1 (He.ma K (cad K "NoFunction") "__init__") d.NoFunction_init ["self", "name"] (m_x1 "NoFunction" "name") := okXM (k := 0) T.F_NoFunction_init sc_NoFunction_init T.xc_NoFunction fun cdv A outer s H E => mss_one (ms_ost (fun C h => by rw [List.mem_singleton.mp h]; exact ⟨T.xc_NoFunction.T, T.xc_NoFunction.no⟩) (mv_var (pv 0)) (mv_var (pv 1)))
end
section
variable {P : Program} {w : World} {K : PySem.W.Frag} {mg : Str → Option Value} {base : Heap} {d : Fd}
theorem ok_Clash_init (T : Facts K mg d) : FnOk P w K mg base (L2.CX P w) 1 (He.ma K (cad K "Clash") "__init__") d.Clash_init ["self", "name"] (spX1 K "name") := okX1 (k := 0) T.F_Clash_init sc_Clash_init fun cdv A outer s H E => pss_one (ps_ost (pv 0) (pv 1))
end
section
variable {P : Program} {w : World} {K : PySem.W.Frag} {mg : Str → Option Value} {base : Heap} {d : Fd}
theorem okm_Clash_init (T : Facts K mg d) : OkM P w K mg base 1 (He.ma K (cad K "Clash") "__init__") d.Clash_init ["self", "name"] (m_x1 "Clash" "name") := okXM (k := 0) T.F_Clash_init sc_Clash_init T.xc_Clash fun cdv A outer s H E => mss_one (ms_ost (fun C h => by rw [List.mem_singleton.mp h]; exact ⟨T.xc_Clash.T, T.xc_Clash.no⟩) (mv_var (pv 0)) (mv_var (pv 1)))
end
section
variable {P : Program} {w : World} {K : PySem.W.Frag} {mg : Str → Option Value} {base : Heap} {d : Fd}
theorem ok_BadMove_init (T : Facts K mg d) : FnOk P w K mg base (L2.CX P w) 1 (He.ma K (cad K "BadMove") "__init__") d.BadMove_init ["self", "at"] (spX1 K "at") := okX1 (k := 0) T.F_BadMove_init sc_BadMove_init fun cdv A outer s H E => pss_one (ps_ost (pv 0) (pv 1))
end
section
variable {P : Program} {w : World} {K : PySem.W.Frag} {mg : Str → Option Value} {base : Heap} {d : Fd}
theorem okm_BadMove_init (T : Facts K mg d) : OkM P w K mg base 1 (He.ma K (cad K "BadMove") "__init__") d.BadMove_init ["self", "at"] (m_x1 "BadMove" "at") := okXM (k := 0) T.F_BadMove_init sc_BadMove_init T.xc_BadMove fun cdv A outer s H E => mss_one (ms_ost (fun C h => by rw [List.mem_singleton.mp h]; exact ⟨T.xc_BadMove.T, T.xc_BadMove.no⟩) (mv_var (pv 0)) (mv_var (pv 1)))
end
section
variable {P : Program} {w : World} {K : PySem.W.Frag} {mg : Str → Option Value} {base : Heap} {d : Fd}
theorem ok_NoName_init (T : Facts K mg d) : FnOk P w K mg base (L2.CX P w) 1 (He.ma K (cad K "NoName") "__init__") d.NoName_init ["self", "name"] (spX1 K "name") := okX1 (k := 0) T.F_NoName_init sc_NoName_init fun cdv A outer s H E => pss_one (ps_ost (pv 0) (pv 1))
end
section
variable {P : Program} {w : World} {K : PySem.W.Frag} {mg : Str → Option Value} {base : Heap} {d : Fd}
theorem okm_NoName_init (T : Facts K mg d) : OkM P w K mg base 1 (He.ma K (cad K "NoName") "__init__") d.NoName_init ["self", "name"] (m_x1 "NoName" "name") := okXM (k := 0) T.F_NoName_init sc_NoName_init T.xc_NoName fun cdv A outer s H E => mss_one (ms_ost (fun C h => by rw [List.mem_singleton.mp h]; exact ⟨T.xc_NoName.T, T.xc_NoName.no⟩) (mv_var (pv 0)) (mv_var (pv 1)))
end
section
variable {P : Program} {w : World} {K : PySem.W.Frag} {mg : Str → Option Value} {base : Heap} {d : Fd}
theorem ok_NoDeed_init (T : Facts K mg d) : FnOk P w K mg base (L2.CX P w) 1 (He.ma K (cad K "NoDeed") "__init__") d.NoDeed_init ["self", "name"] (spX1 K "name") := okX1 (k := 0) T.F_NoDeed_init sc_NoDeed_init fun cdv A outer s H E => pss_one (ps_ost (pv 0) (pv 1))
end
section
variable {P : Program} {w : World} {K : PySem.W.Frag} {mg : Str → Option Value} {base : Heap} {d : Fd}
theorem okm_NoDeed_init (T : Facts K mg d) : OkM P w K mg base 1 (He.ma K (cad K "NoDeed") "__init__") d.NoDeed_init ["self", "name"] (m_x1 "NoDeed" "name") := okXM (k := 0) T.F_NoDeed_init sc_NoDeed_init T.xc_NoDeed fun cdv A outer s H E => mss_one (ms_ost (fun C h => by rw [List.mem_singleton.mp h]; exact ⟨T.xc_NoDeed.T, T.xc_NoDeed.no⟩) (mv_var (pv 0)) (mv_var (pv 1)))
end
section
variable {P : Program} {w : World} {K : PySem.W.Frag} {mg : Str → Option Value} {base : Heap} {d : Fd}
theorem ok_BadAnswer_init (T : Facts K mg d) : FnOk P w K mg base (L2.CX P w) 1 (He.ma K (cad K "BadAnswer") "__init__") d.BadAnswer_init ["self", "name"] (spX1 K "name") := okX1 (k := 0) T.F_BadAnswer_init sc_BadAnswer_init fun cdv A outer s H E => pss_one (ps_ost (pv 0) (pv 1))
end
section
variable {P : Program} {w : World} {K : PySem.W.Frag} {mg : Str → Option Value} {base : Heap} {d : Fd}
theorem okm_BadAnswer_init (T : Facts K mg d) : OkM P w K mg base 1 (He.ma K (cad K "BadAnswer") "__init__") d.BadAnswer_init ["self", "name"] (m_x1 "BadAnswer" "name") := okXM (k := 0) T.F_BadAnswer_init sc_BadAnswer_init T.xc_BadAnswer fun cdv A outer s H E => mss_one (ms_ost (fun C h => by rw [List.mem_singleton.mp h]; exact ⟨T.xc_BadAnswer.T, T.xc_BadAnswer.no⟩) (mv_var (pv 0)) (mv_var (pv 1)))
end
section
variable {P : Program} {w : World} {K : PySem.W.Frag} {mg : Str → Option Value} {base : Heap} {d : Fd}
theorem ok_BadKind_init (T : Facts K mg d) : FnOk P w K mg base (L2.CX P w) 1 (He.ma K (cad K "BadKind") "__init__") d.BadKind_init ["self", "at"] (spX1 K "at") := okX1 (k := 0) T.F_BadKind_init sc_BadKind_init fun cdv A outer s H E => pss_one (ps_ost (pv 0) (pv 1))
end
section
variable {P : Program} {w : World} {K : PySem.W.Frag} {mg : Str → Option Value} {base : Heap} {d : Fd}
theorem okm_BadKind_init (T : Facts K mg d) : OkM P w K mg base 1 (He.ma K (cad K "BadKind") "__init__") d.BadKind_init ["self", "at"] (m_x1 "BadKind" "at") := okXM (k := 0) T.F_BadKind_init sc_BadKind_init T.xc_BadKind fun cdv A outer s H E => mss_one (ms_ost (fun C h => by rw [List.mem_singleton.mp h]; exact ⟨T.xc_BadKind.T, T.xc_BadKind.no⟩) (mv_var (pv 0)) (mv_var (pv 1)))
end
section
variable {P : Program} {w : World} {K : PySem.W.Frag} {mg : Str → Option Value} {base : Heap} {d : Fd}
theorem ok_NoCase_init (T : Facts K mg d) : FnOk P w K mg base (L2.CX P w) 1 (He.ma K (cad K "NoCase") "__init__") d.NoCase_init ["self", "case"] (spX1 K "case") := okX1 (k := 0) T.F_NoCase_init sc_NoCase_init fun cdv A outer s H E => pss_one (ps_ost (pv 0) (pv 1))
end
section
variable {P : Program} {w : World} {K : PySem.W.Frag} {mg : Str → Option Value} {base : Heap} {d : Fd}
theorem okm_NoCase_init (T : Facts K mg d) : OkM P w K mg base 1 (He.ma K (cad K "NoCase") "__init__") d.NoCase_init ["self", "case"] (m_x1 "NoCase" "case") := okXM (k := 0) T.F_NoCase_init sc_NoCase_init T.xc_NoCase fun cdv A outer s H E => mss_one (ms_ost (fun C h => by rw [List.mem_singleton.mp h]; exact ⟨T.xc_NoCase.T, T.xc_NoCase.no⟩) (mv_var (pv 0)) (mv_var (pv 1)))
end
section
variable {P : Program} {w : World} {K : PySem.W.Frag} {mg : Str → Option Value} {base : Heap} {d : Fd}
theorem ok_NoEnd_init (T : Facts K mg d) : FnOk P w K mg base (L2.CX P w) 1 (He.ma K (cad K "NoEnd") "__init__") d.NoEnd_init ["self", "end"] (spX1 K "end") := okX1 (k := 0) T.F_NoEnd_init sc_NoEnd_init fun cdv A outer s H E => pss_one (ps_ost (pv 0) (pv 1))
end
section
variable {P : Program} {w : World} {K : PySem.W.Frag} {mg : Str → Option Value} {base : Heap} {d : Fd}
theorem okm_NoEnd_init (T : Facts K mg d) : OkM P w K mg base 1 (He.ma K (cad K "NoEnd") "__init__") d.NoEnd_init ["self", "end"] (m_x1 "NoEnd" "end") := okXM (k := 0) T.F_NoEnd_init sc_NoEnd_init T.xc_NoEnd fun cdv A outer s H E => mss_one (ms_ost (fun C h => by rw [List.mem_singleton.mp h]; exact ⟨T.xc_NoEnd.T, T.xc_NoEnd.no⟩) (mv_var (pv 0)) (mv_var (pv 1)))
end
section
variable {P : Program} {w : World} {K : PySem.W.Frag} {mg : Str → Option Value} {base : Heap} {d : Fd}
theorem ok_TooLong_init (T : Facts K mg d) : FnOk P w K mg base (L2.CX P w) 1 (He.ma K (cad K "TooLong") "__init__") d.TooLong_init ["self", "number"] (spX1 K "number") := okX1 (k := 0) T.F_TooLong_init sc_TooLong_init fun cdv A outer s H E => pss_one (ps_ost (pv 0) (pv 1))
end
section
variable {P : Program} {w : World} {K : PySem.W.Frag} {mg : Str → Option Value} {base : Heap} {d : Fd}
theorem okm_TooLong_init (T : Facts K mg d) : OkM P w K mg base 1 (He.ma K (cad K "TooLong") "__init__") d.TooLong_init ["self", "number"] (m_x1 "TooLong" "number") := okXM (k := 0) T.F_TooLong_init sc_TooLong_init T.xc_TooLong fun cdv A outer s H E => mss_one (ms_ost (fun C h => by rw [List.mem_singleton.mp h]; exact ⟨T.xc_TooLong.T, T.xc_TooLong.no⟩) (mv_var (pv 0)) (mv_var (pv 1)))
end
section
variable {P : Program} {w : World} {K : PySem.W.Frag} {mg : Str → Option Value} {base : Heap} {d : Fd}
theorem ok_BadChange_init (T : Facts K mg d) : FnOk P w K mg base (L2.CX P w) 1 (He.ma K (cad K "BadChange") "__init__") d.BadChange_init ["self", "at"] (spX1 K "at") := okX1 (k := 0) T.F_BadChange_init sc_BadChange_init fun cdv A outer s H E => pss_one (ps_ost (pv 0) (pv 1))
end
section
variable {P : Program} {w : World} {K : PySem.W.Frag} {mg : Str → Option Value} {base : Heap} {d : Fd}
theorem okm_BadChange_init (T : Facts K mg d) : OkM P w K mg base 1 (He.ma K (cad K "BadChange") "__init__") d.BadChange_init ["self", "at"] (m_x1 "BadChange" "at") := okXM (k := 0) T.F_BadChange_init sc_BadChange_init T.xc_BadChange fun cdv A outer s H E => mss_one (ms_ost (fun C h => by rw [List.mem_singleton.mp h]; exact ⟨T.xc_BadChange.T, T.xc_BadChange.no⟩) (mv_var (pv 0)) (mv_var (pv 1)))
end
section
variable {P : Program} {w : World} {K : PySem.W.Frag} {mg : Str → Option Value} {base : Heap} {d : Fd}
theorem ok_NotByValues_init (T : Facts K mg d) : FnOk P w K mg base (L2.CX P w) 1 (He.ma K (cad K "NotByValues") "__init__") d.NotByValues_init ["self", "at"] (spX1 K "at") := okX1 (k := 0) T.F_NotByValues_init sc_NotByValues_init fun cdv A outer s H E => pss_one (ps_ost (pv 0) (pv 1))
end
section
variable {P : Program} {w : World} {K : PySem.W.Frag} {mg : Str → Option Value} {base : Heap} {d : Fd}
theorem okm_NotByValues_init (T : Facts K mg d) : OkM P w K mg base 1 (He.ma K (cad K "NotByValues") "__init__") d.NotByValues_init ["self", "at"] (m_x1 "NotByValues" "at") := okXM (k := 0) T.F_NotByValues_init sc_NotByValues_init T.xc_NotByValues fun cdv A outer s H E => mss_one (ms_ost (fun C h => by rw [List.mem_singleton.mp h]; exact ⟨T.xc_NotByValues.T, T.xc_NotByValues.no⟩) (mv_var (pv 0)) (mv_var (pv 1)))
end
section
variable {P : Program} {w : World} {K : PySem.W.Frag} {mg : Str → Option Value} {base : Heap} {d : Fd}
theorem ok_Recursive_init (T : Facts K mg d) : FnOk P w K mg base (L2.CX P w) 1 (He.ma K (cad K "Recursive") "__init__") d.Recursive_init ["self", "name"] (spX1 K "name") := okX1 (k := 0) T.F_Recursive_init sc_Recursive_init fun cdv A outer s H E => pss_one (ps_ost (pv 0) (pv 1))
end
section
variable {P : Program} {w : World} {K : PySem.W.Frag} {mg : Str → Option Value} {base : Heap} {d : Fd}
theorem okm_Recursive_init (T : Facts K mg d) : OkM P w K mg base 1 (He.ma K (cad K "Recursive") "__init__") d.Recursive_init ["self", "name"] (m_x1 "Recursive" "name") := okXM (k := 0) T.F_Recursive_init sc_Recursive_init T.xc_Recursive fun cdv A outer s H E => mss_one (ms_ost (fun C h => by rw [List.mem_singleton.mp h]; exact ⟨T.xc_Recursive.T, T.xc_Recursive.no⟩) (mv_var (pv 0)) (mv_var (pv 1)))
end
/-! ### Failure.__init__ -/
def e_Failure_init : Sv := (vSeq (vSetX ["Failure"] "fault" (vVar 0) (vVar 1))
  (vSeq (vSetX ["Failure"] "word" (vVar 0) (vFn m_word_of 1 [] (vCons (vVar 1) vNil)))
  (vSeq (vAsg (vMeth "Fault" "inner" m_Fault_inner 1 [] (vVar 1) vNil) (gN 2))
  (vSetX ["Failure"] "cause" (vVar 0) (vIf (vOrT (vTru (vFld fl_layers "layers" (vVar 2))) (vTru (vFld fl_core "core" (vVar 2)))) vNo (vC .non))))))
def m_Failure_init : FC := runB 3 e_Failure_init
section
variable {P : Program} {w : World} {K : PySem.W.Frag} {mg : Str → Option Value} {base : Heap} {d : Fd}
theorem ok_Failure_init (T : Facts K mg d) : OkM P w K mg base 4 (He.ma K (cad K "Failure") "__init__") d.Failure_init ["self", "fault"] m_Failure_init := okM (k := 3) (N := n_Failure_init) (b := e_Failure_init) T.F_Failure_init sc_Failure_init fun cdv A outer s H E hr => by
  have hx := pass_def (P := P) (w := w) (K := K) (mg := mg) (base := base) (N := n_Failure_init) (qual := "Failure.__init__") (scope := defScope s_Failure_init) (f := (He.ma K (cad K "Failure") "__init__")) (cd := cdv) (A := A) (outer := outer) (s := s) (H := H) (E := E)
  exact (mss_cons (ms_ost (cs := ["Failure"]) (fun C h => by rw [List.mem_singleton.mp h]; exact ⟨T.xm_Failure.1, T.nx_Failure_fault⟩) (mv_var (pv 0)) (mv_var (pv 1)))
  (mss_cons (ms_ost (cs := ["Failure"]) (fun C h => by rw [List.mem_singleton.mp h]; exact ⟨T.xm_Failure.1, T.nx_Failure_word⟩) (mv_var (pv 0)) (mv_fn (ps := ["fault"]) (ok_word_of T) (hr.mono (by decide)) (by rfl) T.a_word_of.g T.a_word_of.k T.a_word_of.b .nil (fun _ _ => .nil) hx (ma_cons (mv_var (pv 1)) ma_nil)))
  (mss_cons (ms_set (i := 2) sc_Failure_init.nd rfl (by first | exact Or.inl rfl | exact Or.inr rfl) (mv_meth0 (ps := ["self"]) (mv_var (pv 1)) T.cl_Fault T.me_Fault_inner (ok_Fault_inner T) (hr.mono (by decide)) T.b_Fault_inner .nil (fun _ _ => .nil) hx))
  (mss_one (ms_ost (cs := ["Failure"]) (fun C h => by rw [List.mem_singleton.mp h]; exact ⟨T.xm_Failure.1, T.nx_Failure_cause⟩) (mv_var (pv 0)) (mv_if (MW.mt (mw_or (mt_truth (mv_fld T.fl_layers (mv_var (pv 2)))) (mw_or1 (mt_truth (mv_fld T.fl_core (mv_var (pv 2))))))) mv_no mv_non))))))
end
/-! ### Failure's fields (a happening) -/
def gi_Failure : List D → Option (List (Str × D))
  | [.obj C ks [.tup [.tup [.str w, .int n]], c, .tup [], .tup co, ws]] => if C = "Fault" ∧ ks = (["row", "counts", "layers", "core", "words"] : List Str) then some [("cause", .non), ("word", .str w), ("fault", .obj C ks [.tup [.tup [.str w, .int n]], c, .tup [], .tup co, ws])] else none
  | _ => none
theorem iv_Failure : InitX "Failure" m_Failure_init gi_Failure := by
  intro ds M fs h
  unfold gi_Failure at h
  split at h
  · rename_i C ks w n c co ws
    split at h
    · rename_i hc
      obtain ⟨rfl, rfl⟩ := hc
      cases h
      constructor
      · have a1 : atI [D.tup [D.str w, D.int n]] 0 = some (.tup [D.str w, D.int n]) := rfl
        have a2 : atI [D.str w, D.int n] 0 = some (.str w) := rfl
        have h3 : Fh.srt ([] : List Str) = [] := rfl
        simp [m_Failure_init, e_Failure_init, m_word_of, e_word_of, m_Fault_inner, e_Fault_inner, fl_row, fl_layers, fl_core, gi_Fault, List.lookup, h3, sizeL, putD, a1, a2]
      · intro N hN
        simp [lows, low] at hN ⊢
        exact hN
    · cases h
  · cases h
/-! ### _law_bag -/
def e_l_bag : Sv := (vSeq (vAsg (vIf (vTst (vOp fLt (vVar 1) (vCall cLen (vCons (vVar 0) vNil)))) (vCall cAbs (vCons (vOp fIx (vVar 0) (vVar 1)) vNil)) (vC (.int 0))) (gN 2))
  (vRet (vCell (vCons (vIf (vTst (vOp fGe (vVar 2) (vOp fPow (vC (.int 10)) (vC (.int 18))))) (vVar 2) (vC (.int 0))) (vCons (vOp fAdd (vOp fAdd (vOp fMod (vCall cInt (vCons (vVar 2) vNil)) (vC (.int 1000000007))) (vOp fMul (vC (.int 104729)) (vVar 1))) (vC (.int 11))) (vCons (vC (.int 0)) vNil))))))
def m_l_bag : FC := runB 3 e_l_bag
section
variable {P : Program} {w : World} {K : PySem.W.Frag} {mg : Str → Option Value} {base : Heap} {d : Fd}
theorem ok_l_bag (T : Facts K mg d) : OkM P w K mg base 1 (He.ga K "_law_bag") d.l_bag ["_law_script", "_law_at"] m_l_bag := okM (k := 0) (N := n_l_bag) (b := e_l_bag) T.F_l_bag sc_l_bag fun cdv A outer s H E hr => by
  have hx := pass_def (P := P) (w := w) (K := K) (mg := mg) (base := base) (N := n_l_bag) (qual := "_law_bag") (scope := defScope s_l_bag) (f := (He.ga K "_law_bag")) (cd := cdv) (A := A) (outer := outer) (s := s) (H := H) (E := E)
  exact (mss_cons (ms_set (i := 2) sc_l_bag.nd rfl (by first | exact Or.inl rfl | exact Or.inr rfl) (mv_if (mt_cmp opr_lt sim_lt (mv_var (pv 1)) (mv_callB call_len sim_len (by rfl) T.bi.len Fh.bt_len (ma_cons (mv_var (pv 0)) ma_nil)) (nomark _)) (mv_callB call_abs sim_abs (by rfl) T.bi.abs Fh.bt_abs (ma_cons (mv_ix (mv_var (pv 0)) (mv_var (pv 1))) ma_nil)) mv_int))
  (mss_one (ms_ret (mv_cell (ma_cons (mv_if (mt_cmp opr_ge sim_ge (mv_var (pv 2)) (mv_pow mv_int mv_int) (nomark _)) (mv_var (pv 2)) mv_int) (ma_cons (mv_add (mv_add (mv_mod (mv_callTy call_int1 sim_int (by rfl) T.bi.int Fh.bt_int (ma_cons (mv_var (pv 2)) ma_nil)) mv_int) (mv_mul mv_int (mv_var (pv 1)))) mv_int) (ma_cons mv_int ma_nil)))))))
end
/-! ### _law_draw -/
def e_l_draw : Sv := (vSeq (vIfS (vTst (vOp fGt (vOp fIx (vVar 0) (vC (.int 0))) (vC (.int 0)))) (vSeq (vAsg (vOp fMod (vCall cInt (vCons (vOp fIx (vVar 0) (vC (.int 0))) vNil)) (vVar 1)) (gN 2))
  (vSeq (vSetI (vVar 0) (vC (.int 0)) (vOp fDiv (vOp fIx (vVar 0) (vC (.int 0))) (vVar 1)))
  (vRet (vVar 2)))) vSkip)
  (vSeq (vSetI (vVar 0) (vC (.int 2)) (vOp fAdd (vOp fIx (vVar 0) (vC (.int 2))) (vC (.int 1))))
  (vSeq (vAsg (vOp fMod (vCall cInt (vCons (vOp fMul (vOp fAdd (vOp fIx (vVar 0) (vC (.int 1))) (vOp fMul (vC (.int 7919)) (vOp fIx (vVar 0) (vC (.int 2))))) (vC (.int 48271))) vNil)) (vC (.int 2147483647))) (gN 3))
  (vSeq (vAsg (vOp fMod (vCall cInt (vCons (vOp fAdd (vOp fMul (vVar 3) (vVar 3)) (vOp fMul (vC (.int 65537)) (vOp fIx (vVar 0) (vC (.int 2))))) vNil)) (vC (.int 2147483629))) (gN 3))
  (vRet (vOp fMod (vCall cInt (vCons (vOp fDiv (vVar 3) (vC (.int 64))) vNil)) (vVar 1)))))))
def m_l_draw : FC := runB 4 e_l_draw
section
variable {P : Program} {w : World} {K : PySem.W.Frag} {mg : Str → Option Value} {base : Heap} {d : Fd}
theorem ok_l_draw (T : Facts K mg d) : OkM P w K mg base 1 (He.ga K "_law_draw") d.l_draw ["_law_bag_here", "_law_many"] m_l_draw := okM (k := 0) (N := n_l_draw) (b := e_l_draw) T.F_l_draw sc_l_draw fun cdv A outer s H E hr => by
  have hx := pass_def (P := P) (w := w) (K := K) (mg := mg) (base := base) (N := n_l_draw) (qual := "_law_draw") (scope := defScope s_l_draw) (f := (He.ga K "_law_draw")) (cd := cdv) (A := A) (outer := outer) (s := s) (H := H) (E := E)
  exact (mss_cons (ms_if (mt_cmp opr_gt sim_gt (mv_ix (mv_var (pv 0)) mv_int) mv_int (nomark _)) (mss_cons (ms_set (i := 2) sc_l_draw.nd rfl (by first | exact Or.inl rfl | exact Or.inr rfl) (mv_mod (mv_callTy call_int1 sim_int (by rfl) T.bi.int Fh.bt_int (ma_cons (mv_ix (mv_var (pv 0)) mv_int) ma_nil)) (mv_var (pv 1))))
  (mss_cons (ms_setI (mv_var (pv 0)) mv_int (mv_div (mv_ix (mv_var (pv 0)) mv_int) (mv_var (pv 1))))
  (mss_one (ms_ret (mv_var (pv 2)))))) mss_nil)
  (mss_cons (ms_setI (mv_var (pv 0)) mv_int (mv_add (mv_ix (mv_var (pv 0)) mv_int) mv_int))
  (mss_cons (ms_set (i := 3) sc_l_draw.nd rfl (by first | exact Or.inl rfl | exact Or.inr rfl) (mv_mod (mv_callTy call_int1 sim_int (by rfl) T.bi.int Fh.bt_int (ma_cons (mv_mul (mv_add (mv_ix (mv_var (pv 0)) mv_int) (mv_mul mv_int (mv_ix (mv_var (pv 0)) mv_int))) mv_int) ma_nil)) mv_int))
  (mss_cons (ms_set (i := 3) sc_l_draw.nd rfl (by first | exact Or.inl rfl | exact Or.inr rfl) (mv_mod (mv_callTy call_int1 sim_int (by rfl) T.bi.int Fh.bt_int (ma_cons (mv_add (mv_mul (mv_var (pv 3)) (mv_var (pv 3))) (mv_mul mv_int (mv_ix (mv_var (pv 0)) mv_int))) ma_nil)) mv_int))
  (mss_one (ms_ret (mv_mod (mv_callTy call_int1 sim_int (by rfl) T.bi.int Fh.bt_int (ma_cons (mv_div (mv_var (pv 3)) mv_int) ma_nil)) (mv_var (pv 1)))))))))
end
/-! ### _law_name -/
def e_l_name : Sv := (vSeq (vAsg (vC (.str "again as def else except fails finally from if in maybe new no none note outside")) (gN 2))
  (vSeq (vAsg (vBM "str" mSplit (vOp fAdd (vVar 2) (vC (.str " pass raise repeat return stop try use well yes out"))) (vCons (vC (.str " ")) vNil)) (gN 3))
  (vSeq (vAsg (vC (.str "abcdefghijklmnopqrstuvwxyz")) (gN 4))
  (vSeq (vAsg (vBM "str" mJoin (vC (.str "")) (vCons (vComp [7] [7] (vRng1 (vCons (vOp fAdd (vC (.int 1)) (vFn m_l_draw 2 [] (vCons (vVar 0) (vCons (vC (.int 6)) vNil)))) vNil)) bN vYes (vOp fIx (vVar 4) (vFn m_l_draw 2 [] (vCons (vVar 0) (vCons (vC (.int 26)) vNil))))) vNil)) (gN 5))
  (vSeq (vAsg (vOp fAdd (vOp fAdd (vLst (vCons (vVar 5) vNil)) (vComp [8] [8] (vIt (vVar 4)) bN vYes (vOp fAdd (vVar 5) (vVar 8)))) (vComp [8] [8] (vIt (vVar 4)) bN vYes (vOp fAdd (vOp fAdd (vVar 5) (vC (.str "q"))) (vVar 8)))) (gN 6))
  (vRet (vOp fIx (vComp [9] [9] (vIt (vVar 6)) bN (vAndT (vTst (vOp fNotIn (vVar 9) (vVar 3))) (vTst (vOp fNotIn (vVar 9) (vVar 1)))) (vVar 9)) (vC (.int 0)))))))))
def m_l_name : FC := runB 10 e_l_name
section
variable {P : Program} {w : World} {K : PySem.W.Frag} {mg : Str → Option Value} {base : Heap} {d : Fd}
theorem ok_l_name (T : Facts K mg d) : OkM P w K mg base 2 (He.ga K "_law_name") d.l_name ["_law_bag_here", "_law_taken"] m_l_name := okM (k := 1) (N := n_l_name) (b := e_l_name) T.F_l_name sc_l_name fun cdv A outer s H E hr => by
  have hx := pass_def (P := P) (w := w) (K := K) (mg := mg) (base := base) (N := n_l_name) (qual := "_law_name") (scope := defScope s_l_name) (f := (He.ga K "_law_name")) (cd := cdv) (A := A) (outer := outer) (s := s) (H := H) (E := E)
  exact (mss_cons (ms_set (i := 2) sc_l_name.nd rfl (by first | exact Or.inl rfl | exact Or.inr rfl) (mv_str (by decide +kernel)))
  (mss_cons (ms_set (i := 3) sc_l_name.nd rfl (by first | exact Or.inl rfl | exact Or.inr rfl) (mv_bm PySem.F.plainAttrs_str PySem.F.slot_str_split PySem.F.type_str_split mt_split sim_split (mv_add (mv_var (pv 2)) (mv_str (by decide +kernel))) (ma_cons (mv_str (by decide +kernel)) ma_nil)))
  (mss_cons (ms_set (i := 4) sc_l_name.nd rfl (by first | exact Or.inl rfl | exact Or.inr rfl) (mv_str (by decide +kernel)))
  (mss_cons (ms_set (i := 5) sc_l_name.nd rfl (by first | exact Or.inl rfl | exact Or.inr rfl) (mv_bm PySem.F.plainAttrs_str PySem.F.slot_str_join PySem.F.type_str_join mt_join sim_join (mv_str (by decide +kernel)) (ma_cons (mv_lc (own := [("_law_turn", 7)]) (G := gName 7) (by rfl) sc_l_name.nd (mi_range1 (by rfl) T.bi.range (ma_cons (mv_add mv_int (mv_fn (ps := ["_law_bag_here", "_law_many"]) (ok_l_draw T) (hr.mono (by decide)) (by rfl) T.a_l_draw.g T.a_l_draw.k T.a_l_draw.b .nil (fun _ _ => .nil) hx (ma_cons (mv_var (pv 0)) (ma_cons mv_int ma_nil)))) ma_nil)) (blkOk_by (own := [("_law_turn", 7)]) (N := n_l_name) (sc := defScope s_l_name) (by decide +kernel)) (tg_name 7) (by decide) (fun _ _ _ _ _ => pg_name (i := 7) sc_l_name.nd rfl (Or.inl rfl)) (fun _ _ _ _ _ => mts_nil) (fun _ _ _ _ _ => (mv_ix (mv_var (pv 4)) (mv_fn (ps := ["_law_bag_here", "_law_many"]) (ok_l_draw T) (hr.mono (by decide)) (by rfl) T.a_l_draw.g T.a_l_draw.k T.a_l_draw.b .nil (fun _ _ => .nil) passL (ma_cons (mv_var (pv 0)) (ma_cons mv_int ma_nil)))))) ma_nil)))
  (mss_cons (ms_set (i := 6) sc_l_name.nd rfl (by first | exact Or.inl rfl | exact Or.inr rfl) (mv_add (mv_add (mv_lst (ma_cons (mv_var (pv 5)) ma_nil)) (mv_lc (own := [("_law_sign", 8)]) (G := gName 8) (by rfl) sc_l_name.nd (mi_it (mv_var (pv 4))) (blkOk_by (own := [("_law_sign", 8)]) (N := n_l_name) (sc := defScope s_l_name) (by decide +kernel)) (tg_name 8) (by decide) (fun _ _ _ _ _ => pg_name (i := 8) sc_l_name.nd rfl (Or.inl rfl)) (fun _ _ _ _ _ => mts_nil) (fun _ _ _ _ _ => (mv_add (mv_var (pv 5)) (mv_var (pv 8)))))) (mv_lc (own := [("_law_sign", 8)]) (G := gName 8) (by rfl) sc_l_name.nd (mi_it (mv_var (pv 4))) (blkOk_by (own := [("_law_sign", 8)]) (N := n_l_name) (sc := defScope s_l_name) (by decide +kernel)) (tg_name 8) (by decide) (fun _ _ _ _ _ => pg_name (i := 8) sc_l_name.nd rfl (Or.inl rfl)) (fun _ _ _ _ _ => mts_nil) (fun _ _ _ _ _ => (mv_add (mv_add (mv_var (pv 5)) (mv_str (by decide +kernel))) (mv_var (pv 8)))))))
  (mss_one (ms_ret (mv_ix (mv_lc (own := [("_law_one_here", 9)]) (G := gName 9) (by rfl) sc_l_name.nd (mi_it (mv_var (pv 6))) (blkOk_by (own := [("_law_one_here", 9)]) (N := n_l_name) (sc := defScope s_l_name) (by decide +kernel)) (tg_name 9) (by decide) (fun _ _ _ _ _ => pg_name (i := 9) sc_l_name.nd rfl (Or.inl rfl)) (fun _ _ _ _ _ => (mts_one (MW.mt (mw_and (mt_cmp (opr_notIn (units65 hr)) sim_notIn (mv_var (pv 9)) (mv_var (pv 3)) (by rfl)) (mw_and1 (mt_cmp (opr_notIn (units65 hr)) sim_notIn (mv_var (pv 9)) (mv_var (pv 1)) (by rfl))))))) (fun _ _ _ _ _ => (mv_var (pv 9)))) mv_int))))))))
end
/-! ### _law_like -/
def e_l_like (g : FC) : Sv := (vSeq (vIfS (vTru (vIsi it_all (kitT "tuple" it_all) (vVar 1))) (vSeq (vIfS (vOrT (vNotT (vTru (vIsi it_all (kitT "tuple" it_all) (vVar 0)))) (vTst (vOp fNe (vCall cLen (vCons (vVar 0) vNil)) (vCall cLen (vCons (vVar 1) vNil))))) (vRet (vC (.bl false))) vSkip)
  (vRet (vCall cAll (vCons (vComp [2] [2] (vRng1 (vCons (vCall cLen (vCons (vVar 1) vNil)) vNil)) bN vYes (vFn g 2 [] (vCons (vOp fIx (vVar 0) (vVar 2)) (vCons (vOp fIx (vVar 1) (vVar 2)) vNil)))) vNil)))) vSkip)
  (vSeq (vIfS (vOrT (vTst (vOp fIsN (vVar 1) (vC .non))) (vTru (vIsi it_all (kitT "bool" it_all) (vVar 1)))) (vRet (vAnd (vOp fEq (vIsi it_all (kitT "bool" it_all) (vVar 0)) (vIsi it_all (kitT "bool" it_all) (vVar 1))) (vOp fEq (vVar 0) (vVar 1)))) vSkip)
  (vSeq (vIfS (vTru (vIsi it_all (kitT "int" it_all) (vVar 1))) (vRet (vAnd (vIsi it_all (kitT "int" it_all) (vVar 0)) (vAnd (vNot (vIsi it_all (kitT "bool" it_all) (vVar 0))) (vOp fEq (vVar 0) (vVar 1))))) vSkip)
  (vRet (vAnd (vIsi it_all (kitT "str" it_all) (vVar 0)) (vOp fEq (vVar 0) (vVar 1)))))))
def m_l_like : Nat → FC
  | 0 => fun _ _ => none
  | n + 1 => runB 3 (e_l_like (m_l_like n))
section
variable {K : PySem.W.Frag} {mg : Str → Option Value} {d : Fd}
theorem ok_l_like (T : Facts K mg d) : ∀ (n : Nat) {P : Program} {w : World} {base : Heap}, OkM P w K mg base (1 + n) (He.ga K "_law_like") d.l_like ["_law_actual", "_law_wanted"] (m_l_like n)
  | 0, P, w, base => ok_none
  | n + 1, P, w, base => okM (k := 1 + n) (N := n_l_like) (b := e_l_like (m_l_like n)) T.F_l_like sc_l_like fun cdv A outer s H E hr => by
    have hx := pass_def (P := P) (w := w) (K := K) (mg := mg) (base := base) (N := n_l_like) (qual := "_law_like") (scope := defScope s_l_like) (f := (He.ga K "_law_like")) (cd := cdv) (A := A) (outer := outer) (s := s) (H := H) (E := E)
    exact (mss_cons (ms_if (mt_truth (mv_isi T.it_all (.ty "tuple") (kitT_ok T.kt_tuple) (pe_bltn (v := .ty "tuple") (by rfl) T.bi.tuple Fh.bt_tuple rfl) (by rfl) T.bi.isinstance (mv_var (pv 1)))) (mss_cons (ms_if (MW.mt (mw_or (mt_not (mt_truth (mv_isi T.it_all (.ty "tuple") (kitT_ok T.kt_tuple) (pe_bltn (v := .ty "tuple") (by rfl) T.bi.tuple Fh.bt_tuple rfl) (by rfl) T.bi.isinstance (mv_var (pv 0))))) (mw_or1 (mt_cmp (op_neM hr.units) sim_ne (mv_callB call_len sim_len (by rfl) T.bi.len Fh.bt_len (ma_cons (mv_var (pv 0)) ma_nil)) (mv_callB call_len sim_len (by rfl) T.bi.len Fh.bt_len (ma_cons (mv_var (pv 1)) ma_nil)) (nomark _))))) (mss_one (ms_ret mv_bl)) mss_nil)
  (mss_one (ms_ret (mv_callB (cr_all (by rfl)) sim_all (by rfl) T.bi.all Fh.bt_all (ma_cons (mv_lc (own := [("_law_at", 2)]) (G := gName 2) (by rfl) sc_l_like.nd (mi_range1 (by rfl) T.bi.range (ma_cons (mv_callB call_len sim_len (by rfl) T.bi.len Fh.bt_len (ma_cons (mv_var (pv 1)) ma_nil)) ma_nil)) (blkOk_by (own := [("_law_at", 2)]) (N := n_l_like) (sc := defScope s_l_like) (by decide +kernel)) (tg_name 2) (by decide) (fun _ _ _ _ _ => pg_name (i := 2) sc_l_like.nd rfl (Or.inl rfl)) (fun _ _ _ _ _ => mts_nil) (fun _ _ _ _ _ => (mv_fn (ps := ["_law_actual", "_law_wanted"]) (ok_l_like T n) (hr.mono (by omega)) (by rfl) T.a_l_like.g T.a_l_like.k T.a_l_like.b .nil (fun _ _ => .nil) passL (ma_cons (mv_ix (mv_var (pv 0)) (mv_var (pv 2))) (ma_cons (mv_ix (mv_var (pv 1)) (mv_var (pv 2))) ma_nil))))) ma_nil))))) mss_nil)
  (mss_cons (ms_if (MW.mt (mw_or (mt_cmp op_isN sim_isN (mv_var (pv 1)) mv_non (nomark _)) (mw_or1 (mt_truth (mv_isi T.it_all (.ty "bool") (kitT_ok T.kt_bool) (pe_bltn (v := .ty "bool") (by rfl) T.bi.bool Fh.bt_bool rfl) (by rfl) T.bi.isinstance (mv_var (pv 1))))))) (mss_one (ms_ret (mv_and (mv_cmp (op_eqM hr.units) sim_eq (mv_isi T.it_all (.ty "bool") (kitT_ok T.kt_bool) (pe_bltn (v := .ty "bool") (by rfl) T.bi.bool Fh.bt_bool rfl) (by rfl) T.bi.isinstance (mv_var (pv 0))) (mv_isi T.it_all (.ty "bool") (kitT_ok T.kt_bool) (pe_bltn (v := .ty "bool") (by rfl) T.bi.bool Fh.bt_bool rfl) (by rfl) T.bi.isinstance (mv_var (pv 1))) (nomark _)) (mv_one (mv_cmp (op_eqM hr.units) sim_eq (mv_var (pv 0)) (mv_var (pv 1)) (nomark _)))))) mss_nil)
  (mss_cons (ms_if (mt_truth (mv_isi T.it_all (.ty "int") (kitT_ok T.kt_int) (pe_bltn (v := .ty "int") (by rfl) T.bi.int Fh.bt_int rfl) (by rfl) T.bi.isinstance (mv_var (pv 1)))) (mss_one (ms_ret (mv_and (mv_isi T.it_all (.ty "int") (kitT_ok T.kt_int) (pe_bltn (v := .ty "int") (by rfl) T.bi.int Fh.bt_int rfl) (by rfl) T.bi.isinstance (mv_var (pv 0))) (mv_and (mv_not (mv_isi T.it_all (.ty "bool") (kitT_ok T.kt_bool) (pe_bltn (v := .ty "bool") (by rfl) T.bi.bool Fh.bt_bool rfl) (by rfl) T.bi.isinstance (mv_var (pv 0)))) (mv_one (mv_cmp (op_eqM hr.units) sim_eq (mv_var (pv 0)) (mv_var (pv 1)) (nomark _))))))) mss_nil)
  (mss_one (ms_ret (mv_and (mv_isi T.it_all (.ty "str") (kitT_ok T.kt_str) (pe_bltn (v := .ty "str") (by rfl) T.bi.str Fh.bt_str rfl) (by rfl) T.bi.isinstance (mv_var (pv 0))) (mv_one (mv_cmp (op_eqM hr.units) sim_eq (mv_var (pv 0)) (mv_var (pv 1)) (nomark _)))))))))
end
/-! ### _law_kinds -/
def e_l_kinds : Sv := (vSeq (vAsg (vLst (vCons (vIsX yes_BadKeep no_BadKeep (vVar 0)) (vCons (vIsX yes_BadLine no_BadLine (vVar 0)) (vCons (vIsX yes_TooMany no_TooMany (vVar 0)) (vCons (vIsX yes_BadCall no_BadCall (vVar 0)) vNil))))) (gN 1))
  (vSeq (vAsg (vOp fAdd (vVar 1) (vLst (vCons (vIsX yes_Endless no_Endless (vVar 0)) (vCons (vIsX yes_NoFunction no_NoFunction (vVar 0)) (vCons (vIsX yes_Clash no_Clash (vVar 0)) (vCons (vIsX yes_BadMove no_BadMove (vVar 0)) vNil)))))) (gN 1))
  (vSeq (vAsg (vOp fAdd (vVar 1) (vLst (vCons (vIsX yes_NoName no_NoName (vVar 0)) (vCons (vIsX yes_NoDeed no_NoDeed (vVar 0)) (vCons (vIsX yes_BadAnswer no_BadAnswer (vVar 0)) (vCons (vIsX yes_Busy no_Busy (vVar 0)) vNil)))))) (gN 1))
  (vSeq (vAsg (vOp fAdd (vVar 1) (vLst (vCons (vIsX yes_BadKind no_BadKind (vVar 0)) (vCons (vIsX yes_NoCase no_NoCase (vVar 0)) (vCons (vIsX yes_NoEnd no_NoEnd (vVar 0)) (vCons (vIsX yes_TooLong no_TooLong (vVar 0)) vNil)))))) (gN 1))
  (vRet (vOp fAdd (vVar 1) (vLst (vCons (vIsX yes_BadChange no_BadChange (vVar 0)) (vCons (vIsX yes_NotByValues no_NotByValues (vVar 0)) (vCons (vIsX yes_Recursive no_Recursive (vVar 0)) vNil))))))))))
def m_l_kinds : FC := runB 2 e_l_kinds
section
variable {P : Program} {w : World} {K : PySem.W.Frag} {mg : Str → Option Value} {base : Heap} {d : Fd}
theorem ok_l_kinds (T : Facts K mg d) : OkM P w K mg base 1 (He.ga K "_law_kinds") d.l_kinds ["_law_e"] m_l_kinds := okM (k := 0) (N := n_l_kinds) (b := e_l_kinds) T.F_l_kinds sc_l_kinds fun cdv A outer s H E hr => by
  have hx := pass_def (P := P) (w := w) (K := K) (mg := mg) (base := base) (N := n_l_kinds) (qual := "_law_kinds") (scope := defScope s_l_kinds) (f := (He.ga K "_law_kinds")) (cd := cdv) (A := A) (outer := outer) (s := s) (H := H) (E := E)
  exact (mss_cons (ms_set (i := 1) sc_l_kinds.nd rfl (by first | exact Or.inl rfl | exact Or.inr rfl) (mv_lst (ma_cons (mv_isX (yes := yes_BadKeep) (no := no_BadKeep) T.iy_BadKeep T.in_BadKeep (.own (cad K "BadKeep")) (pe_glob (v := .ref (cad K "BadKeep")) (by rfl) T.g_BadKeep rfl) (by rfl) T.bi.isinstance (mv_var (pv 0))) (ma_cons (mv_isX (yes := yes_BadLine) (no := no_BadLine) T.iy_BadLine T.in_BadLine (.own (cad K "BadLine")) (pe_glob (v := .ref (cad K "BadLine")) (by rfl) T.g_BadLine rfl) (by rfl) T.bi.isinstance (mv_var (pv 0))) (ma_cons (mv_isX (yes := yes_TooMany) (no := no_TooMany) T.iy_TooMany T.in_TooMany (.own (cad K "TooMany")) (pe_glob (v := .ref (cad K "TooMany")) (by rfl) T.g_TooMany rfl) (by rfl) T.bi.isinstance (mv_var (pv 0))) (ma_cons (mv_isX (yes := yes_BadCall) (no := no_BadCall) T.iy_BadCall T.in_BadCall (.own (cad K "BadCall")) (pe_glob (v := .ref (cad K "BadCall")) (by rfl) T.g_BadCall rfl) (by rfl) T.bi.isinstance (mv_var (pv 0))) ma_nil))))))
  (mss_cons (ms_set (i := 1) sc_l_kinds.nd rfl (by first | exact Or.inl rfl | exact Or.inr rfl) (mv_add (mv_var (pv 1)) (mv_lst (ma_cons (mv_isX (yes := yes_Endless) (no := no_Endless) T.iy_Endless T.in_Endless (.own (cad K "Endless")) (pe_glob (v := .ref (cad K "Endless")) (by rfl) T.g_Endless rfl) (by rfl) T.bi.isinstance (mv_var (pv 0))) (ma_cons (mv_isX (yes := yes_NoFunction) (no := no_NoFunction) T.iy_NoFunction T.in_NoFunction (.own (cad K "NoFunction")) (pe_glob (v := .ref (cad K "NoFunction")) (by rfl) T.g_NoFunction rfl) (by rfl) T.bi.isinstance (mv_var (pv 0))) (ma_cons (mv_isX (yes := yes_Clash) (no := no_Clash) T.iy_Clash T.in_Clash (.own (cad K "Clash")) (pe_glob (v := .ref (cad K "Clash")) (by rfl) T.g_Clash rfl) (by rfl) T.bi.isinstance (mv_var (pv 0))) (ma_cons (mv_isX (yes := yes_BadMove) (no := no_BadMove) T.iy_BadMove T.in_BadMove (.own (cad K "BadMove")) (pe_glob (v := .ref (cad K "BadMove")) (by rfl) T.g_BadMove rfl) (by rfl) T.bi.isinstance (mv_var (pv 0))) ma_nil)))))))
  (mss_cons (ms_set (i := 1) sc_l_kinds.nd rfl (by first | exact Or.inl rfl | exact Or.inr rfl) (mv_add (mv_var (pv 1)) (mv_lst (ma_cons (mv_isX (yes := yes_NoName) (no := no_NoName) T.iy_NoName T.in_NoName (.own (cad K "NoName")) (pe_glob (v := .ref (cad K "NoName")) (by rfl) T.g_NoName rfl) (by rfl) T.bi.isinstance (mv_var (pv 0))) (ma_cons (mv_isX (yes := yes_NoDeed) (no := no_NoDeed) T.iy_NoDeed T.in_NoDeed (.own (cad K "NoDeed")) (pe_glob (v := .ref (cad K "NoDeed")) (by rfl) T.g_NoDeed rfl) (by rfl) T.bi.isinstance (mv_var (pv 0))) (ma_cons (mv_isX (yes := yes_BadAnswer) (no := no_BadAnswer) T.iy_BadAnswer T.in_BadAnswer (.own (cad K "BadAnswer")) (pe_glob (v := .ref (cad K "BadAnswer")) (by rfl) T.g_BadAnswer rfl) (by rfl) T.bi.isinstance (mv_var (pv 0))) (ma_cons (mv_isX (yes := yes_Busy) (no := no_Busy) T.iy_Busy T.in_Busy (.own (cad K "Busy")) (pe_glob (v := .ref (cad K "Busy")) (by rfl) T.g_Busy rfl) (by rfl) T.bi.isinstance (mv_var (pv 0))) ma_nil)))))))
  (mss_cons (ms_set (i := 1) sc_l_kinds.nd rfl (by first | exact Or.inl rfl | exact Or.inr rfl) (mv_add (mv_var (pv 1)) (mv_lst (ma_cons (mv_isX (yes := yes_BadKind) (no := no_BadKind) T.iy_BadKind T.in_BadKind (.own (cad K "BadKind")) (pe_glob (v := .ref (cad K "BadKind")) (by rfl) T.g_BadKind rfl) (by rfl) T.bi.isinstance (mv_var (pv 0))) (ma_cons (mv_isX (yes := yes_NoCase) (no := no_NoCase) T.iy_NoCase T.in_NoCase (.own (cad K "NoCase")) (pe_glob (v := .ref (cad K "NoCase")) (by rfl) T.g_NoCase rfl) (by rfl) T.bi.isinstance (mv_var (pv 0))) (ma_cons (mv_isX (yes := yes_NoEnd) (no := no_NoEnd) T.iy_NoEnd T.in_NoEnd (.own (cad K "NoEnd")) (pe_glob (v := .ref (cad K "NoEnd")) (by rfl) T.g_NoEnd rfl) (by rfl) T.bi.isinstance (mv_var (pv 0))) (ma_cons (mv_isX (yes := yes_TooLong) (no := no_TooLong) T.iy_TooLong T.in_TooLong (.own (cad K "TooLong")) (pe_glob (v := .ref (cad K "TooLong")) (by rfl) T.g_TooLong rfl) (by rfl) T.bi.isinstance (mv_var (pv 0))) ma_nil)))))))
  (mss_one (ms_ret (mv_add (mv_var (pv 1)) (mv_lst (ma_cons (mv_isX (yes := yes_BadChange) (no := no_BadChange) T.iy_BadChange T.in_BadChange (.own (cad K "BadChange")) (pe_glob (v := .ref (cad K "BadChange")) (by rfl) T.g_BadChange rfl) (by rfl) T.bi.isinstance (mv_var (pv 0))) (ma_cons (mv_isX (yes := yes_NotByValues) (no := no_NotByValues) T.iy_NotByValues T.in_NotByValues (.own (cad K "NotByValues")) (pe_glob (v := .ref (cad K "NotByValues")) (by rfl) T.g_NotByValues rfl) (by rfl) T.bi.isinstance (mv_var (pv 0))) (ma_cons (mv_isX (yes := yes_Recursive) (no := no_Recursive) T.iy_Recursive T.in_Recursive (.own (cad K "Recursive")) (pe_glob (v := .ref (cad K "Recursive")) (by rfl) T.g_Recursive rfl) (by rfl) T.bi.isinstance (mv_var (pv 0))) ma_nil)))))))))))
end
/-! ### _law_right -/
def e_l_right : Sv := (vSeq (vAsg (vTup (vCons (vFn m_l_draw 2 [] (vCons (vVar 0) (vCons (vOp fIx (vLst (vCons (vC (.int 1000)) (vCons (vOp fPow (vC (.int 10)) (vC (.int 30))) vNil))) (vFn m_l_draw 2 [] (vCons (vVar 0) (vCons (vC (.int 2)) vNil)))) vNil))) (vCons (vFn m_l_name 2 [] (vCons (vVar 0) (vCons (vLst vNil) vNil))) vNil))) (gT 2 (gsCons (gN 1) (gsCons (gN 2) gsNil))))
  (vSeq (vAsg (vLst (vCons (vMkX "BadKeep" (gi_x1 "keep") 2 (vCons (vVar 2) vNil)) (vCons (vMkX "BadLine" (gi_x1 "at") 2 (vCons (vVar 1) vNil)) (vCons (vMkX "TooMany" (gi_x1 "what") 2 (vCons (vVar 2) vNil)) (vCons (vMkX "BadCall" (gi_x1 "at") 2 (vCons (vVar 1) vNil)) (vCons (vMkX "Endless" (gi_x1 "name") 2 (vCons (vVar 2) vNil)) (vCons (vMkX "NoFunction" (gi_x1 "name") 2 (vCons (vVar 2) vNil)) vNil))))))) (gN 3))
  (vSeq (vAsg (vOp fAdd (vVar 3) (vLst (vCons (vMkX "Clash" (gi_x1 "name") 2 (vCons (vVar 2) vNil)) (vCons (vMkX "BadMove" (gi_x1 "at") 2 (vCons (vVar 1) vNil)) (vCons (vMkX "NoName" (gi_x1 "name") 2 (vCons (vVar 2) vNil)) (vCons (vMkX "NoDeed" (gi_x1 "name") 2 (vCons (vVar 2) vNil)) (vCons (vMkX "BadAnswer" (gi_x1 "name") 2 (vCons (vVar 2) vNil)) (vCons (vMkX0 "Busy") vNil)))))))) (gN 3))
  (vSeq (vAsg (vOp fAdd (vVar 3) (vLst (vCons (vMkX "BadKind" (gi_x1 "at") 2 (vCons (vVar 1) vNil)) (vCons (vMkX "NoCase" (gi_x1 "case") 2 (vCons (vTup (vCons (vVar 2) (vCons (vTup vNil) (vCons (vC .non) vNil)))) vNil)) (vCons (vMkX "NoEnd" (gi_x1 "end") 2 (vCons (vVar 2) vNil)) (vCons (vMkX "TooLong" (gi_x1 "number") 2 (vCons (vVar 1) vNil)) vNil)))))) (gN 3))
  (vSeq (vAsg (vOp fAdd (vVar 3) (vLst (vCons (vMkX "BadChange" (gi_x1 "at") 2 (vCons (vVar 1) vNil)) (vCons (vMkX "NotByValues" (gi_x1 "at") 2 (vCons (vVar 1) vNil)) (vCons (vMkX "Recursive" (gi_x1 "name") 2 (vCons (vVar 2) vNil)) vNil))))) (gN 3))
  (vSeq (vFor (vRng1 (vCons (vC (.int 19)) vNil)) (gN 4) (vSeq (vAsg (vFn m_l_kinds 1 [] (vCons (vOp fIx (vVar 3) (vVar 4)) vNil)) (gN 5))
  (vSeq (vIfS (vOrT (vTst (vOp fNe (vCall cSum (vCons (vComp [8] [8] (vIt (vVar 5)) bN vYes (vCall cInt (vCons (vVar 8) vNil))) vNil)) (vC (.int 1)))) (vNotT (vTru (vOp fIx (vVar 5) (vVar 4))))) (vRet (vC (.bl false))) vSkip)
  (vSeq (vIfS (vOrT (vNotT (vTru (vIsX yes_FaultsheardError no_FaultsheardError (vOp fIx (vVar 3) (vVar 4))))) (vNotT (vTru (vIsX yes_ValueError no_ValueError (vOp fIx (vVar 3) (vVar 4)))))) (vRet (vC (.bl false))) vSkip)
  (vIfS (vTru (vIsX yes_Failure no_Failure (vOp fIx (vVar 3) (vVar 4)))) (vRet (vC (.bl false))) vSkip)))))
  (vSeq (vIfS (vTst (vOp fNe (vCall cSum (vCons (vComp [8] [8] (vIt (vFn m_l_kinds 1 [] (vCons (vMkX "Failure" gi_Failure 2 (vCons (vCMeth "Fault" m_Fault_happening 3 (vCons (vVar 2) (vCons (vVar 1) vNil))) vNil)) vNil))) bN vYes (vCall cInt (vCons (vVar 8) vNil))) vNil)) (vC (.int 0)))) (vRet (vC (.bl false))) vSkip)
  (vSeq (vAsg (vLst (vCons (vFldX ["BadLine", "BadCall", "BadMove", "BadKind", "BadChange", "NotByValues"] "at" (vOp fIx (vVar 3) (vC (.int 1)))) (vCons (vFldX ["BadLine", "BadCall", "BadMove", "BadKind", "BadChange", "NotByValues"] "at" (vOp fIx (vVar 3) (vC (.int 3)))) (vCons (vFldX ["BadLine", "BadCall", "BadMove", "BadKind", "BadChange", "NotByValues"] "at" (vOp fIx (vVar 3) (vC (.int 7)))) (vCons (vFldX ["BadLine", "BadCall", "BadMove", "BadKind", "BadChange", "NotByValues"] "at" (vOp fIx (vVar 3) (vC (.int 12)))) (vCons (vFldX ["TooLong"] "number" (vOp fIx (vVar 3) (vC (.int 15)))) (vCons (vFldX ["BadLine", "BadCall", "BadMove", "BadKind", "BadChange", "NotByValues"] "at" (vOp fIx (vVar 3) (vC (.int 16)))) (vCons (vFldX ["BadLine", "BadCall", "BadMove", "BadKind", "BadChange", "NotByValues"] "at" (vOp fIx (vVar 3) (vC (.int 17)))) vNil)))))))) (gN 6))
  (vSeq (vAsg (vLst (vCons (vFldX ["BadKeep"] "keep" (vOp fIx (vVar 3) (vC (.int 0)))) (vCons (vFldX ["TooMany"] "what" (vOp fIx (vVar 3) (vC (.int 2)))) (vCons (vFldX ["Endless", "NoFunction", "Clash", "NoName", "NoDeed", "BadAnswer", "Recursive"] "name" (vOp fIx (vVar 3) (vC (.int 4)))) (vCons (vFldX ["Endless", "NoFunction", "Clash", "NoName", "NoDeed", "BadAnswer", "Recursive"] "name" (vOp fIx (vVar 3) (vC (.int 5)))) (vCons (vFldX ["Endless", "NoFunction", "Clash", "NoName", "NoDeed", "BadAnswer", "Recursive"] "name" (vOp fIx (vVar 3) (vC (.int 6)))) (vCons (vFldX ["Endless", "NoFunction", "Clash", "NoName", "NoDeed", "BadAnswer", "Recursive"] "name" (vOp fIx (vVar 3) (vC (.int 8)))) (vCons (vFldX ["Endless", "NoFunction", "Clash", "NoName", "NoDeed", "BadAnswer", "Recursive"] "name" (vOp fIx (vVar 3) (vC (.int 9)))) vNil)))))))) (gN 7))
  (vSeq (vAsg (vOp fAdd (vVar 7) (vLst (vCons (vFldX ["Endless", "NoFunction", "Clash", "NoName", "NoDeed", "BadAnswer", "Recursive"] "name" (vOp fIx (vVar 3) (vC (.int 10)))) (vCons (vFldX ["NoEnd"] "end" (vOp fIx (vVar 3) (vC (.int 14)))) (vCons (vFldX ["Endless", "NoFunction", "Clash", "NoName", "NoDeed", "BadAnswer", "Recursive"] "name" (vOp fIx (vVar 3) (vC (.int 18)))) vNil))))) (gN 7))
  (vSeq (vIfS (vNotT (vTru (vFn (m_l_like 4) 2 [] (vCons (vFldX ["NoCase"] "case" (vOp fIx (vVar 3) (vC (.int 13)))) (vCons (vTup (vCons (vVar 2) (vCons (vTup vNil) (vCons (vC .non) vNil)))) vNil))))) (vRet (vC (.bl false))) vSkip)
  (vRet (vAnd (vCall cAll (vCons (vComp [8] [8] (vIt (vVar 6)) bN vYes (vFn (m_l_like 4) 2 [] (vCons (vVar 8) (vCons (vVar 1) vNil)))) vNil)) (vCall cAll (vCons (vComp [8] [8] (vIt (vVar 7)) bN vYes (vFn (m_l_like 4) 2 [] (vCons (vVar 8) (vCons (vVar 2) vNil)))) vNil)))))))))))))))
def m_l_right : FC := runB 9 e_l_right
section
variable {P : Program} {w : World} {K : PySem.W.Frag} {mg : Str → Option Value} {base : Heap} {d : Fd}
theorem ok_l_right (T : Facts K mg d) : OkM P w K mg base 6 (He.ga K "_law_right") d.l_right ["_law_bag_here"] m_l_right := okM (k := 5) (N := n_l_right) (b := e_l_right) T.F_l_right sc_l_right fun cdv A outer s H E hr => by
  have hx := pass_def (P := P) (w := w) (K := K) (mg := mg) (base := base) (N := n_l_right) (qual := "_law_right") (scope := defScope s_l_right) (f := (He.ga K "_law_right")) (cd := cdv) (A := A) (outer := outer) (s := s) (H := H) (E := E)
  exact (mss_cons (ms_asg (mv_tup (ma_cons (mv_fn (ps := ["_law_bag_here", "_law_many"]) (ok_l_draw T) (hr.mono (by decide)) (by rfl) T.a_l_draw.g T.a_l_draw.k T.a_l_draw.b .nil (fun _ _ => .nil) hx (ma_cons (mv_var (pv 0)) (ma_cons (mv_ix (mv_lst (ma_cons mv_int (ma_cons (mv_pow mv_int mv_int) ma_nil))) (mv_fn (ps := ["_law_bag_here", "_law_many"]) (ok_l_draw T) (hr.mono (by decide)) (by rfl) T.a_l_draw.g T.a_l_draw.k T.a_l_draw.b .nil (fun _ _ => .nil) hx (ma_cons (mv_var (pv 0)) (ma_cons mv_int ma_nil)))) ma_nil))) (ma_cons (mv_fn (ps := ["_law_bag_here", "_law_taken"]) (ok_l_name T) (hr.mono (by decide)) (by rfl) T.a_l_name.g T.a_l_name.k T.a_l_name.b .nil (fun _ _ => .nil) hx (ma_cons (mv_var (pv 0)) (ma_cons (mv_lst ma_nil) ma_nil))) ma_nil))) (mg_tup (n := 2) (by rfl) (mgs_cons (mg_name (pg_name (i := 1) sc_l_right.nd rfl (by first | exact Or.inl rfl | exact Or.inr rfl))) (mgs_cons (mg_name (pg_name (i := 2) sc_l_right.nd rfl (by first | exact Or.inl rfl | exact Or.inr rfl))) mgs_nil))))
  (mss_cons (ms_set (i := 3) sc_l_right.nd rfl (by first | exact Or.inl rfl | exact Or.inr rfl) (mv_lst (ma_cons (mv_mkX (ps := ["self", "keep"]) (iv_x1 "BadKeep" "keep") T.xc_BadKeep.T T.xc_BadKeep.iC T.xc_BadKeep.tI (okm_BadKeep_init T) (hr.mono (by decide)) (by rfl) T.g_BadKeep T.b_BadKeep_init hx (ma_cons (mv_var (pv 2)) ma_nil)) (ma_cons (mv_mkX (ps := ["self", "at"]) (iv_x1 "BadLine" "at") T.xc_BadLine.T T.xc_BadLine.iC T.xc_BadLine.tI (okm_BadLine_init T) (hr.mono (by decide)) (by rfl) T.g_BadLine T.b_BadLine_init hx (ma_cons (mv_var (pv 1)) ma_nil)) (ma_cons (mv_mkX (ps := ["self", "what"]) (iv_x1 "TooMany" "what") T.xc_TooMany.T T.xc_TooMany.iC T.xc_TooMany.tI (okm_TooMany_init T) (hr.mono (by decide)) (by rfl) T.g_TooMany T.b_TooMany_init hx (ma_cons (mv_var (pv 2)) ma_nil)) (ma_cons (mv_mkX (ps := ["self", "at"]) (iv_x1 "BadCall" "at") T.xc_BadCall.T T.xc_BadCall.iC T.xc_BadCall.tI (okm_BadCall_init T) (hr.mono (by decide)) (by rfl) T.g_BadCall T.b_BadCall_init hx (ma_cons (mv_var (pv 1)) ma_nil)) (ma_cons (mv_mkX (ps := ["self", "name"]) (iv_x1 "Endless" "name") T.xc_Endless.T T.xc_Endless.iC T.xc_Endless.tI (okm_Endless_init T) (hr.mono (by decide)) (by rfl) T.g_Endless T.b_Endless_init hx (ma_cons (mv_var (pv 2)) ma_nil)) (ma_cons (mv_mkX (ps := ["self", "name"]) (iv_x1 "NoFunction" "name") T.xc_NoFunction.T T.xc_NoFunction.iC T.xc_NoFunction.tI (okm_NoFunction_init T) (hr.mono (by decide)) (by rfl) T.g_NoFunction T.b_NoFunction_init hx (ma_cons (mv_var (pv 2)) ma_nil)) ma_nil))))))))
  (mss_cons (ms_set (i := 3) sc_l_right.nd rfl (by first | exact Or.inl rfl | exact Or.inr rfl) (mv_add (mv_var (pv 3)) (mv_lst (ma_cons (mv_mkX (ps := ["self", "name"]) (iv_x1 "Clash" "name") T.xc_Clash.T T.xc_Clash.iC T.xc_Clash.tI (okm_Clash_init T) (hr.mono (by decide)) (by rfl) T.g_Clash T.b_Clash_init hx (ma_cons (mv_var (pv 2)) ma_nil)) (ma_cons (mv_mkX (ps := ["self", "at"]) (iv_x1 "BadMove" "at") T.xc_BadMove.T T.xc_BadMove.iC T.xc_BadMove.tI (okm_BadMove_init T) (hr.mono (by decide)) (by rfl) T.g_BadMove T.b_BadMove_init hx (ma_cons (mv_var (pv 1)) ma_nil)) (ma_cons (mv_mkX (ps := ["self", "name"]) (iv_x1 "NoName" "name") T.xc_NoName.T T.xc_NoName.iC T.xc_NoName.tI (okm_NoName_init T) (hr.mono (by decide)) (by rfl) T.g_NoName T.b_NoName_init hx (ma_cons (mv_var (pv 2)) ma_nil)) (ma_cons (mv_mkX (ps := ["self", "name"]) (iv_x1 "NoDeed" "name") T.xc_NoDeed.T T.xc_NoDeed.iC T.xc_NoDeed.tI (okm_NoDeed_init T) (hr.mono (by decide)) (by rfl) T.g_NoDeed T.b_NoDeed_init hx (ma_cons (mv_var (pv 2)) ma_nil)) (ma_cons (mv_mkX (ps := ["self", "name"]) (iv_x1 "BadAnswer" "name") T.xc_BadAnswer.T T.xc_BadAnswer.iC T.xc_BadAnswer.tI (okm_BadAnswer_init T) (hr.mono (by decide)) (by rfl) T.g_BadAnswer T.b_BadAnswer_init hx (ma_cons (mv_var (pv 2)) ma_nil)) (ma_cons (mv_mkX0 T.xb_Busy T.g_Busy T.kp_Busy (by rfl)) ma_nil)))))))))
  (mss_cons (ms_set (i := 3) sc_l_right.nd rfl (by first | exact Or.inl rfl | exact Or.inr rfl) (mv_add (mv_var (pv 3)) (mv_lst (ma_cons (mv_mkX (ps := ["self", "at"]) (iv_x1 "BadKind" "at") T.xc_BadKind.T T.xc_BadKind.iC T.xc_BadKind.tI (okm_BadKind_init T) (hr.mono (by decide)) (by rfl) T.g_BadKind T.b_BadKind_init hx (ma_cons (mv_var (pv 1)) ma_nil)) (ma_cons (mv_mkX (ps := ["self", "case"]) (iv_x1 "NoCase" "case") T.xc_NoCase.T T.xc_NoCase.iC T.xc_NoCase.tI (okm_NoCase_init T) (hr.mono (by decide)) (by rfl) T.g_NoCase T.b_NoCase_init hx (ma_cons (mv_tup (ma_cons (mv_var (pv 2)) (ma_cons (mv_tup ma_nil) (ma_cons mv_non ma_nil)))) ma_nil)) (ma_cons (mv_mkX (ps := ["self", "end"]) (iv_x1 "NoEnd" "end") T.xc_NoEnd.T T.xc_NoEnd.iC T.xc_NoEnd.tI (okm_NoEnd_init T) (hr.mono (by decide)) (by rfl) T.g_NoEnd T.b_NoEnd_init hx (ma_cons (mv_var (pv 2)) ma_nil)) (ma_cons (mv_mkX (ps := ["self", "number"]) (iv_x1 "TooLong" "number") T.xc_TooLong.T T.xc_TooLong.iC T.xc_TooLong.tI (okm_TooLong_init T) (hr.mono (by decide)) (by rfl) T.g_TooLong T.b_TooLong_init hx (ma_cons (mv_var (pv 1)) ma_nil)) ma_nil)))))))
  (mss_cons (ms_set (i := 3) sc_l_right.nd rfl (by first | exact Or.inl rfl | exact Or.inr rfl) (mv_add (mv_var (pv 3)) (mv_lst (ma_cons (mv_mkX (ps := ["self", "at"]) (iv_x1 "BadChange" "at") T.xc_BadChange.T T.xc_BadChange.iC T.xc_BadChange.tI (okm_BadChange_init T) (hr.mono (by decide)) (by rfl) T.g_BadChange T.b_BadChange_init hx (ma_cons (mv_var (pv 1)) ma_nil)) (ma_cons (mv_mkX (ps := ["self", "at"]) (iv_x1 "NotByValues" "at") T.xc_NotByValues.T T.xc_NotByValues.iC T.xc_NotByValues.tI (okm_NotByValues_init T) (hr.mono (by decide)) (by rfl) T.g_NotByValues T.b_NotByValues_init hx (ma_cons (mv_var (pv 1)) ma_nil)) (ma_cons (mv_mkX (ps := ["self", "name"]) (iv_x1 "Recursive" "name") T.xc_Recursive.T T.xc_Recursive.iC T.xc_Recursive.tI (okm_Recursive_init T) (hr.mono (by decide)) (by rfl) T.g_Recursive T.b_Recursive_init hx (ma_cons (mv_var (pv 2)) ma_nil)) ma_nil))))))
  (mss_cons (ms_for (L2.passes_of rfl) (by rfl) (mi_range1 (by rfl) T.bi.range (ma_cons mv_int ma_nil)) (mg_name (pg_name (i := 4) sc_l_right.nd rfl (by first | exact Or.inl rfl | exact Or.inr rfl))) (mss_cons (ms_set (i := 5) sc_l_right.nd rfl (by first | exact Or.inl rfl | exact Or.inr rfl) (mv_fn (ps := ["_law_e"]) (ok_l_kinds T) (hr.mono (by decide)) (by rfl) T.a_l_kinds.g T.a_l_kinds.k T.a_l_kinds.b .nil (fun _ _ => .nil) hx (ma_cons (mv_ix (mv_var (pv 3)) (mv_var (pv 4))) ma_nil)))
  (mss_cons (ms_if (MW.mt (mw_or (mt_cmp (op_neM hr.units) sim_ne (mv_callB (cr_sum (by rfl)) sim_sum (by rfl) T.bi.sum Fh.bt_sum (ma_cons (mv_lc (own := [("_law_one_here", 8)]) (G := gName 8) (by rfl) sc_l_right.nd (mi_it (mv_var (pv 5))) (blkOk_by (own := [("_law_one_here", 8)]) (N := n_l_right) (sc := defScope s_l_right) (by decide +kernel)) (tg_name 8) (by decide) (fun _ _ _ _ _ => pg_name (i := 8) sc_l_right.nd rfl (Or.inl rfl)) (fun _ _ _ _ _ => mts_nil) (fun _ _ _ _ _ => (mv_callTy call_int1 sim_int (by rfl) T.bi.int Fh.bt_int (ma_cons (mv_var (pv 8)) ma_nil)))) ma_nil)) mv_int (nomark _)) (mw_or1 (mt_not (mt_truth (mv_ix (mv_var (pv 5)) (mv_var (pv 4)))))))) (mss_one (ms_ret mv_bl)) mss_nil)
  (mss_cons (ms_if (MW.mt (mw_or (mt_not (mt_truth (mv_isX (yes := yes_FaultsheardError) (no := no_FaultsheardError) T.iy_FaultsheardError T.in_FaultsheardError (.own (cad K "FaultsheardError")) (pe_glob (v := .ref (cad K "FaultsheardError")) (by rfl) T.g_FaultsheardError rfl) (by rfl) T.bi.isinstance (mv_ix (mv_var (pv 3)) (mv_var (pv 4)))))) (mw_or1 (mt_not (mt_truth (mv_isX (yes := yes_ValueError) (no := no_ValueError) T.iy_ValueError T.in_ValueError (.ty "ValueError") (pe_bltn (v := .ty "ValueError") (by rfl) T.fr_ValueError bt_VE rfl) (by rfl) T.bi.isinstance (mv_ix (mv_var (pv 3)) (mv_var (pv 4))))))))) (mss_one (ms_ret mv_bl)) mss_nil)
  (mss_one (ms_if (mt_truth (mv_isX (yes := yes_Failure) (no := no_Failure) T.iy_Failure T.in_Failure (.own (cad K "Failure")) (pe_glob (v := .ref (cad K "Failure")) (by rfl) T.g_Failure rfl) (by rfl) T.bi.isinstance (mv_ix (mv_var (pv 3)) (mv_var (pv 4))))) (mss_one (ms_ret mv_bl)) mss_nil))))))
  (mss_cons (ms_if (mt_cmp (op_neM hr.units) sim_ne (mv_callB (cr_sum (by rfl)) sim_sum (by rfl) T.bi.sum Fh.bt_sum (ma_cons (mv_lc (own := [("_law_one_here", 8)]) (G := gName 8) (by rfl) sc_l_right.nd (mi_it (mv_fn (ps := ["_law_e"]) (ok_l_kinds T) (hr.mono (by decide)) (by rfl) T.a_l_kinds.g T.a_l_kinds.k T.a_l_kinds.b .nil (fun _ _ => .nil) hx (ma_cons (mv_mkX (ps := ["self", "fault"]) iv_Failure T.xm_Failure.1 T.xm_Failure.2.1 T.xm_Failure.2.2 (ok_Failure_init T) (hr.mono (by decide)) (by rfl) T.g_Failure T.b_Failure_init hx (ma_cons (mv_cmeth (ps := ["cls", "word", "number"]) (by rfl) T.g_Fault T.cr_Fault T.cm_Fault_happening (ok_Fault_happening T) T.b_Fault_happening (hr.mono (by decide)) hx (ma_cons (mv_var (pv 2)) (ma_cons (mv_var (pv 1)) ma_nil))) ma_nil)) ma_nil))) (blkOk_by (own := [("_law_one_here", 8)]) (N := n_l_right) (sc := defScope s_l_right) (by decide +kernel)) (tg_name 8) (by decide) (fun _ _ _ _ _ => pg_name (i := 8) sc_l_right.nd rfl (Or.inl rfl)) (fun _ _ _ _ _ => mts_nil) (fun _ _ _ _ _ => (mv_callTy call_int1 sim_int (by rfl) T.bi.int Fh.bt_int (ma_cons (mv_var (pv 8)) ma_nil)))) ma_nil)) mv_int (nomark _)) (mss_one (ms_ret mv_bl)) mss_nil)
  (mss_cons (ms_set (i := 6) sc_l_right.nd rfl (by first | exact Or.inl rfl | exact Or.inr rfl) (mv_lst (ma_cons (mv_fldX (cs := ["BadLine", "BadCall", "BadMove", "BadKind", "BadChange", "NotByValues"]) (by intro C h; simp only [List.mem_cons, List.not_mem_nil, or_false] at h; rcases h with rfl | rfl | rfl | rfl | rfl | rfl; exact ⟨T.xf_BadLine, T.xc_BadLine.no⟩; exact ⟨T.xf_BadCall, T.xc_BadCall.no⟩; exact ⟨T.xf_BadMove, T.xc_BadMove.no⟩; exact ⟨T.xf_BadKind, T.xc_BadKind.no⟩; exact ⟨T.xf_BadChange, T.xc_BadChange.no⟩; exact ⟨T.xf_NotByValues, T.xc_NotByValues.no⟩) (mv_ix (mv_var (pv 3)) mv_int)) (ma_cons (mv_fldX (cs := ["BadLine", "BadCall", "BadMove", "BadKind", "BadChange", "NotByValues"]) (by intro C h; simp only [List.mem_cons, List.not_mem_nil, or_false] at h; rcases h with rfl | rfl | rfl | rfl | rfl | rfl; exact ⟨T.xf_BadLine, T.xc_BadLine.no⟩; exact ⟨T.xf_BadCall, T.xc_BadCall.no⟩; exact ⟨T.xf_BadMove, T.xc_BadMove.no⟩; exact ⟨T.xf_BadKind, T.xc_BadKind.no⟩; exact ⟨T.xf_BadChange, T.xc_BadChange.no⟩; exact ⟨T.xf_NotByValues, T.xc_NotByValues.no⟩) (mv_ix (mv_var (pv 3)) mv_int)) (ma_cons (mv_fldX (cs := ["BadLine", "BadCall", "BadMove", "BadKind", "BadChange", "NotByValues"]) (by intro C h; simp only [List.mem_cons, List.not_mem_nil, or_false] at h; rcases h with rfl | rfl | rfl | rfl | rfl | rfl; exact ⟨T.xf_BadLine, T.xc_BadLine.no⟩; exact ⟨T.xf_BadCall, T.xc_BadCall.no⟩; exact ⟨T.xf_BadMove, T.xc_BadMove.no⟩; exact ⟨T.xf_BadKind, T.xc_BadKind.no⟩; exact ⟨T.xf_BadChange, T.xc_BadChange.no⟩; exact ⟨T.xf_NotByValues, T.xc_NotByValues.no⟩) (mv_ix (mv_var (pv 3)) mv_int)) (ma_cons (mv_fldX (cs := ["BadLine", "BadCall", "BadMove", "BadKind", "BadChange", "NotByValues"]) (by intro C h; simp only [List.mem_cons, List.not_mem_nil, or_false] at h; rcases h with rfl | rfl | rfl | rfl | rfl | rfl; exact ⟨T.xf_BadLine, T.xc_BadLine.no⟩; exact ⟨T.xf_BadCall, T.xc_BadCall.no⟩; exact ⟨T.xf_BadMove, T.xc_BadMove.no⟩; exact ⟨T.xf_BadKind, T.xc_BadKind.no⟩; exact ⟨T.xf_BadChange, T.xc_BadChange.no⟩; exact ⟨T.xf_NotByValues, T.xc_NotByValues.no⟩) (mv_ix (mv_var (pv 3)) mv_int)) (ma_cons (mv_fldX (cs := ["TooLong"]) (fun C h => by rw [List.mem_singleton.mp h]; exact ⟨T.xf_TooLong, T.xc_TooLong.no⟩) (mv_ix (mv_var (pv 3)) mv_int)) (ma_cons (mv_fldX (cs := ["BadLine", "BadCall", "BadMove", "BadKind", "BadChange", "NotByValues"]) (by intro C h; simp only [List.mem_cons, List.not_mem_nil, or_false] at h; rcases h with rfl | rfl | rfl | rfl | rfl | rfl; exact ⟨T.xf_BadLine, T.xc_BadLine.no⟩; exact ⟨T.xf_BadCall, T.xc_BadCall.no⟩; exact ⟨T.xf_BadMove, T.xc_BadMove.no⟩; exact ⟨T.xf_BadKind, T.xc_BadKind.no⟩; exact ⟨T.xf_BadChange, T.xc_BadChange.no⟩; exact ⟨T.xf_NotByValues, T.xc_NotByValues.no⟩) (mv_ix (mv_var (pv 3)) mv_int)) (ma_cons (mv_fldX (cs := ["BadLine", "BadCall", "BadMove", "BadKind", "BadChange", "NotByValues"]) (by intro C h; simp only [List.mem_cons, List.not_mem_nil, or_false] at h; rcases h with rfl | rfl | rfl | rfl | rfl | rfl; exact ⟨T.xf_BadLine, T.xc_BadLine.no⟩; exact ⟨T.xf_BadCall, T.xc_BadCall.no⟩; exact ⟨T.xf_BadMove, T.xc_BadMove.no⟩; exact ⟨T.xf_BadKind, T.xc_BadKind.no⟩; exact ⟨T.xf_BadChange, T.xc_BadChange.no⟩; exact ⟨T.xf_NotByValues, T.xc_NotByValues.no⟩) (mv_ix (mv_var (pv 3)) mv_int)) ma_nil)))))))))
  (mss_cons (ms_set (i := 7) sc_l_right.nd rfl (by first | exact Or.inl rfl | exact Or.inr rfl) (mv_lst (ma_cons (mv_fldX (cs := ["BadKeep"]) (fun C h => by rw [List.mem_singleton.mp h]; exact ⟨T.xf_BadKeep, T.xc_BadKeep.no⟩) (mv_ix (mv_var (pv 3)) mv_int)) (ma_cons (mv_fldX (cs := ["TooMany"]) (fun C h => by rw [List.mem_singleton.mp h]; exact ⟨T.xf_TooMany, T.xc_TooMany.no⟩) (mv_ix (mv_var (pv 3)) mv_int)) (ma_cons (mv_fldX (cs := ["Endless", "NoFunction", "Clash", "NoName", "NoDeed", "BadAnswer", "Recursive"]) (by intro C h; simp only [List.mem_cons, List.not_mem_nil, or_false] at h; rcases h with rfl | rfl | rfl | rfl | rfl | rfl | rfl; exact ⟨T.xf_Endless, T.xc_Endless.no⟩; exact ⟨T.xf_NoFunction, T.xc_NoFunction.no⟩; exact ⟨T.xf_Clash, T.xc_Clash.no⟩; exact ⟨T.xf_NoName, T.xc_NoName.no⟩; exact ⟨T.xf_NoDeed, T.xc_NoDeed.no⟩; exact ⟨T.xf_BadAnswer, T.xc_BadAnswer.no⟩; exact ⟨T.xf_Recursive, T.xc_Recursive.no⟩) (mv_ix (mv_var (pv 3)) mv_int)) (ma_cons (mv_fldX (cs := ["Endless", "NoFunction", "Clash", "NoName", "NoDeed", "BadAnswer", "Recursive"]) (by intro C h; simp only [List.mem_cons, List.not_mem_nil, or_false] at h; rcases h with rfl | rfl | rfl | rfl | rfl | rfl | rfl; exact ⟨T.xf_Endless, T.xc_Endless.no⟩; exact ⟨T.xf_NoFunction, T.xc_NoFunction.no⟩; exact ⟨T.xf_Clash, T.xc_Clash.no⟩; exact ⟨T.xf_NoName, T.xc_NoName.no⟩; exact ⟨T.xf_NoDeed, T.xc_NoDeed.no⟩; exact ⟨T.xf_BadAnswer, T.xc_BadAnswer.no⟩; exact ⟨T.xf_Recursive, T.xc_Recursive.no⟩) (mv_ix (mv_var (pv 3)) mv_int)) (ma_cons (mv_fldX (cs := ["Endless", "NoFunction", "Clash", "NoName", "NoDeed", "BadAnswer", "Recursive"]) (by intro C h; simp only [List.mem_cons, List.not_mem_nil, or_false] at h; rcases h with rfl | rfl | rfl | rfl | rfl | rfl | rfl; exact ⟨T.xf_Endless, T.xc_Endless.no⟩; exact ⟨T.xf_NoFunction, T.xc_NoFunction.no⟩; exact ⟨T.xf_Clash, T.xc_Clash.no⟩; exact ⟨T.xf_NoName, T.xc_NoName.no⟩; exact ⟨T.xf_NoDeed, T.xc_NoDeed.no⟩; exact ⟨T.xf_BadAnswer, T.xc_BadAnswer.no⟩; exact ⟨T.xf_Recursive, T.xc_Recursive.no⟩) (mv_ix (mv_var (pv 3)) mv_int)) (ma_cons (mv_fldX (cs := ["Endless", "NoFunction", "Clash", "NoName", "NoDeed", "BadAnswer", "Recursive"]) (by intro C h; simp only [List.mem_cons, List.not_mem_nil, or_false] at h; rcases h with rfl | rfl | rfl | rfl | rfl | rfl | rfl; exact ⟨T.xf_Endless, T.xc_Endless.no⟩; exact ⟨T.xf_NoFunction, T.xc_NoFunction.no⟩; exact ⟨T.xf_Clash, T.xc_Clash.no⟩; exact ⟨T.xf_NoName, T.xc_NoName.no⟩; exact ⟨T.xf_NoDeed, T.xc_NoDeed.no⟩; exact ⟨T.xf_BadAnswer, T.xc_BadAnswer.no⟩; exact ⟨T.xf_Recursive, T.xc_Recursive.no⟩) (mv_ix (mv_var (pv 3)) mv_int)) (ma_cons (mv_fldX (cs := ["Endless", "NoFunction", "Clash", "NoName", "NoDeed", "BadAnswer", "Recursive"]) (by intro C h; simp only [List.mem_cons, List.not_mem_nil, or_false] at h; rcases h with rfl | rfl | rfl | rfl | rfl | rfl | rfl; exact ⟨T.xf_Endless, T.xc_Endless.no⟩; exact ⟨T.xf_NoFunction, T.xc_NoFunction.no⟩; exact ⟨T.xf_Clash, T.xc_Clash.no⟩; exact ⟨T.xf_NoName, T.xc_NoName.no⟩; exact ⟨T.xf_NoDeed, T.xc_NoDeed.no⟩; exact ⟨T.xf_BadAnswer, T.xc_BadAnswer.no⟩; exact ⟨T.xf_Recursive, T.xc_Recursive.no⟩) (mv_ix (mv_var (pv 3)) mv_int)) ma_nil)))))))))
  (mss_cons (ms_set (i := 7) sc_l_right.nd rfl (by first | exact Or.inl rfl | exact Or.inr rfl) (mv_add (mv_var (pv 7)) (mv_lst (ma_cons (mv_fldX (cs := ["Endless", "NoFunction", "Clash", "NoName", "NoDeed", "BadAnswer", "Recursive"]) (by intro C h; simp only [List.mem_cons, List.not_mem_nil, or_false] at h; rcases h with rfl | rfl | rfl | rfl | rfl | rfl | rfl; exact ⟨T.xf_Endless, T.xc_Endless.no⟩; exact ⟨T.xf_NoFunction, T.xc_NoFunction.no⟩; exact ⟨T.xf_Clash, T.xc_Clash.no⟩; exact ⟨T.xf_NoName, T.xc_NoName.no⟩; exact ⟨T.xf_NoDeed, T.xc_NoDeed.no⟩; exact ⟨T.xf_BadAnswer, T.xc_BadAnswer.no⟩; exact ⟨T.xf_Recursive, T.xc_Recursive.no⟩) (mv_ix (mv_var (pv 3)) mv_int)) (ma_cons (mv_fldX (cs := ["NoEnd"]) (fun C h => by rw [List.mem_singleton.mp h]; exact ⟨T.xf_NoEnd, T.xc_NoEnd.no⟩) (mv_ix (mv_var (pv 3)) mv_int)) (ma_cons (mv_fldX (cs := ["Endless", "NoFunction", "Clash", "NoName", "NoDeed", "BadAnswer", "Recursive"]) (by intro C h; simp only [List.mem_cons, List.not_mem_nil, or_false] at h; rcases h with rfl | rfl | rfl | rfl | rfl | rfl | rfl; exact ⟨T.xf_Endless, T.xc_Endless.no⟩; exact ⟨T.xf_NoFunction, T.xc_NoFunction.no⟩; exact ⟨T.xf_Clash, T.xc_Clash.no⟩; exact ⟨T.xf_NoName, T.xc_NoName.no⟩; exact ⟨T.xf_NoDeed, T.xc_NoDeed.no⟩; exact ⟨T.xf_BadAnswer, T.xc_BadAnswer.no⟩; exact ⟨T.xf_Recursive, T.xc_Recursive.no⟩) (mv_ix (mv_var (pv 3)) mv_int)) ma_nil))))))
  (mss_cons (ms_if (mt_not (mt_truth (mv_fn (ps := ["_law_actual", "_law_wanted"]) (ok_l_like T 4) (hr.mono (by decide)) (by rfl) T.a_l_like.g T.a_l_like.k T.a_l_like.b .nil (fun _ _ => .nil) hx (ma_cons (mv_fldX (cs := ["NoCase"]) (fun C h => by rw [List.mem_singleton.mp h]; exact ⟨T.xf_NoCase, T.xc_NoCase.no⟩) (mv_ix (mv_var (pv 3)) mv_int)) (ma_cons (mv_tup (ma_cons (mv_var (pv 2)) (ma_cons (mv_tup ma_nil) (ma_cons mv_non ma_nil)))) ma_nil))))) (mss_one (ms_ret mv_bl)) mss_nil)
  (mss_one (ms_ret (mv_and (mv_callB (cr_all (by rfl)) sim_all (by rfl) T.bi.all Fh.bt_all (ma_cons (mv_lc (own := [("_law_one_here", 8)]) (G := gName 8) (by rfl) sc_l_right.nd (mi_it (mv_var (pv 6))) (blkOk_by (own := [("_law_one_here", 8)]) (N := n_l_right) (sc := defScope s_l_right) (by decide +kernel)) (tg_name 8) (by decide) (fun _ _ _ _ _ => pg_name (i := 8) sc_l_right.nd rfl (Or.inl rfl)) (fun _ _ _ _ _ => mts_nil) (fun _ _ _ _ _ => (mv_fn (ps := ["_law_actual", "_law_wanted"]) (ok_l_like T 4) (hr.mono (by decide)) (by rfl) T.a_l_like.g T.a_l_like.k T.a_l_like.b .nil (fun _ _ => .nil) passL (ma_cons (mv_var (pv 8)) (ma_cons (mv_var (pv 1)) ma_nil))))) ma_nil)) (mv_one (mv_callB (cr_all (by rfl)) sim_all (by rfl) T.bi.all Fh.bt_all (ma_cons (mv_lc (own := [("_law_one_here", 8)]) (G := gName 8) (by rfl) sc_l_right.nd (mi_it (mv_var (pv 7))) (blkOk_by (own := [("_law_one_here", 8)]) (N := n_l_right) (sc := defScope s_l_right) (by decide +kernel)) (tg_name 8) (by decide) (fun _ _ _ _ _ => pg_name (i := 8) sc_l_right.nd rfl (Or.inl rfl)) (fun _ _ _ _ _ => mts_nil) (fun _ _ _ _ _ => (mv_fn (ps := ["_law_actual", "_law_wanted"]) (ok_l_like T 4) (hr.mono (by decide)) (by rfl) T.a_l_like.g T.a_l_like.k T.a_l_like.b .nil (fun _ _ => .nil) passL (ma_cons (mv_var (pv 8)) (ma_cons (mv_var (pv 2)) ma_nil))))) ma_nil)))))))))))))))))
end
/-! ### law -/
def e_law : Sv := (vSeq (vFor (vRng1 (vCons (vCall cMax2 (vCons (vC (.int 1)) (vCons (vCall cMin2 (vCons (vC (.int 5)) (vCons (vCall cLen (vCons (vVar 0) vNil)) vNil))) vNil))) vNil)) (gN 1) (vIfS (vNotT (vTru (vFn m_l_right 1 [] (vCons (vFn m_l_bag 2 [] (vCons (vVar 0) (vCons (vVar 1) vNil))) vNil)))) (vRet (vC (.bl false))) vSkip))
  (vRet (vC (.bl true))))
def m_law : FC := runB 2 e_law
section
variable {P : Program} {w : World} {K : PySem.W.Frag} {mg : Str → Option Value} {base : Heap} {d : Fd}
theorem ok_law (T : Facts K mg d) : OkM P w K mg base 7 (He.ga K "law") d.law ["_law_script"] m_law := okM (k := 6) (N := n_law) (b := e_law) T.F_law sc_law fun cdv A outer s H E hr => by
  have hx := pass_def (P := P) (w := w) (K := K) (mg := mg) (base := base) (N := n_law) (qual := "law") (scope := defScope s_law) (f := (He.ga K "law")) (cd := cdv) (A := A) (outer := outer) (s := s) (H := H) (E := E)
  exact (mss_cons (ms_for (L2.passes_of rfl) (by rfl) (mi_range1 (by rfl) T.bi.range (ma_cons (mv_callB (call_max2 (by rfl)) sim_max2 (by rfl) T.bi.max Fh.bt_max (ma_cons mv_int (ma_cons (mv_callB (call_min2 (by rfl)) sim_min2 (by rfl) T.bi.min Fh.bt_min (ma_cons mv_int (ma_cons (mv_callB call_len sim_len (by rfl) T.bi.len Fh.bt_len (ma_cons (mv_var (pv 0)) ma_nil)) ma_nil))) ma_nil))) ma_nil)) (mg_name (pg_name (i := 1) sc_law.nd rfl (by first | exact Or.inl rfl | exact Or.inr rfl))) (mss_one (ms_if (mt_not (mt_truth (mv_fn (ps := ["_law_bag_here"]) (ok_l_right T) (hr.mono (by decide)) (by rfl) T.a_l_right.g T.a_l_right.k T.a_l_right.b .nil (fun _ _ => .nil) hx (ma_cons (mv_fn (ps := ["_law_script", "_law_at"]) (ok_l_bag T) (hr.mono (by decide)) (by rfl) T.a_l_bag.g T.a_l_bag.k T.a_l_bag.b .nil (fun _ _ => .nil) hx (ma_cons (mv_var (pv 0)) (ma_cons (mv_var (pv 1)) ma_nil))) ma_nil)))) (mss_one (ms_ret mv_bl)) mss_nil)))
  (mss_one (ms_ret mv_bl)))
end
end Lw
set_option autoImplicit false
namespace Lw
open PySem PySem.Spec L2 Mi
/-! ### faults as plain data -/
open Fh (FM)
def strsT (l : List Str) : D := .tup (l.map D.str)
def intsT (l : List Int) : D := .tup (l.map D.int)
def hapT (p : Str × Int) : D := .tup [.str p.1, .int p.2]
def rowT (r : List (Str × Int)) : D := .tup (r.map hapT)
def faultD (m : FM) : D := .obj "Fault" ["row", "counts", "layers", "core", "words"] [rowT m.row, intsT m.counts, strsT m.layers, strsT m.core, strsT m.words]
def modelD (m : FM) : D := .tup [rowT m.row, intsT m.counts, strsT m.layers, strsT m.core]
theorem gi_is {r c : D} {ls co : List Str} (h : co.length + ls.length ≤ 3000) : gi_Fault [r, c, strsT ls, strsT co] = some ([("row", r), ("counts", c), ("layers", strsT ls), ("core", strsT co), ("words", strsT (Fh.srt (co ++ ls)))] : List (Str × D)) := by
  have e : dSt (co.map D.str ++ ls.map D.str) = some (co ++ ls) := dSt_append (dSt_str co) (dSt_str ls)
  simp [gi_Fault, strsT, e, h]
theorem r_hap (w : Str) (n : Int) (M : Mem) : m_Fault_happening [.glb "Fault", .str w, .int n] M = some (.ok (faultD (FM.hap w n)) M) := by
  have g := gi_is (r := .tup [.tup [.str w, .int n]]) (c := .tup [.int 1]) (ls := []) (co := [w]) (by simp)
  simp [strsT] at g
  simp [m_Fault_happening, e_Fault_happening, faultD, FM.hap, FM.words, rowT, hapT, intsT, strsT, g, sizeL]
theorem r_inner {m : FM} (h : m.core.length + m.layers.length ≤ 3000) (M : Mem) : m_Fault_inner [faultD m] M = some (.ok (faultD (FM.inner m)) M) := by
  have g0 := gi_is (r := .tup []) (c := .tup []) (ls := []) (co := []) (by simp)
  simp [strsT] at g0
  cases hl : m.layers with
  | nil => simp [m_Fault_inner, e_Fault_inner, faultD, FM.inner, FM.none, FM.words, rowT, intsT, strsT, hl, fl_layers, List.lookup, sizeL, g0]
  | cons x r =>
    rw [hl] at h
    have g := gi_is (r := rowT m.row) (c := intsT m.counts) (ls := r) (co := m.core) (by simp at h; omega)
    simp [strsT] at g
    have hc : cutD (D.str x :: r.map D.str) (some 1) none = r.map D.str := by
      unfold cutD
      simp [HT.sIx, List.take_of_length_le]
    simp [m_Fault_inner, e_Fault_inner, faultD, FM.inner, FM.words, strsT, hl, fl_row, fl_counts, fl_layers, fl_core, List.lookup, sizeL, g, hc]
/-! ### the law's own reckoning -/
end Lw
set_option autoImplicit false
namespace Lw
open PySem PySem.Spec L2 Mi
open Fh (FM)
/-! ### _law_like of a thing and itself -/
theorem k_str (n : Nat) (x : Str) (M : Mem) : m_l_like (n + 1) [.str x, .str x] M = some (.ok (.bl true) M) := by
  simp [m_l_like, e_l_like, PyData.depth, PyData.eqv]
theorem k_int (n : Nat) (x : Int) (M : Mem) : m_l_like (n + 1) [.int x, .int x] M = some (.ok (.bl true) M) := by
  simp [m_l_like, e_l_like, PyData.depth, PyData.eqv]
theorem k_bl (n : Nat) (x : Bool) (M : Mem) : m_l_like (n + 1) [.bl x, .bl x] M = some (.ok (.bl true) M) := by
  simp [m_l_like, e_l_like, PyData.depth, PyData.eqv]
theorem k_non (n : Nat) (M : Mem) : m_l_like (n + 1) [.non, .non] M = some (.ok (.bl true) M) := by
  simp [m_l_like, e_l_like, PyData.depth, PyData.eqv]
theorem k_tup {n : Nat} {xs : List D} {M : Mem} (hl : xs.length ≤ 100000) (h : ∀ d ∈ xs, m_l_like n [d, d] M = some (.ok (.bl true) M)) : m_l_like (n + 1) [.tup xs, .tup xs] M = some (.ok (.bl true) M) := by
  have hc : compL [2] bN vYes (vFn (m_l_like n) 2 [] (vCons (vOp fIx (vVar 0) (vVar 2)) (vCons (vOp fIx (vVar 1) (vVar 2)) vNil))) [some (.tup xs), some (.tup xs), none] (rngD 0 xs.length) [] M = some (.ok (.lst ([] ++ (rngD 0 xs.length).map fun _ => D.bl true)) M) := by
    refine comp_map (fun _ => D.bl true) (fun d hd => ?_) (by rw [len_rng, sizeL]; simp; omega)
    obtain ⟨i, hi, rfl⟩ := mem_rng hd
    refine ⟨[.int (0 + (i : Int))], rfl, rfl, ?_⟩
    have e : atI xs (i : Int) = some xs[i] := atI_of (List.getElem?_eq_getElem hi)
    simp [e, h xs[i] (List.getElem_mem hi)]
  obtain ⟨bs, h1, h2⟩ := dBl_all (ds := (rngD 0 xs.length).map fun _ => D.bl true) (fun d hd => by
    obtain ⟨_, _, e⟩ := List.mem_map.mp hd
    exact e.symm)
  have hb1 : -1000000000 ≤ (xs.length : Int) := by omega
  have hb2 : (xs.length : Int) ≤ 1000000000 := by omega
  rw [List.nil_append] at hc
  simp [m_l_like, e_l_like, hb1, hb2, hc, h1, PyData.depth, PyData.eqv]
  simpa using h2
theorem k_strs {n : Nat} {l : List Str} (hl : l.length ≤ 100000) (M : Mem) : m_l_like (n + 2) [strsT l, strsT l] M = some (.ok (.bl true) M) := k_tup (by simpa using hl) fun d hd => by
  obtain ⟨x, _, rfl⟩ := List.mem_map.mp hd
  exact k_str n x M
theorem k_ints {n : Nat} {l : List Int} (hl : l.length ≤ 100000) (M : Mem) : m_l_like (n + 2) [intsT l, intsT l] M = some (.ok (.bl true) M) := k_tup (by simpa using hl) fun d hd => by
  obtain ⟨x, _, rfl⟩ := List.mem_map.mp hd
  exact k_int n x M
theorem k_row {n : Nat} {l : List (Str × Int)} (hl : l.length ≤ 100000) (M : Mem) : m_l_like (n + 3) [rowT l, rowT l] M = some (.ok (.bl true) M) := k_tup (by simpa using hl) fun d hd => by
  obtain ⟨x, _, rfl⟩ := List.mem_map.mp hd
  refine k_tup (by simp) fun d hd => ?_
  rcases List.mem_cons.mp hd with rfl | hd
  · exact k_str _ _ M
  · rw [List.mem_singleton.mp hd]
    exact k_int _ _ M
theorem k_model {m : FM} (ok : m.Ok) (M : Mem) : m_l_like 4 [modelD m, modelD m] M = some (.ok (.bl true) M) := k_tup (by simp) fun d hd => by
  have h1 := ok.row
  have h2 := ok.counts
  have h3 := ok.layers
  have h4 := ok.core
  simp only [List.mem_cons, List.not_mem_nil, or_false] at hd
  rcases hd with rfl | rfl | rfl | rfl
  · exact k_row (by omega) M
  · exact k_ints (by omega) M
  · exact k_strs (by omega) M
  · exact k_strs (by omega) M
@[simp] theorem dats_hap (r : List (Str × Int)) : dats (r.map hapT) = some (r.map Fh.hapD) := by
  induction r with
  | nil => rfl
  | cons x r ih => simp [ih, hapT, Fh.hapD]
@[simp] theorem dat_model (m : FM) : dat (modelD m) = some m.dat := by
  simp [modelD, rowT, intsT, strsT, FM.dat, Fh.rowD, Fh.intsD, Fh.strsD]
theorem eq_model (m n : FM) (M : Mem) : eqD M (modelD m) (modelD n) = some (decide (m = n)) := by
  have h : datM M (modelD m) = some m.dat := by rw [← dat_model]; rfl
  have h' : datM M (modelD n) = some n.dat := by rw [← dat_model]; rfl
  have hd := m.depth
  have hd2 : min m.dat.depth n.dat.depth ≤ 64 := by omega
  unfold eqD
  rw [h, h']
  simp only [if_pos hd2, FM.eqv]
@[simp high] theorem ins_fault (m : FM) (M : Mem) : insM M (faultD m) = some ((("Fault" : Str), [("row", rowT m.row), ("counts", intsT m.counts), ("layers", .tup (m.layers.map D.str)), ("core", .tup (m.core.map D.str)), ("words", .tup (m.words.map D.str))]) : Str × List (Str × D)) := rfl
@[simp high] theorem ty_fault (m : FM) (M : Mem) : tyD M (faultD m) = some (.c "Fault") := rfl
@[simp high] theorem items_model (m : FM) (M : Mem) : itemsM M (modelD m) = some (false, [rowT m.row, intsT m.counts, .tup (m.layers.map D.str), .tup (m.core.map D.str)]) := rfl
theorem tup4 (m : FM) : D.tup [rowT m.row, intsT m.counts, .tup (m.layers.map D.str), .tup (m.core.map D.str)] = modelD m := rfl
theorem eq_row (r : List (Str × Int)) (M : Mem) : eqD M (rowT r) (.tup []) = some (decide (r = [])) := by
  have q := Fh.eqv_row r []
  have hd := Fh.depth_row r
  have h : datM M (rowT r) = some (Fh.rowD r) := by simp [rowT, Fh.rowD]
  have h' : datM M (.tup []) = some (.tuple []) := by simp
  unfold eqD
  rw [h, h']
  simp only
  rw [if_pos (by omega)]
  exact congrArg some q

end Lw
set_option autoImplicit false
namespace Lw
open PySem PySem.Spec L2 Mi
open Fh (FM)
/-! ### _law_is -/
end Lw
set_option autoImplicit false
namespace Lw
open PySem PySem.Spec L2 Mi
open Fh (FM)
/-! ### draws -/
/-- the bag of draws -/
def Bag (M : Mem) (b : Nat) : Prop := ∃ x0 x1 x2 : Int, M[b]? = some (.lst [.int x0, .int x1, .int x2]) ∧ 0 ≤ x0
/-- the bag alone has changed -/
def Bg (b : Nat) (M M' : Mem) : Prop := ∃ c, M' = M.set b c
theorem Bg.trans {b : Nat} {M M1 M2 : Mem} (h : Bg b M M1) (k : Bg b M1 M2) : Bg b M M2 := by
  obtain ⟨c, rfl⟩ := h
  obtain ⟨c', rfl⟩ := k
  exact ⟨c', by rw [List.set_set]⟩
theorem Bg.get {b n : Nat} {M M' : Mem} (h : Bg b M M') (hn : n ≠ b) : M'[n]? = M[n]? := by
  obtain ⟨c, rfl⟩ := h
  rw [List.getElem?_set_ne (Ne.symm hn)]
theorem Bg.len {b : Nat} {M M' : Mem} (h : Bg b M M') : M'.length = M.length := by
  obtain ⟨c, rfl⟩ := h
  simp
theorem bag_lt {M : Mem} {b : Nat} (h : Bag M b) : b < M.length := by
  obtain ⟨_, _, _, h, _⟩ := h
  exact (List.getElem?_eq_some_iff.mp h).1
theorem bag_set {M : Mem} {b : Nat} {x0 x1 x2 : Int} (h : b < M.length) (h0 : 0 ≤ x0) : Bag (M.set b (.lst [.int x0, .int x1, .int x2])) b := ⟨x0, x1, x2, by simp [h], h0⟩
theorem r_draw {M : Mem} {b : Nat} {m : Int} (B : Bag M b) (hm : 0 < m) (hm2 : m.natAbs < 2 ^ 128) : ∃ r M', m_l_draw [.loc b, .int m] M = some (.ok (.int r) M') ∧ 0 ≤ r ∧ r < m ∧ Bag M' b ∧ Bg b M M' := by
  have hb := bag_lt B
  obtain ⟨x0, x1, x2, h, h0⟩ := B
  by_cases hx : 0 < x0
  · refine ⟨x0 % m, M.set b (.lst [.int (x0 / m), .int x1, .int x2]), ?_, Int.emod_nonneg _ (by omega), Int.emod_lt_of_pos _ hm, bag_set hb (Int.ediv_nonneg h0 (by omega)), ⟨_, rfl⟩⟩
    simp [m_l_draw, e_l_draw, h, hx, atI, ixN, hm, hm2]
  · have q0 : ∀ z : Int, 0 ≤ z % 2147483647 ∧ z % 2147483647 < 2147483647 := fun z => ⟨Int.emod_nonneg _ (by decide), Int.emod_lt_of_pos _ (by decide)⟩
    have q1 : ∀ z : Int, -18446744073709551616 < z % 2147483647 := fun z => by have := q0 z; omega
    have q2 : ∀ z : Int, z % 2147483647 < 18446744073709551616 := fun z => by have := q0 z; omega
    have hs : ∀ c, (M.set b c)[b]? = some c := fun c => by simp [hb]
    refine ⟨_, M.set b (.lst [.int x0, .int x1, .int (x2 + 1)]), by simp [m_l_draw, e_l_draw, h, hx, atI, ixN, hm, hm2, hs, q1, q2]; rfl, Int.emod_nonneg _ (by omega), Int.emod_lt_of_pos _ hm, bag_set hb h0, ⟨_, rfl⟩⟩
/-! ### the bag -/
theorem bag_new {M : Mem} {x0 x1 : Int} (h : 0 ≤ x0) : Bag (M ++ [.lst [.int x0, .int x1, .int 0]]) M.length := ⟨x0, x1, 0, by simp, h⟩
theorem r_bag (ns : List Int) (n : Nat) (M : Mem) : ∃ M', m_l_bag [.fro (ns.map D.int), .int n] M = some (.ok (.loc M.length) M') ∧ Bag M' M.length ∧ ∃ c, M' = M ++ [c] := by
  by_cases hlt : n < ns.length
  · have e : atI (ns.map D.int) (n : Int) = some (.int ns[n]) := atI_of (by rw [List.getElem?_map, List.getElem?_eq_getElem hlt]; rfl)
    have e2 : (n : Int) < (ns.length : Int) := by omega
    by_cases hs : ns[n] < 0
    · by_cases hg : (1000000000000000000 : Int) ≤ -ns[n]
      · exact ⟨_, by simp [m_l_bag, e_l_bag, e, hlt, hs, hg, sizeL]; exact ⟨rfl, rfl⟩, bag_new (by omega), _, rfl⟩
      · exact ⟨_, by simp [m_l_bag, e_l_bag, e, hlt, hs, hg, sizeL]; exact ⟨rfl, rfl⟩, bag_new (by omega), _, rfl⟩
    · by_cases hg : (1000000000000000000 : Int) ≤ ns[n]
      · exact ⟨_, by simp [m_l_bag, e_l_bag, e, hlt, hs, hg, sizeL]; exact ⟨rfl, rfl⟩, bag_new (by omega), _, rfl⟩
      · exact ⟨_, by simp [m_l_bag, e_l_bag, e, hlt, hs, hg, sizeL]; exact ⟨rfl, rfl⟩, bag_new (by omega), _, rfl⟩
  · exact ⟨_, by simp [m_l_bag, e_l_bag, hlt, sizeL]; exact ⟨rfl, rfl⟩, bag_new (by omega), _, rfl⟩

end Lw
set_option autoImplicit false
namespace Lw
open PySem PySem.Spec L2 Mi
open Fh (FM)
/-! ### names that are drawn -/
open Fh (IsName barredL lettersS sgn freshOf okName)
abbrev tA : Str := "again as def else except fails finally from if in maybe new no none note outside"
abbrev tB : Str := " pass raise repeat return stop try use well yes out"
theorem n_add (M : Mem) : fAdd (.str tA) (.str tB) M = some (.ok (.str (tA ++ tB)) M) := by
  simp only [fAdd]
  rw [if_pos (by decide +kernel)]
theorem n_split (M : Mem) : mSplit (.str (tA ++ tB)) [.str " "] M = some (.ok (.lst (barredL.map D.str)) M) := by
  have e : Txt.split (tA ++ tB) " " = barredL := by decide +kernel
  simp only [mSplit, e]
  rw [if_pos (by decide +kernel)]
theorem n_chars : chars "abcdefghijklmnopqrstuvwxyz" = (TL.tl lettersS).map fun c => D.str (sgn c) := rfl
theorem n_letter {j : Nat} (h : j < 26) (M : Mem) : fIx (.str "abcdefghijklmnopqrstuvwxyz") (.int (j : Int)) M = some (.ok (.str (sgn (97 + j))) M) := by
  have e : atI (Str.cps "abcdefghijklmnopqrstuvwxyz").toList (j : Int) = some (97 + j) := atI_of (by
    have : (Str.cps "abcdefghijklmnopqrstuvwxyz").toList = (List.range 26).map (97 + ·) := Fh.letters_tl
    rw [this, List.getElem?_map, List.getElem?_range h]
    rfl)
  have hl : Str.length "abcdefghijklmnopqrstuvwxyz" ≤ sizeLine := by decide +kernel
  simp only [fIx, if_pos hl, e]
  rfl
theorem strOk_letters {z : Str} (h : ∀ c ∈ TL.tl z, 97 ≤ c ∧ c ≤ 122) : PyData.strOk z = true := strOk_of fun c hc => by
  have := h c hc
  omega
theorem P_list {ys : List D} (h : ∀ y ∈ ys, ∃ c, 97 ≤ c ∧ c ≤ 122 ∧ y = D.str (sgn c)) : ∃ cs : List Nat, ys = (cs.map sgn).map D.str ∧ ∀ c ∈ cs, 97 ≤ c ∧ c ≤ 122 := by
  induction ys with
  | nil => exact ⟨[], rfl, fun c h => by cases h⟩
  | cons y r ih =>
    obtain ⟨cs, h1, h2⟩ := ih fun z hz => h z (List.mem_cons_of_mem _ hz)
    obtain ⟨c, a, b, e⟩ := h y List.mem_cons_self
    refine ⟨c :: cs, by rw [h1, e]; rfl, fun x hx => ?_⟩
    rcases List.mem_cons.mp hx with q | q
    · rw [q]; exact ⟨a, b⟩
    · exact h2 x q
theorem in_strs (z : Str) {d : D} {k : Bool} {l : List Str} {M : Mem} (hd : itemsM M d = some (k, l.map D.str)) : inD M (.str z) d = some (decide (z ∈ l)) := by
  have hdp : PyData.depthAll (l.map PyData.str) = 0 := Fh.depthAll_strs l
  have hany : (l.map PyData.str).any (fun y => PyData.eqv y (.str z)) = decide (z ∈ l) := by
    rw [Bool.eq_iff_iff]
    simp [PyData.eqv]
  unfold inD
  split
  · simp at hd
  · simp only [datM, dat, hd, dats_str, hdp]
    rw [if_pos (by simp), hany]
theorem sum_ones : ∀ cs : List Nat, (cs.map fun _ => 1).sum = cs.length
  | [] => rfl
  | c :: r => by
    have := sum_ones r
    simp [this]
    omega
theorem fAdd_int (i j : Int) (M : Mem) : fAdd (.int i) (.int j) M = some (.ok (.int (i + j)) M) := rfl
theorem fAdd_lst (xs ys : List D) (M : Mem) : fAdd (.lst xs) (.lst ys) M = if xs.length + ys.length ≤ sizeLine then some (.ok (.lst (xs ++ ys)) M) else none := rfl
theorem r_name {M : Mem} {b : Nat} {d : D} {k : Bool} {tk : List Str} (B : Bag M b) (ht : ∀ M', Bg b M M' → itemsM M' d = some (k, tk.map D.str)) (hl : tk.length ≤ 26) : ∃ z M', m_l_name [.loc b, d] M = some (.ok (.str z) M') ∧ IsName z ∧ z ∉ tk ∧ Bag M' b ∧ Bg b M M' := by
  obtain ⟨r, M1, e1, r0, r1, B1, g1⟩ := r_draw B (m := 6) (by decide) (by decide)
  obtain ⟨j, rfl⟩ : ∃ j : Nat, r = (j : Int) := ⟨r.toNat, by omega⟩
  let ρ : Sl := [some (.loc b), some d, some (.str tA), some (.lst (barredL.map D.str)), some (.str "abcdefghijklmnopqrstuvwxyz"), none, none, none, none, none]
  obtain ⟨ys, M2, c1, ⟨B2, g2⟩, hlen, hP⟩ := comp_rel (is := [7]) (bd := bN) (tt := vYes) (te := vOp fIx (vVar 4) (vFn m_l_draw 2 [] (vCons (vVar 0) (vCons (vC (.int 26)) vNil)))) (ρ := ρ)
    (fun M' => Bag M' b ∧ Bg b M M') (fun _ y => ∃ c, 97 ≤ c ∧ c ≤ 122 ∧ y = D.str (sgn c)) (ds := rngD 0 (1 + (j : Int)).toNat) (acc := []) (M := M1) (fun x hx M3 ⟨B3, g3⟩ => by
      obtain ⟨i, hi, rfl⟩ := mem_rng hx
      obtain ⟨q, M4, e4, q0, q1, B4, g4⟩ := r_draw B3 (m := 26) (by decide) (by decide)
      obtain ⟨l, rfl⟩ : ∃ l : Nat, q = (l : Int) := ⟨q.toNat, by omega⟩
      refine ⟨_, _, M4, rfl, rfl, ?_, ⟨97 + l, by omega, by omega, rfl⟩, B4, g3.trans g4⟩
      have := n_letter (j := l) (by omega) M4
      simp [ρ, e4, this, -fIx]) ⟨B1, g1⟩ (by rw [len_rng, sizeL]; simp; omega)
  obtain ⟨cs, rfl, hcs⟩ := P_list fun y hy => let ⟨_, _, h⟩ := hP y hy; h
  rw [List.nil_append] at c1
  have hcl : cs.length = 1 + j := by
    rw [List.length_map, List.length_map, len_rng] at hlen
    omega
  have ez := Fh.join_sgns cs
  generalize hz : Txt.join ("" : Str) (cs.map sgn) = z0 at ez
  have okz : PyData.strOk z0 = true := strOk_letters (by rw [ez]; exact hcs)
  have hlz : z0.length = 1 + j := by rw [← Fh.tl_len, ez, hcl]
  have hsum : ((cs.map sgn).map (·.length)).sum = cs.length := by
    rw [List.map_map]
    have : (fun c => c.length) ∘ sgn = fun _ => 1 := by funext c; rfl
    rw [this]
    exact sum_ones cs
  have hj : mJoin (.str "") [.lst ((cs.map sgn).map D.str)] M2 = some (.ok (.str z0) M2) := by
    have h0 : Str.length "" = 0 := by decide +kernel
    simp only [mJoin, itemsM, dSt_str, hsum, h0, hz, okz, Nat.mul_zero, Nat.add_zero]
    rw [if_pos ⟨by omega, trivial⟩]
  let ρ2 : Sl := [some (.loc b), some d, some (.str tA), some (.lst (barredL.map D.str)), some (.str "abcdefghijklmnopqrstuvwxyz"), some (.str z0), none, none, none, none]
  have hsg : ∀ c, (sgn c).length = 1 := fun c => rfl
  have hq : Str.length "q" = 1 := by decide +kernel
  have hla : ∀ (x y : Str), (x ++ y).length = x.length + y.length := fun x y => by
    show (x.cps ++ y.cps).size = _
    simp [Str.length]
  have c2 : compL [8] bN vYes (vOp fAdd (vVar 5) (vVar 8)) ρ2 (chars "abcdefghijklmnopqrstuvwxyz") [] M2 = some (.ok (.lst (((TL.tl lettersS).map fun c => z0 ++ sgn c).map D.str)) M2) := by
    have := comp_map (is := [8]) (bd := bN) (tt := vYes) (te := vOp fAdd (vVar 5) (vVar 8)) (ρ := ρ2) (M := M2) (fun d => match d with | .str s => .str (z0 ++ s) | d => d) (ds := chars "abcdefghijklmnopqrstuvwxyz") (acc := []) (fun x hx => by
      rw [n_chars] at hx
      obtain ⟨c, _, rfl⟩ := List.mem_map.mp hx
      refine ⟨_, rfl, rfl, ?_⟩
      have : z0.length + (sgn c).length ≤ 16777216 := by rw [hsg]; omega
      simp [ρ2, sizeL, this]) (by rw [n_chars]; decide +kernel)
    rw [this, n_chars]
    simp
  have c3 : compL [8] bN vYes (vOp fAdd (vOp fAdd (vVar 5) (vC (.str "q"))) (vVar 8)) ρ2 (chars "abcdefghijklmnopqrstuvwxyz") [] M2 = some (.ok (.lst (((TL.tl lettersS).map fun c => z0 ++ "q" ++ sgn c).map D.str)) M2) := by
    have := comp_map (is := [8]) (bd := bN) (tt := vYes) (te := vOp fAdd (vOp fAdd (vVar 5) (vC (.str "q"))) (vVar 8)) (ρ := ρ2) (M := M2) (fun d => match d with | .str s => .str (z0 ++ "q" ++ s) | d => d) (ds := chars "abcdefghijklmnopqrstuvwxyz") (acc := []) (fun x hx => by
      rw [n_chars] at hx
      obtain ⟨c, _, rfl⟩ := List.mem_map.mp hx
      refine ⟨_, rfl, rfl, ?_⟩
      have h1 : z0.length + Str.length "q" ≤ 16777216 := by rw [hq]; omega
      have h2 : (z0 ++ "q" : Str).length + (sgn c).length ≤ 16777216 := by rw [hsg, hla, hq]; omega
      simp [ρ2, sizeL, h1, h2]) (by rw [n_chars]; decide +kernel)
    rw [this, n_chars]
    simp
  have hL : ((TL.tl lettersS).map fun c => z0 ++ sgn c).length = 26 := by rw [List.length_map]; decide +kernel
  have hL2 : ((TL.tl lettersS).map fun c => z0 ++ "q" ++ sgn c).length = 26 := by rw [List.length_map]; decide +kernel
  let ρ3 : Sl := [some (.loc b), some d, some (.str tA), some (.lst (barredL.map D.str)), some (.str "abcdefghijklmnopqrstuvwxyz"), some (.str z0), some (.lst ((freshOf z0).map D.str)), none, none, none]
  have hd2 := ht M2 g2
  have c4 : compL [9] bN (vAndT (vTst (vOp fNotIn (vVar 9) (vVar 3))) (vTst (vOp fNotIn (vVar 9) (vVar 1)))) (vVar 9) ρ3 ((freshOf z0).map D.str) [] M2 = some (.ok (.lst (((freshOf z0).filter (okName tk)).map D.str)) M2) := by
    have := comp_filter (is := [9]) (bd := bN) (tt := vAndT (vTst (vOp fNotIn (vVar 9) (vVar 3))) (vTst (vOp fNotIn (vVar 9) (vVar 1)))) (te := vVar 9) (ρ := ρ3) (M := M2) (fun d => match d with | .str s => okName tk s | _ => false) id (ds := (freshOf z0).map D.str) (acc := []) (fun x hx => by
      obtain ⟨z, _, rfl⟩ := List.mem_map.mp hx
      refine ⟨_, rfl, ?_, fun _ => rfl⟩
      have i1 : inD M2 (.str z) (.lst (barredL.map D.str)) = some (decide (z ∈ barredL)) := in_strs z (k := true) rfl
      have i2 := in_strs z hd2
      by_cases h1 : z ∈ barredL
      · simp [ρ3, i1, h1, okName, -inD]
      · simp [ρ3, i1, i2, h1, okName, -inD]) (by rw [List.length_map, Fh.fresh_len, sizeL]; decide)
    rw [this, List.filter_map]
    simp
    rfl
  obtain ⟨z, zs, hzs⟩ : ∃ z zs, (freshOf z0).filter (okName tk) = z :: zs := by
    cases q : (freshOf z0).filter (okName tk) with
    | nil => exact absurd q (Fh.fresh_some z0 tk hl)
    | cons z zs => exact ⟨z, zs, rfl⟩
  have hmem : z ∈ (freshOf z0).filter (okName tk) := by rw [hzs]; exact List.mem_cons_self
  obtain ⟨n1, n2⟩ := Fh.fresh_names (by rw [ez, hcl]; omega) (by rw [ez, hcl]; omega) (by rw [ez]; exact hcs) hmem
  refine ⟨z, M2, ?_, n1, n2, B2, g2⟩
  have hfr : D.str z0 :: (((TL.tl lettersS).map fun c => z0 ++ sgn c).map D.str ++ ((TL.tl lettersS).map fun c => z0 ++ "q" ++ sgn c).map D.str) = (freshOf z0).map D.str := by
    unfold freshOf
    simp
  rw [hzs] at c4
  have hb1 : -1000000000 ≤ 1 + (j : Int) := by omega
  have hb2 : 1 + (j : Int) ≤ 1000000000 := by omega
  simp only [ρ, tA] at c1
  simp only [ρ2, tA] at c2 c3
  simp only [ρ3, tA] at c4
  have n1' := n_add M
  have n2' := n_split M
  simp only [tA, tB] at n1' n2'
  simp only [List.map_cons] at c4
  have hL' : (List.map D.str ((TL.tl lettersS).map fun c => z0 ++ sgn c)).length = 26 := by rw [List.length_map]; exact hL
  have hL2' : (List.map D.str ((TL.tl lettersS).map fun c => z0 ++ "q" ++ sgn c)).length = 26 := by rw [List.length_map]; exact hL2
  simp [m_l_name, e_l_name, n1', n2', e1, hb1, hb2, c1, hj, c2, c3, c4, sizeL, fAdd_int, fAdd_lst, -fAdd, -mSplit, -mJoin, -List.map_map, -List.length_map, hL', hL2', hfr, atI, ixN]

end Lw
set_option autoImplicit false
namespace Lw
open PySem PySem.Spec L2 Mi
open Fh (FM)
/-! ### walking through a body -/
def Ends (v : Sv) (ρ : Sl) (M : Mem) : Prop := ∃ M', v ρ M = some (.rt (.bl true) M')
theorem E_seq {a b : Sv} {ρ ρ1 : Sl} {M M1 : Mem} (h : a ρ M = some (.nx ρ1 M1)) (k : Ends b ρ1 M1) : Ends (vSeq a b) ρ M := by
  obtain ⟨M', e⟩ := k
  exact ⟨M', by simp [h, e]⟩
theorem E_seqP {a b : Sv} {ρ : Sl} {M : Mem} (P : Sl → Mem → Prop) (h : ∃ ρ1 M1, a ρ M = some (.nx ρ1 M1) ∧ P ρ1 M1) (k : ∀ ρ1 M1, P ρ1 M1 → Ends b ρ1 M1) : Ends (vSeq a b) ρ M := by
  obtain ⟨ρ1, M1, h1, h2⟩ := h
  exact E_seq h1 (k ρ1 M1 h2)
theorem forL_inv {g : Gv} {b : Sv} (I : Nat → Sl → Mem → Prop) : ∀ {xs : List D} {k : Nat} {ρ : Sl} {M : Mem}, (∀ i d ρ M, xs[i]? = some d → I (k + i) ρ M → ∃ ρ1 M1 ρ2 M2, g d ρ M = some (.ok ρ1 M1) ∧ b ρ1 M1 = some (.nx ρ2 M2) ∧ I (k + i + 1) ρ2 M2) → I k ρ M →
    ∃ ρ' M', forL g b xs ρ M = some (.nx ρ' M') ∧ I (k + xs.length) ρ' M'
  | [], k, ρ, M, _, h => ⟨ρ, M, rfl, h⟩
  | d :: r, k, ρ, M, step, h => by
    obtain ⟨ρ1, M1, ρ2, M2, h1, h2, h3⟩ := step 0 d ρ M rfl h
    obtain ⟨ρ', M', e, hI⟩ := forL_inv I (xs := r) (k := k + 1) (ρ := ρ2) (M := M2) (fun i d ρ M hd hI => by
      have := step (i + 1) d ρ M (by simpa using hd) (by rw [show k + (i + 1) = k + 1 + i by omega]; exact hI)
      rw [show k + (i + 1) + 1 = k + 1 + i + 1 by omega] at this
      exact this) h3
    refine ⟨ρ', M', ?_, by rw [List.length_cons, show k + (r.length + 1) = k + 1 + r.length by omega]; exact hI⟩
    simp [forL, h1, h2, e]
theorem rng_get {lo : Int} {n i : Nat} {d : D} (h : (rngD lo n)[i]? = some d) : i < n ∧ d = .int (lo + (i : Int)) := by
  have hi : i < n := by
    have := (List.getElem?_eq_some_iff.mp h).1
    simpa using this
  unfold rngD at h
  rw [List.getElem?_map, List.getElem?_range hi] at h
  exact ⟨hi, (Option.some.inj h).symm⟩
theorem bag_app {M G : Mem} {b : Nat} (B : Bag M b) : Bag (M ++ G) b := by
  obtain ⟨x0, x1, x2, h, h0⟩ := B
  exact ⟨x0, x1, x2, by rw [List.getElem?_append_left (List.getElem?_eq_some_iff.mp h).1]; exact h, h0⟩
theorem get_app {M G : Mem} {n : Nat} {c : Cell} (h : M[n]? = some c) : (M ++ G)[n]? = some c := by
  rw [List.getElem?_append_left (List.getElem?_eq_some_iff.mp h).1]; exact h
theorem bag_set_ne {M : Mem} {b n : Nat} {c : Cell} (B : Bag M b) (h : n ≠ b) : Bag (M.set n c) b := by
  obtain ⟨x0, x1, x2, e, h0⟩ := B
  exact ⟨x0, x1, x2, by rw [List.getElem?_set_ne h]; exact e, h0⟩
theorem lt_of_get {M : Mem} {n : Nat} {c : Cell} (h : M[n]? = some c) : n < M.length := (List.getElem?_eq_some_iff.mp h).1
theorem get_set {M : Mem} {n : Nat} {c c' : Cell} (h : M[n]? = some c) : (M.set n c')[n]? = some c' := by
  rw [List.getElem?_set_self (lt_of_get h)]
/-! ### more of faults -/
theorem in_row_str (z : Str) (r : List (Str × Int)) (M : Mem) : inD M (.str z) (rowT r) = some false := by
  have hd := Fh.depthAll_row r
  have hany : (r.map Fh.hapD).any (fun y => PyData.eqv y (.str z)) = false := by
    rw [List.any_eq_false]
    intro x hx
    obtain ⟨p, _, rfl⟩ := List.mem_map.mp hx
    simp [Fh.hapD, PyData.eqv]
  unfold inD
  split
  · rename_i h; simp [rowT] at h
  · simp only [rowT, datM, dat, itemsM, dats_hap]
    rw [if_pos (by omega), hany]
theorem inner_wrap (w : Str) (m : FM) : FM.inner (FM.wrap w m) = m := by
  simp [FM.inner, FM.wrap]

end Lw
set_option autoImplicit false
namespace Lw
open PySem PySem.Spec L2 Mi
open Fh (FM)
/-! ### small things -/
theorem eq_int (i j : Int) (M : Mem) : eqD M (.int i) (.int j) = some (decide (i = j)) := by
  simp [eqD, PyData.eqv, PyData.depth]
  rfl
theorem eq_str (i j : Str) (M : Mem) : eqD M (.str i) (.str j) = some (decide (i = j)) := by
  simp [eqD, PyData.eqv, PyData.depth]
  rfl
theorem Bg.refl {b : Nat} {M : Mem} (h : b < M.length) : Bg b M M := ⟨M[b], by simp⟩
theorem some_map {α β : Type} {f : α → β} {l : List α} {v : β} (h : v ∈ l.map f) : ∃ x, x ∈ l ∧ v = f x := by
  obtain ⟨x, h1, h2⟩ := List.mem_map.mp h
  exact ⟨x, h1, h2.symm⟩
/-! ### runs -/
def Runs (v : Sv) (ρ : Sl) (M : Mem) (P : Fl → Prop) : Prop := ∃ r, v ρ M = some r ∧ P r
/-- goes on, with .. -/
def Nx (P : Sl → Mem → Prop) : Fl → Prop := fun r => ∃ ρ1 M1, r = .nx ρ1 M1 ∧ P ρ1 M1
section
variable {a b : Sv} {ρ ρ1 : Sl} {M M1 : Mem} {P : Fl → Prop} {r : Fl}
theorem Runs.seq (h : Runs a ρ M (Nx fun ρ1 M1 => Runs b ρ1 M1 P)) : Runs (vSeq a b) ρ M P := by
  obtain ⟨r, h1, ρ1, M1, rfl, r2, h2, h3⟩ := h
  exact ⟨r2, by simp [h1, h2], h3⟩
theorem Runs.step (h : a ρ M = some (.nx ρ1 M1)) (k : Runs b ρ1 M1 P) : Runs (vSeq a b) ρ M P := Runs.seq ⟨_, h, ρ1, M1, rfl, k⟩
theorem Runs.last (h : a ρ M = some r) (k : P r) : Runs a ρ M P := ⟨r, h, k⟩
theorem Runs.nx {Q : Sl → Mem → Prop} (h : a ρ M = some (.nx ρ1 M1)) (k : Q ρ1 M1) : Runs a ρ M (Nx Q) := ⟨_, h, ρ1, M1, rfl, k⟩
theorem Runs.mono {P' : Fl → Prop} (h : Runs a ρ M P) (k : ∀ r, P r → P' r) : Runs a ρ M P' := let ⟨r, h1, h2⟩ := h; ⟨r, h1, k r h2⟩
theorem Runs.loopL {g : Gv} {ds : List D} {Q : Sl → Mem → Prop} (I : Nat → Sl → Mem → Prop) (h0 : I 0 ρ M)
    (step : ∀ i d ρ M, ds[i]? = some d → I i ρ M → ∃ ρ1 M1, g d ρ M = some (.ok ρ1 M1) ∧ Runs b ρ1 M1 (Nx (I (i + 1)))) (k : ∀ ρ' M', I ds.length ρ' M' → Q ρ' M') : ∃ ρ' M', forL g b ds ρ M = some (.nx ρ' M') ∧ Q ρ' M' := by
  obtain ⟨ρ', M', e, hI⟩ := forL_inv (g := g) (b := b) I (xs := ds) (k := 0) (ρ := ρ) (M := M) (fun i d ρ M hd hI => by
    rw [Nat.zero_add] at hI
    obtain ⟨ρ1, M1, h1, r, h2, ρ2, M2, rfl, h3⟩ := step i d ρ M hd hI
    exact ⟨ρ1, M1, ρ2, M2, h1, h2, by rw [Nat.zero_add]; exact h3⟩) h0
  exact ⟨ρ', M', e, k _ _ (by rw [Nat.zero_add] at hI; exact hI)⟩
theorem Runs.for_ {vi : EvA} {g : Gv} {ds : List D} {Q : Sl → Mem → Prop} (I : Nat → Sl → Mem → Prop) (hi : vi ρ M = some (.ok ds M1)) (h0 : I 0 ρ M1)
    (step : ∀ i d ρ M, ds[i]? = some d → I i ρ M → ∃ ρ1 M1, g d ρ M = some (.ok ρ1 M1) ∧ Runs b ρ1 M1 (Nx (I (i + 1)))) (k : ∀ ρ' M', I ds.length ρ' M' → Q ρ' M') : Runs (vFor vi g b) ρ M (Nx Q) := by
  obtain ⟨ρ', M', e, hQ⟩ := Runs.loopL I h0 step k
  exact ⟨_, by simp [hi, e], ρ', M', rfl, hQ⟩
/-- for over a list or a tuple that nobody changes -/
theorem Runs.forA {v : Ev} {g : Gv} {ds : List D} {d : D} {Q : Sl → Mem → Prop} (I : Nat → Sl → Mem → Prop) (hi : v ρ M = some (.ok d M1)) (hd : d = .lst ds ∨ d = .tup ds) (h0 : I 0 ρ M1)
    (step : ∀ i d ρ M, ds[i]? = some d → I i ρ M → ∃ ρ1 M1, g d ρ M = some (.ok ρ1 M1) ∧ Runs b ρ1 M1 (Nx (I (i + 1)))) (k : ∀ ρ' M', I ds.length ρ' M' → Q ρ' M') : Runs (vForA v g b) ρ M (Nx Q) := by
  obtain ⟨ρ', M', e, hQ⟩ := Runs.loopL I h0 step k
  rcases hd with rfl | rfl
  · exact ⟨_, by simp [hi, e], ρ', M', rfl, hQ⟩
  · exact ⟨_, by simp [hi, e], ρ', M', rfl, hQ⟩
theorem forC_inv {g : Gv} {n : Nat} {ds : List D} (I : Nat → Sl → Mem → Prop) (hc : ∀ i ρ M, I i ρ M → M[n]? = some (.lst ds))
    (step : ∀ i d ρ M, ds[i]? = some d → I i ρ M → ∃ ρ1 M1, g d ρ M = some (.ok ρ1 M1) ∧ Runs b ρ1 M1 (Nx (I (i + 1)))) : ∀ (m i : Nat) (ρ : Sl) (M : Mem), i + m = ds.length → I i ρ M → ∃ ρ' M', forC g b n m i ρ M = some (.nx ρ' M') ∧ I ds.length ρ' M'
  | 0, i, ρ, M, hi, h => by
    have e := hc i ρ M h
    have hl : ds.length ≤ i := by omega
    refine ⟨ρ, M, by simp [forC, e, hl], ?_⟩
    rw [show ds.length = i by omega]; exact h
  | m + 1, i, ρ, M, hi, h => by
    have e := hc i ρ M h
    have hlt : i < ds.length := by omega
    have hd : ds[i]? = some ds[i] := List.getElem?_eq_getElem hlt
    obtain ⟨ρ1, M1, h1, r, h2, ρ2, M2, rfl, h3⟩ := step i ds[i] ρ M hd h
    obtain ⟨ρ', M', e2, hI⟩ := forC_inv I hc step m (i + 1) ρ2 M2 (by omega) h3
    exact ⟨ρ', M', by simp only [forC, e, hd, h1, bndS_ok, h2, e2], hI⟩
/-- for over a list in a cell that the body leaves as it is -/
theorem Runs.forCell {v : Ev} {g : Gv} {n : Nat} {ds : List D} {Q : Sl → Mem → Prop} (I : Nat → Sl → Mem → Prop) (hi : v ρ M = some (.ok (.loc n) M1)) (hc : ∀ i ρ M, I i ρ M → M[n]? = some (.lst ds)) (h0 : I 0 ρ M1)
    (step : ∀ i d ρ M, ds[i]? = some d → I i ρ M → ∃ ρ1 M1, g d ρ M = some (.ok ρ1 M1) ∧ Runs b ρ1 M1 (Nx (I (i + 1)))) (k : ∀ ρ' M', I ds.length ρ' M' → Q ρ' M') : Runs (vForA v g b) ρ M (Nx Q) := by
  obtain ⟨ρ', M', e, hQ⟩ := forC_inv I hc step ds.length 0 ρ M1 (by omega) h0
  exact ⟨_, by simp [hi, hc 0 ρ M1 h0, e], ρ', M', rfl, k _ _ hQ⟩
theorem fn_of {N : Nat} {ds : List D} {d : D} {M' : Mem} (h : a (ds.map some ++ List.replicate (N - ds.length) none) M = some (.rt d M')) : runB N a ds M = some (.ok d M') := by
  simp [runB, h]
/-- a def's run by the run of its body -/
theorem fn_runs {N : Nat} {ds : List D} {P : D → Mem → Prop} (h : Runs a (ds.map some ++ List.replicate (N - ds.length) none) M (fun r => ∃ d M', r = .rt d M' ∧ P d M')) : ∃ d M', runB N a ds M = some (.ok d M') ∧ P d M' := by
  obtain ⟨r, h1, d, M', rfl, h2⟩ := h
  exact ⟨d, M', fn_of h1, h2⟩
end

end Lw
set_option autoImplicit false
namespace Lw
open PySem PySem.Spec L2 Mi
open Fh (FM)
/-! ### the nineteen -/
def cls19 : List Str := ["BadKeep", "BadLine", "TooMany", "BadCall", "Endless", "NoFunction", "Clash", "BadMove", "NoName", "NoDeed", "BadAnswer", "Busy", "BadKind", "NoCase", "NoEnd", "TooLong", "BadChange", "NotByValues", "Recursive"]
def xs19 (z : Str) (n : Int) : List D := [.xob "BadKeep" ["keep"] [.str z], .xob "BadLine" ["at"] [.int n], .xob "TooMany" ["what"] [.str z], .xob "BadCall" ["at"] [.int n], .xob "Endless" ["name"] [.str z], .xob "NoFunction" ["name"] [.str z], .xob "Clash" ["name"] [.str z], .xob "BadMove" ["at"] [.int n], .xob "NoName" ["name"] [.str z], .xob "NoDeed" ["name"] [.str z], .xob "BadAnswer" ["name"] [.str z], .xob "Busy" [] [], .xob "BadKind" ["at"] [.int n], .xob "NoCase" ["case"] [.tup [.str z, .tup [], .non]], .xob "NoEnd" ["end"] [.str z], .xob "TooLong" ["number"] [.int n], .xob "BadChange" ["at"] [.int n], .xob "NotByValues" ["at"] [.int n], .xob "Recursive" ["name"] [.str z]]
def clsOf : D → Str
  | .xob C _ _ => C
  | _ => ""
theorem xs_cls (z : Str) (n : Int) : (xs19 z n).map clsOf = cls19 := rfl
theorem xs_xob {z : Str} {n : Int} {d : D} (h : d ∈ xs19 z n) : ∃ ks xs, d = .xob (clsOf d) ks xs := by
  simp only [xs19, List.mem_cons, List.not_mem_nil, or_false] at h
  rcases h with rfl | rfl | rfl | rfl | rfl | rfl | rfl | rfl | rfl | rfl | rfl | rfl | rfl | rfl | rfl | rfl | rfl | rfl | rfl <;> exact ⟨_, _, rfl⟩
theorem kits : ∀ C ∈ ("Failure" : Str) :: cls19, kitX yes_BadKeep no_BadKeep (.c C) = some (decide (C = "BadKeep")) ∧ kitX yes_BadLine no_BadLine (.c C) = some (decide (C = "BadLine")) ∧ kitX yes_TooMany no_TooMany (.c C) = some (decide (C = "TooMany")) ∧ kitX yes_BadCall no_BadCall (.c C) = some (decide (C = "BadCall")) ∧ kitX yes_Endless no_Endless (.c C) = some (decide (C = "Endless")) ∧ kitX yes_NoFunction no_NoFunction (.c C) = some (decide (C = "NoFunction")) ∧ kitX yes_Clash no_Clash (.c C) = some (decide (C = "Clash")) ∧ kitX yes_BadMove no_BadMove (.c C) = some (decide (C = "BadMove")) ∧ kitX yes_NoName no_NoName (.c C) = some (decide (C = "NoName")) ∧ kitX yes_NoDeed no_NoDeed (.c C) = some (decide (C = "NoDeed")) ∧ kitX yes_BadAnswer no_BadAnswer (.c C) = some (decide (C = "BadAnswer")) ∧ kitX yes_Busy no_Busy (.c C) = some (decide (C = "Busy")) ∧ kitX yes_BadKind no_BadKind (.c C) = some (decide (C = "BadKind")) ∧ kitX yes_NoCase no_NoCase (.c C) = some (decide (C = "NoCase")) ∧ kitX yes_NoEnd no_NoEnd (.c C) = some (decide (C = "NoEnd")) ∧ kitX yes_TooLong no_TooLong (.c C) = some (decide (C = "TooLong")) ∧ kitX yes_BadChange no_BadChange (.c C) = some (decide (C = "BadChange")) ∧ kitX yes_NotByValues no_NotByValues (.c C) = some (decide (C = "NotByValues")) ∧ kitX yes_Recursive no_Recursive (.c C) = some (decide (C = "Recursive")) := by decide +kernel
theorem kitsA : ∀ C ∈ cls19, kitX yes_FaultsheardError no_FaultsheardError (.c C) = some true ∧ kitX yes_ValueError no_ValueError (.c C) = some true ∧ kitX yes_Failure no_Failure (.c C) = some false := by decide +kernel
def kindsL (C : Str) : List D := cls19.map fun X => .bl (decide (C = X))
theorem r_kinds {C : Str} {ks : List Str} {xs : List D} (h : C ∈ ("Failure" : Str) :: cls19) (M : Mem) : m_l_kinds [.xob C ks xs] M = some (.ok (.lst (kindsL C)) M) := by
  obtain ⟨h0, h1, h2, h3, h4, h5, h6, h7, h8, h9, h10, h11, h12, h13, h14, h15, h16, h17, h18⟩ := kits C h
  simp [m_l_kinds, e_l_kinds, h0, h1, h2, h3, h4, h5, h6, h7, h8, h9, h10, h11, h12, h13, h14, h15, h16, h17, h18, kindsL, cls19, sizeL, -kitX]
def one01 (k : Bool) : Int := if k then 1 else 0
theorem sums : ∀ C ∈ cls19, (cls19.map fun X => one01 (decide (C = X))).sum = 1 := by decide +kernel
theorem sumF : (cls19.map fun X => one01 (decide (("Failure" : Str) = X))).sum = 0 := by decide +kernel
theorem c_kinds (C : Str) (ρ : Sl) (h8 : ρ.length = 9) (M : Mem) : compL [8] bN vYes (vCall cInt (vCons (vVar 8) vNil)) ρ (kindsL C) [] M = some (.ok (.lst ((cls19.map fun X => one01 (decide (C = X))).map D.int)) M) := by
  rw [Mi.comp_map (fun d => match d with | .bl k => .int (one01 k) | d => d) (fun d hd => by
    obtain ⟨X, _, rfl⟩ := List.mem_map.mp hd
    refine ⟨_, rfl, rfl, ?_⟩
    have e0 : (List.set ρ 8 (some (D.bl (decide (C = X)))))[8]? = some (some (.bl (decide (C = X)))) := by
      rw [List.getElem?_set]; simp; omega
    simp [e0, one01]) (by simp [kindsL, cls19, sizeL])]
  simp [kindsL]
theorem s_kinds {C : Str} (M : Mem) (n : Int) (h : (cls19.map fun X => one01 (decide (C = X))).sum = n) : cSum [.lst ((cls19.map fun X => one01 (decide (C = X))).map D.int)] M = some (.ok (.int n) M) := by
  have e := dIn_int (cls19.map fun X => one01 (decide (C = X)))
  obtain ⟨l, hl⟩ : ∃ l, l = cls19.map fun X => one01 (decide (C = X)) := ⟨_, rfl⟩
  rw [← hl] at e h ⊢
  simp [e, h]

theorem fx {cs : List Str} {f C : Str} {xs : List D} {i : Int} {y : D} {ρ : Sl} {M : Mem} (h3 : ρ[3]? = some (some (.lst xs))) (ha : atI xs i = some (.xob C [f] [y])) (hc : C ∈ cs) : vFldX cs f (vOp fIx (vVar 3) (vC (.int i))) ρ M = some (.ok y M) := by
  simp [h3, ha, hc, List.lookup]
theorem t_nums (b : Nat) (z : Str) (n : Int) (x4 x5 : Option D) (M : Mem) : (vAsg (vLst (vCons (vFldX ["BadLine", "BadCall", "BadMove", "BadKind", "BadChange", "NotByValues"] "at" (vOp fIx (vVar 3) (vC (.int 1)))) (vCons (vFldX ["BadLine", "BadCall", "BadMove", "BadKind", "BadChange", "NotByValues"] "at" (vOp fIx (vVar 3) (vC (.int 3)))) (vCons (vFldX ["BadLine", "BadCall", "BadMove", "BadKind", "BadChange", "NotByValues"] "at" (vOp fIx (vVar 3) (vC (.int 7)))) (vCons (vFldX ["BadLine", "BadCall", "BadMove", "BadKind", "BadChange", "NotByValues"] "at" (vOp fIx (vVar 3) (vC (.int 12)))) (vCons (vFldX ["TooLong"] "number" (vOp fIx (vVar 3) (vC (.int 15)))) (vCons (vFldX ["BadLine", "BadCall", "BadMove", "BadKind", "BadChange", "NotByValues"] "at" (vOp fIx (vVar 3) (vC (.int 16)))) (vCons (vFldX ["BadLine", "BadCall", "BadMove", "BadKind", "BadChange", "NotByValues"] "at" (vOp fIx (vVar 3) (vC (.int 17)))) vNil)))))))) (gN 6)) [some (.loc b), some (.int n), some (.str z), some (.lst (xs19 z n)), x4, x5, none, none, none] M = some (.nx [some (.loc b), some (.int n), some (.str z), some (.lst (xs19 z n)), x4, x5, some (.lst (List.replicate 7 (.int n))), none, none] M) := by
  have f1 := fx (cs := ["BadLine", "BadCall", "BadMove", "BadKind", "BadChange", "NotByValues"]) (f := "at") (C := "BadLine") (xs := xs19 z n) (i := 1) (y := .int n) (ρ := [some (.loc b), some (.int n), some (.str z), some (.lst (xs19 z n)), x4, x5, none, none, none]) (M := M) rfl rfl (by decide +kernel)
  have f3 := fx (cs := ["BadLine", "BadCall", "BadMove", "BadKind", "BadChange", "NotByValues"]) (f := "at") (C := "BadCall") (xs := xs19 z n) (i := 3) (y := .int n) (ρ := [some (.loc b), some (.int n), some (.str z), some (.lst (xs19 z n)), x4, x5, none, none, none]) (M := M) rfl rfl (by decide +kernel)
  have f7 := fx (cs := ["BadLine", "BadCall", "BadMove", "BadKind", "BadChange", "NotByValues"]) (f := "at") (C := "BadMove") (xs := xs19 z n) (i := 7) (y := .int n) (ρ := [some (.loc b), some (.int n), some (.str z), some (.lst (xs19 z n)), x4, x5, none, none, none]) (M := M) rfl rfl (by decide +kernel)
  have f12 := fx (cs := ["BadLine", "BadCall", "BadMove", "BadKind", "BadChange", "NotByValues"]) (f := "at") (C := "BadKind") (xs := xs19 z n) (i := 12) (y := .int n) (ρ := [some (.loc b), some (.int n), some (.str z), some (.lst (xs19 z n)), x4, x5, none, none, none]) (M := M) rfl rfl (by decide +kernel)
  have f15 := fx (cs := ["TooLong"]) (f := "number") (C := "TooLong") (xs := xs19 z n) (i := 15) (y := .int n) (ρ := [some (.loc b), some (.int n), some (.str z), some (.lst (xs19 z n)), x4, x5, none, none, none]) (M := M) rfl rfl (by decide +kernel)
  have f16 := fx (cs := ["BadLine", "BadCall", "BadMove", "BadKind", "BadChange", "NotByValues"]) (f := "at") (C := "BadChange") (xs := xs19 z n) (i := 16) (y := .int n) (ρ := [some (.loc b), some (.int n), some (.str z), some (.lst (xs19 z n)), x4, x5, none, none, none]) (M := M) rfl rfl (by decide +kernel)
  have f17 := fx (cs := ["BadLine", "BadCall", "BadMove", "BadKind", "BadChange", "NotByValues"]) (f := "at") (C := "NotByValues") (xs := xs19 z n) (i := 17) (y := .int n) (ρ := [some (.loc b), some (.int n), some (.str z), some (.lst (xs19 z n)), x4, x5, none, none, none]) (M := M) rfl rfl (by decide +kernel)
  generalize vFldX ["BadLine", "BadCall", "BadMove", "BadKind", "BadChange", "NotByValues"] "at" (vOp fIx (vVar 3) (vC (.int 1))) = v1 at f1 ⊢
  generalize vFldX ["BadLine", "BadCall", "BadMove", "BadKind", "BadChange", "NotByValues"] "at" (vOp fIx (vVar 3) (vC (.int 3))) = v3 at f3 ⊢
  generalize vFldX ["BadLine", "BadCall", "BadMove", "BadKind", "BadChange", "NotByValues"] "at" (vOp fIx (vVar 3) (vC (.int 7))) = v7 at f7 ⊢
  generalize vFldX ["BadLine", "BadCall", "BadMove", "BadKind", "BadChange", "NotByValues"] "at" (vOp fIx (vVar 3) (vC (.int 12))) = v12 at f12 ⊢
  generalize vFldX ["TooLong"] "number" (vOp fIx (vVar 3) (vC (.int 15))) = v15 at f15 ⊢
  generalize vFldX ["BadLine", "BadCall", "BadMove", "BadKind", "BadChange", "NotByValues"] "at" (vOp fIx (vVar 3) (vC (.int 16))) = v16 at f16 ⊢
  generalize vFldX ["BadLine", "BadCall", "BadMove", "BadKind", "BadChange", "NotByValues"] "at" (vOp fIx (vVar 3) (vC (.int 17))) = v17 at f17 ⊢
  simp only [vAsg, vLst, vCons, vNil, bnd_ok, vOp, f1, f3, f7, f12, f15, f16, f17]
  simp [sizeL, List.replicate]
theorem t_names (b : Nat) (z : Str) (n : Int) (x4 x5 : Option D) (M : Mem) : (vAsg (vLst (vCons (vFldX ["BadKeep"] "keep" (vOp fIx (vVar 3) (vC (.int 0)))) (vCons (vFldX ["TooMany"] "what" (vOp fIx (vVar 3) (vC (.int 2)))) (vCons (vFldX ["Endless", "NoFunction", "Clash", "NoName", "NoDeed", "BadAnswer", "Recursive"] "name" (vOp fIx (vVar 3) (vC (.int 4)))) (vCons (vFldX ["Endless", "NoFunction", "Clash", "NoName", "NoDeed", "BadAnswer", "Recursive"] "name" (vOp fIx (vVar 3) (vC (.int 5)))) (vCons (vFldX ["Endless", "NoFunction", "Clash", "NoName", "NoDeed", "BadAnswer", "Recursive"] "name" (vOp fIx (vVar 3) (vC (.int 6)))) (vCons (vFldX ["Endless", "NoFunction", "Clash", "NoName", "NoDeed", "BadAnswer", "Recursive"] "name" (vOp fIx (vVar 3) (vC (.int 8)))) (vCons (vFldX ["Endless", "NoFunction", "Clash", "NoName", "NoDeed", "BadAnswer", "Recursive"] "name" (vOp fIx (vVar 3) (vC (.int 9)))) vNil)))))))) (gN 7)) [some (.loc b), some (.int n), some (.str z), some (.lst (xs19 z n)), x4, x5, some (.lst (List.replicate 7 (.int n))), none, none] M = some (.nx [some (.loc b), some (.int n), some (.str z), some (.lst (xs19 z n)), x4, x5, some (.lst (List.replicate 7 (.int n))), some (.lst (List.replicate 7 (.str z))), none] M) := by
  have f0 := fx (cs := ["BadKeep"]) (f := "keep") (C := "BadKeep") (xs := xs19 z n) (i := 0) (y := .str z) (ρ := [some (.loc b), some (.int n), some (.str z), some (.lst (xs19 z n)), x4, x5, some (.lst (List.replicate 7 (.int n))), none, none]) (M := M) rfl rfl (by decide +kernel)
  have f2 := fx (cs := ["TooMany"]) (f := "what") (C := "TooMany") (xs := xs19 z n) (i := 2) (y := .str z) (ρ := [some (.loc b), some (.int n), some (.str z), some (.lst (xs19 z n)), x4, x5, some (.lst (List.replicate 7 (.int n))), none, none]) (M := M) rfl rfl (by decide +kernel)
  have f4 := fx (cs := ["Endless", "NoFunction", "Clash", "NoName", "NoDeed", "BadAnswer", "Recursive"]) (f := "name") (C := "Endless") (xs := xs19 z n) (i := 4) (y := .str z) (ρ := [some (.loc b), some (.int n), some (.str z), some (.lst (xs19 z n)), x4, x5, some (.lst (List.replicate 7 (.int n))), none, none]) (M := M) rfl rfl (by decide +kernel)
  have f5 := fx (cs := ["Endless", "NoFunction", "Clash", "NoName", "NoDeed", "BadAnswer", "Recursive"]) (f := "name") (C := "NoFunction") (xs := xs19 z n) (i := 5) (y := .str z) (ρ := [some (.loc b), some (.int n), some (.str z), some (.lst (xs19 z n)), x4, x5, some (.lst (List.replicate 7 (.int n))), none, none]) (M := M) rfl rfl (by decide +kernel)
  have f6 := fx (cs := ["Endless", "NoFunction", "Clash", "NoName", "NoDeed", "BadAnswer", "Recursive"]) (f := "name") (C := "Clash") (xs := xs19 z n) (i := 6) (y := .str z) (ρ := [some (.loc b), some (.int n), some (.str z), some (.lst (xs19 z n)), x4, x5, some (.lst (List.replicate 7 (.int n))), none, none]) (M := M) rfl rfl (by decide +kernel)
  have f8 := fx (cs := ["Endless", "NoFunction", "Clash", "NoName", "NoDeed", "BadAnswer", "Recursive"]) (f := "name") (C := "NoName") (xs := xs19 z n) (i := 8) (y := .str z) (ρ := [some (.loc b), some (.int n), some (.str z), some (.lst (xs19 z n)), x4, x5, some (.lst (List.replicate 7 (.int n))), none, none]) (M := M) rfl rfl (by decide +kernel)
  have f9 := fx (cs := ["Endless", "NoFunction", "Clash", "NoName", "NoDeed", "BadAnswer", "Recursive"]) (f := "name") (C := "NoDeed") (xs := xs19 z n) (i := 9) (y := .str z) (ρ := [some (.loc b), some (.int n), some (.str z), some (.lst (xs19 z n)), x4, x5, some (.lst (List.replicate 7 (.int n))), none, none]) (M := M) rfl rfl (by decide +kernel)
  generalize vFldX ["BadKeep"] "keep" (vOp fIx (vVar 3) (vC (.int 0))) = v0 at f0 ⊢
  generalize vFldX ["TooMany"] "what" (vOp fIx (vVar 3) (vC (.int 2))) = v2 at f2 ⊢
  generalize vFldX ["Endless", "NoFunction", "Clash", "NoName", "NoDeed", "BadAnswer", "Recursive"] "name" (vOp fIx (vVar 3) (vC (.int 4))) = v4 at f4 ⊢
  generalize vFldX ["Endless", "NoFunction", "Clash", "NoName", "NoDeed", "BadAnswer", "Recursive"] "name" (vOp fIx (vVar 3) (vC (.int 5))) = v5 at f5 ⊢
  generalize vFldX ["Endless", "NoFunction", "Clash", "NoName", "NoDeed", "BadAnswer", "Recursive"] "name" (vOp fIx (vVar 3) (vC (.int 6))) = v6 at f6 ⊢
  generalize vFldX ["Endless", "NoFunction", "Clash", "NoName", "NoDeed", "BadAnswer", "Recursive"] "name" (vOp fIx (vVar 3) (vC (.int 8))) = v8 at f8 ⊢
  generalize vFldX ["Endless", "NoFunction", "Clash", "NoName", "NoDeed", "BadAnswer", "Recursive"] "name" (vOp fIx (vVar 3) (vC (.int 9))) = v9 at f9 ⊢
  simp only [vAsg, vLst, vCons, vNil, bnd_ok, vOp, f0, f2, f4, f5, f6, f8, f9]
  simp [sizeL, List.replicate]
theorem t_names2 (b : Nat) (z : Str) (n : Int) (x4 x5 : Option D) (M : Mem) : (vAsg (vOp fAdd (vVar 7) (vLst (vCons (vFldX ["Endless", "NoFunction", "Clash", "NoName", "NoDeed", "BadAnswer", "Recursive"] "name" (vOp fIx (vVar 3) (vC (.int 10)))) (vCons (vFldX ["NoEnd"] "end" (vOp fIx (vVar 3) (vC (.int 14)))) (vCons (vFldX ["Endless", "NoFunction", "Clash", "NoName", "NoDeed", "BadAnswer", "Recursive"] "name" (vOp fIx (vVar 3) (vC (.int 18)))) vNil))))) (gN 7)) [some (.loc b), some (.int n), some (.str z), some (.lst (xs19 z n)), x4, x5, some (.lst (List.replicate 7 (.int n))), some (.lst (List.replicate 7 (.str z))), none] M = some (.nx [some (.loc b), some (.int n), some (.str z), some (.lst (xs19 z n)), x4, x5, some (.lst (List.replicate 7 (.int n))), some (.lst (List.replicate 10 (.str z))), none] M) := by
  have f10 := fx (cs := ["Endless", "NoFunction", "Clash", "NoName", "NoDeed", "BadAnswer", "Recursive"]) (f := "name") (C := "BadAnswer") (xs := xs19 z n) (i := 10) (y := .str z) (ρ := [some (.loc b), some (.int n), some (.str z), some (.lst (xs19 z n)), x4, x5, some (.lst (List.replicate 7 (.int n))), some (.lst (List.replicate 7 (.str z))), none]) (M := M) rfl rfl (by decide +kernel)
  have f14 := fx (cs := ["NoEnd"]) (f := "end") (C := "NoEnd") (xs := xs19 z n) (i := 14) (y := .str z) (ρ := [some (.loc b), some (.int n), some (.str z), some (.lst (xs19 z n)), x4, x5, some (.lst (List.replicate 7 (.int n))), some (.lst (List.replicate 7 (.str z))), none]) (M := M) rfl rfl (by decide +kernel)
  have f18 := fx (cs := ["Endless", "NoFunction", "Clash", "NoName", "NoDeed", "BadAnswer", "Recursive"]) (f := "name") (C := "Recursive") (xs := xs19 z n) (i := 18) (y := .str z) (ρ := [some (.loc b), some (.int n), some (.str z), some (.lst (xs19 z n)), x4, x5, some (.lst (List.replicate 7 (.int n))), some (.lst (List.replicate 7 (.str z))), none]) (M := M) rfl rfl (by decide +kernel)
  generalize vFldX ["Endless", "NoFunction", "Clash", "NoName", "NoDeed", "BadAnswer", "Recursive"] "name" (vOp fIx (vVar 3) (vC (.int 10))) = v10 at f10 ⊢
  generalize vFldX ["NoEnd"] "end" (vOp fIx (vVar 3) (vC (.int 14))) = v14 at f14 ⊢
  generalize vFldX ["Endless", "NoFunction", "Clash", "NoName", "NoDeed", "BadAnswer", "Recursive"] "name" (vOp fIx (vVar 3) (vC (.int 18))) = v18 at f18 ⊢
  simp only [vAsg, vLst, vCons, vNil, bnd_ok, vOp, f10, f14, f18]
  simp only [fAdd, List.getElem?_cons_succ, List.getElem?_cons_zero, vVar, bnd_ok, f10, f14, f18]
  simp [sizeL, List.replicate]
theorem t_hap (b : Nat) (z : Str) (n : Int) (x4 x5 : Option D) (M' : Mem) : (vIfS (vTst (vOp fNe (vCall cSum (vCons (vComp [8] [8] (vIt (vFn m_l_kinds 1 [] (vCons (vMkX "Failure" gi_Failure 2 (vCons (vCMeth "Fault" m_Fault_happening 3 (vCons (vVar 2) (vCons (vVar 1) vNil))) vNil)) vNil))) bN vYes (vCall cInt (vCons (vVar 8) vNil))) vNil)) (vC (.int 0)))) (vRet (vC (.bl false))) vSkip) [some (.loc b), some (.int n), some (.str z), some (.lst (xs19 z n)), x4, x5, none, none, none] M' = some (.nx [some (.loc b), some (.int n), some (.str z), some (.lst (xs19 z n)), x4, x5, none, none, none] M') := by
  have kf := r_kinds (C := "Failure") (ks := ["cause", "word", "fault"]) (xs := [.non, .str z, faultD (FM.hap z n)]) List.mem_cons_self M'
  have c1 := c_kinds "Failure" [some (.loc b), some (.int n), some (.str z), some (.lst (xs19 z n)), x4, x5, none, none, none] rfl M'
  have s1 := s_kinds M' 0 sumF
  have hg : gi_Failure [faultD (FM.hap z n)] = some ([("cause", .non), ("word", .str z), ("fault", faultD (FM.hap z n))] : List (Str × D)) := by
    simp [gi_Failure, faultD, FM.hap, rowT, hapT, strsT]
  simp [r_hap, hg, kf, c1, s1, eq_int, vComp, wipeD, -cSum, -eqD, -List.map_map]
theorem t_case (b : Nat) (z : Str) (n : Int) (x4 x5 : Option D) (M' : Mem) : (vIfS (vNotT (vTru (vFn (m_l_like 4) 2 [] (vCons (vFldX ["NoCase"] "case" (vOp fIx (vVar 3) (vC (.int 13)))) (vCons (vTup (vCons (vVar 2) (vCons (vTup vNil) (vCons (vC .non) vNil)))) vNil))))) (vRet (vC (.bl false))) vSkip) [some (.loc b), some (.int n), some (.str z), some (.lst (xs19 z n)), x4, x5, some (.lst (List.replicate 7 (.int n))), some (.lst (List.replicate 10 (.str z))), none] M' = some (.nx [some (.loc b), some (.int n), some (.str z), some (.lst (xs19 z n)), x4, x5, some (.lst (List.replicate 7 (.int n))), some (.lst (List.replicate 10 (.str z))), none] M') := by
  have kc : m_l_like 4 [.tup [.str z, .tup [], .non], .tup [.str z, .tup [], .non]] M' = some (.ok (.bl true) M') := k_tup (by simp) fun d hd => by
      simp only [List.mem_cons, List.not_mem_nil, or_false] at hd
      rcases hd with rfl | rfl | rfl
      · exact k_str _ z M'
      · exact k_tup (xs := []) (by simp) fun d hd => (by cases hd)
      · exact k_non _ M'
  have a13 : atI (xs19 z n) 13 = some (.xob "NoCase" ["case"] [.tup [.str z, .tup [], .non]]) := rfl
  simp [a13, List.lookup, sizeL, kc]
theorem all_tru {ds : List D} (M : Mem) (h : ∀ d ∈ ds, d = .bl true) : cAll [.lst ds] M = some (.ok (.bl true) M) := by
  obtain ⟨bs, h1, h2⟩ := dBl_all h
  simp [h1]
  simpa using h2
theorem t_end (b : Nat) (z : Str) (n : Int) (x4 x5 : Option D) (M' : Mem) (LA LB : List D) (hA : ∀ d ∈ LA, d = .int n) (hB : ∀ d ∈ LB, d = .str z) (lA : LA.length ≤ 100) (lB : LB.length ≤ 100) : (vRet (vAnd (vCall cAll (vCons (vComp [8] [8] (vIt (vVar 6)) bN vYes (vFn (m_l_like 4) 2 [] (vCons (vVar 8) (vCons (vVar 1) vNil)))) vNil)) (vCall cAll (vCons (vComp [8] [8] (vIt (vVar 7)) bN vYes (vFn (m_l_like 4) 2 [] (vCons (vVar 8) (vCons (vVar 2) vNil)))) vNil)))) [some (.loc b), some (.int n), some (.str z), some (.lst (xs19 z n)), x4, x5, some (.lst LA), some (.lst LB), none] M' = some (.rt (.bl true) M') := by
  have kn := k_int 3 n M'
  have ks := k_str 3 z M'
  have c1 : compL [8] bN vYes (vFn (m_l_like 4) 2 [] (vCons (vVar 8) (vCons (vVar 1) vNil))) [some (.loc b), some (.int n), some (.str z), some (.lst (xs19 z n)), x4, x5, some (.lst LA), some (.lst LB), none] LA [] M' = some (.ok (.lst ([] ++ LA.map fun _ => .bl true)) M') := Mi.comp_map (fun _ => D.bl true) (fun d hd => by
    obtain rfl := hA d hd
    exact ⟨_, rfl, rfl, by simp [kn, setD]⟩) (by rw [sizeL]; simp; omega)
  have c2 : compL [8] bN vYes (vFn (m_l_like 4) 2 [] (vCons (vVar 8) (vCons (vVar 2) vNil))) [some (.loc b), some (.int n), some (.str z), some (.lst (xs19 z n)), x4, x5, some (.lst LA), some (.lst LB), none] LB [] M' = some (.ok (.lst ([] ++ LB.map fun _ => .bl true)) M') := Mi.comp_map (fun _ => D.bl true) (fun d hd => by
    obtain rfl := hB d hd
    exact ⟨_, rfl, rfl, by simp [ks, setD]⟩) (by rw [sizeL]; simp; omega)
  have a1 := all_tru (ds := [] ++ LA.map fun _ => D.bl true) M' (fun d hd => by
    obtain ⟨_, _, rfl⟩ := List.mem_map.mp hd; rfl)
  have a2 := all_tru (ds := [] ++ LB.map fun _ => D.bl true) M' (fun d hd => by
    obtain ⟨_, _, rfl⟩ := List.mem_map.mp hd; rfl)
  generalize ([] ++ LA.map fun _ => D.bl true) = LA' at c1 a1
  generalize ([] ++ LB.map fun _ => D.bl true) = LB' at c2 a2
  simp [c1, c2, a1, a2, vComp, wipeD, -cAll]
theorem right_ok {M : Mem} {b : Nat} (B : Bag M b) : ∃ M', m_l_right [.loc b] M = some (.ok (.bl true) M') := by
  have lt := bag_lt B
  suffices h : Runs e_l_right [some (.loc b), none, none, none, none, none, none, none, none] M (fun r => ∃ d M', r = .rt d M' ∧ d = .bl true) by
    obtain ⟨d, M', e, rfl⟩ := fn_runs (N := 9) (ds := [.loc b]) h
    exact ⟨M', e⟩
  unfold e_l_right
  obtain ⟨q, M1, e1, q0, q1, B1, g1⟩ := r_draw B (m := 2) (by decide) (by decide)
  obtain ⟨m, hm, hm0, hm1⟩ : ∃ m : Int, atI [D.int 1000, D.int (10 ^ 30)] q = some (.int m) ∧ 0 < m ∧ m.natAbs < 2 ^ 128 := by
    obtain h | h : q = 0 ∨ q = 1 := by omega
    · subst h; exact ⟨1000, rfl, by decide, by decide⟩
    · subst h; exact ⟨10 ^ 30, rfl, by decide, by decide⟩
  obtain ⟨n, M2, e2, n0, n1, B2, g2⟩ := r_draw B1 (m := m) hm0 hm1
  obtain ⟨z, M3, e3, nz, _, B3, g3⟩ := r_name (d := .lst []) (k := true) (tk := []) B2 (fun _ _ => rfl) (by decide)
  refine Runs.step (ρ1 := [some (.loc b), some (.int n), some (.str z), none, none, none, none, none, none]) (M1 := M3) (by
    simp [e1, hm, e2, e3, sizeL, -Int.reducePow]) ?_
  refine Runs.step (ρ1 := [some (.loc b), some (.int n), some (.str z), some (.lst [.xob "BadKeep" ["keep"] [.str z], .xob "BadLine" ["at"] [.int n], .xob "TooMany" ["what"] [.str z], .xob "BadCall" ["at"] [.int n], .xob "Endless" ["name"] [.str z], .xob "NoFunction" ["name"] [.str z]]), none, none, none, none, none]) (M1 := M3) (by simp [gi_x1, sizeL]) ?_
  refine Runs.step (ρ1 := [some (.loc b), some (.int n), some (.str z), some (.lst [.xob "BadKeep" ["keep"] [.str z], .xob "BadLine" ["at"] [.int n], .xob "TooMany" ["what"] [.str z], .xob "BadCall" ["at"] [.int n], .xob "Endless" ["name"] [.str z], .xob "NoFunction" ["name"] [.str z], .xob "Clash" ["name"] [.str z], .xob "BadMove" ["at"] [.int n], .xob "NoName" ["name"] [.str z], .xob "NoDeed" ["name"] [.str z], .xob "BadAnswer" ["name"] [.str z], .xob "Busy" [] []]), none, none, none, none, none]) (M1 := M3) (by simp [gi_x1, sizeL]) ?_
  refine Runs.step (ρ1 := [some (.loc b), some (.int n), some (.str z), some (.lst [.xob "BadKeep" ["keep"] [.str z], .xob "BadLine" ["at"] [.int n], .xob "TooMany" ["what"] [.str z], .xob "BadCall" ["at"] [.int n], .xob "Endless" ["name"] [.str z], .xob "NoFunction" ["name"] [.str z], .xob "Clash" ["name"] [.str z], .xob "BadMove" ["at"] [.int n], .xob "NoName" ["name"] [.str z], .xob "NoDeed" ["name"] [.str z], .xob "BadAnswer" ["name"] [.str z], .xob "Busy" [] [], .xob "BadKind" ["at"] [.int n], .xob "NoCase" ["case"] [.tup [.str z, .tup [], .non]], .xob "NoEnd" ["end"] [.str z], .xob "TooLong" ["number"] [.int n]]), none, none, none, none, none]) (M1 := M3) (by simp [gi_x1, sizeL]) ?_
  refine Runs.step (ρ1 := [some (.loc b), some (.int n), some (.str z), some (.lst (xs19 z n)), none, none, none, none, none]) (M1 := M3) (by simp [gi_x1, sizeL, xs19]) ?_
  have hR : vRng1 (vCons (vC (.int 19)) vNil) [some (.loc b), some (.int n), some (.str z), some (.lst (xs19 z n)), none, none, none, none, none] M3 = some (.ok (rngD 0 19) M3) := by simp
  refine Runs.seq (Runs.for_ (ds := rngD 0 19) (fun i ρ M' => M' = M3 ∧ ∃ x4 x5, ρ = [some (.loc b), some (.int n), some (.str z), some (.lst (xs19 z n)), x4, x5, none, none, none]) (M1 := M3) hR ⟨rfl, _, _, rfl⟩ (fun i d ρ M' hd hI => ?_) (fun ρ' M' hI => ?_))
  · obtain ⟨rfl, x4, x5, rfl⟩ := hI
    have hi : i < 19 := by
      have := (List.getElem?_eq_some_iff.mp hd).1
      simpa using this
    have hde : d = .int (i : Int) := by
      unfold rngD at hd
      rw [List.getElem?_map, List.getElem?_range hi] at hd
      simp at hd
      exact hd.symm
    subst hde
    have hx : i < (xs19 z n).length := hi
    have ha : atI (xs19 z n) (i : Int) = some (xs19 z n)[i] := atI_of (List.getElem?_eq_getElem hx)
    obtain ⟨C, hC⟩ : ∃ C, C = clsOf (xs19 z n)[i] := ⟨_, rfl⟩
    obtain ⟨ks, xs, hk⟩ := xs_xob (List.getElem_mem hx)
    rw [← hC] at hk
    have hcl : cls19[i]? = some C := by
      rw [← xs_cls z n, List.getElem?_map, List.getElem?_eq_getElem hx, hC]; rfl
    have hcm : C ∈ cls19 := List.mem_of_getElem? hcl
    rw [hk] at ha
    have k1 := r_kinds (ks := ks) (xs := xs) (List.mem_cons_of_mem _ hcm) M'
    obtain ⟨k2, k3, k4⟩ := kitsA C hcm
    have hat : atI (kindsL C) (i : Int) = some (.bl true) := atI_of (by
      unfold kindsL
      rw [List.getElem?_map, hcl]; simp)
    refine ⟨[some (.loc b), some (.int n), some (.str z), some (.lst (xs19 z n)), some (.int (i : Int)), x5, none, none, none], M', rfl, ?_⟩
    refine Runs.step (ρ1 := [some (.loc b), some (.int n), some (.str z), some (.lst (xs19 z n)), some (.int (i : Int)), some (.lst (kindsL C)), none, none, none]) (M1 := M') (by simp [ha, k1]) ?_
    have c1 := c_kinds C [some (.loc b), some (.int n), some (.str z), some (.lst (xs19 z n)), some (.int (i : Int)), some (.lst (kindsL C)), none, none, none] rfl M'
    have s1 := s_kinds M' 1 (sums C hcm)
    refine Runs.step (ρ1 := [some (.loc b), some (.int n), some (.str z), some (.lst (xs19 z n)), some (.int (i : Int)), some (.lst (kindsL C)), none, none, none]) (M1 := M') (by simp [hat, c1, s1, eq_int, vComp, wipeD, -cSum, -eqD, -List.map_map]) ?_
    refine Runs.step (ρ1 := [some (.loc b), some (.int n), some (.str z), some (.lst (xs19 z n)), some (.int (i : Int)), some (.lst (kindsL C)), none, none, none]) (M1 := M') (by simp [ha, k2, k3, -kitX]) ?_
    exact Runs.nx (ρ1 := [some (.loc b), some (.int n), some (.str z), some (.lst (xs19 z n)), some (.int (i : Int)), some (.lst (kindsL C)), none, none, none]) (M1 := M') (by simp [ha, k4, -kitX]) ⟨rfl, _, _, rfl⟩
  · obtain ⟨rfl, x4, x5, rfl⟩ := hI
    refine Runs.step (t_hap b z n x4 x5 M') ?_
    refine Runs.step (t_nums b z n x4 x5 M') ?_
    refine Runs.step (t_names b z n x4 x5 M') ?_
    refine Runs.step (t_names2 b z n x4 x5 M') ?_
    refine Runs.step (t_case b z n x4 x5 M') ?_
    exact Runs.last (t_end b z n x4 x5 M' (List.replicate 7 (.int n)) (List.replicate 10 (.str z)) (fun d h => (List.mem_replicate.mp h).2) (fun d h => (List.mem_replicate.mp h).2) (by simp) (by simp)) ⟨_, _, rfl, rfl⟩

end Lw
set_option autoImplicit false
namespace Lw
open PySem PySem.Spec L2 Mi
open Fh (FM)
/-! ### the law -/
theorem law_ok (ns : List Int) (hl : ns.length ≤ 63) (M : Mem) : ∃ M', m_law [.fro (ns.map D.int)] M = some (.ok (.bl true) M') := by
  suffices h : Ends e_law [some (.fro (ns.map D.int)), none] M by
    obtain ⟨M', e⟩ := h
    exact ⟨M', by simp [m_law, e]⟩
  unfold e_law
  refine E_seqP (fun ρ1 M1 => True) ?_ (fun ρ1 M1 _ => ⟨M1, by simp⟩)
  obtain ⟨ρ', M', e, _⟩ := forL_inv (g := gN 1) (b := (vIfS (vNotT (vTru (vFn m_l_right 1 [] (vCons (vFn m_l_bag 2 [] (vCons (vVar 0) (vCons (vVar 1) vNil))) vNil)))) (vRet (vC (.bl false))) vSkip))
    (fun i ρ M => ∃ x, ρ = [some (.fro (ns.map D.int)), x]) (xs := rngD 0 (max 1 (min 5 ns.length))) (k := 0) (ρ := [some (.fro (ns.map D.int)), none]) (M := M) (fun i d ρ M hd hI => by
      obtain ⟨x, rfl⟩ := hI
      obtain ⟨hi, rfl⟩ := rng_get hd
      obtain ⟨M1, e1, B1, _⟩ := r_bag ns i M
      obtain ⟨M2, e2⟩ := right_ok B1
      refine ⟨[some (.fro (ns.map D.int)), some (.int (i : Int))], M, [some (.fro (ns.map D.int)), some (.int (i : Int))], M2, by simp, ?_, _, rfl⟩
      simp [e1, e2]) ⟨none, rfl⟩
  have hn : (if (if (ns.length : Int) < 5 then (ns.length : Int) else 5) > 1 then (if (ns.length : Int) < 5 then (ns.length : Int) else 5) else 1) = ((max 1 (min 5 ns.length) : Nat) : Int) := by
    split <;> split <;> omega
  have hb1 : -1000000000 ≤ ((max 1 (min 5 ns.length) : Nat) : Int) := by omega
  have hb2 : ((max 1 (min 5 ns.length) : Nat) : Int) ≤ 1000000000 := by omega
  refine ⟨ρ', M', ?_, trivial⟩
  generalize max 1 (min 5 ns.length) = k at hn hb1 hb2 e
  simp at hn
  simp [hn, hb1, hb2, e]

end Lw
set_option autoImplicit false
/-! The end: from the mirror of the law to the law. -/
namespace Mi
open PySem PySem.Spec L2
theorem isT_ok {K : PySem.W.Frag} {x : Str} (c : ((He.Fa.cls x).ok K && Fh.tyB K (He.ga K x)) = true) : IsT K (cad K x) := by
  obtain ⟨c1, c4⟩ := He.ba c
  obtain ⟨t1, t⟩ := He.ba c4
  obtain ⟨t2, t⟩ := He.ba t
  obtain ⟨t3, t4⟩ := He.ba t
  exact ⟨He.cls_ok c1, He.eqO_ok t1, He.eqO_ok t2, of_decide_eq_true t3, of_decide_eq_true t4⟩
theorem cx_false {P : Program} {w : World} {outer : List Env} {H : Hp} {s : Shared} {e : Value} {s' : Shared} (h : L2.CX P w outer H s (fun _ _ _ => False) e s') : False := by
  obtain ⟨_, _, _, _, _, _, _, _, _, _, _, _, z⟩ := h
  exact z
theorem OkM.calm {P : Program} {w : World} {K : PySem.W.Frag} {mg : Str → Option Value} {base : Heap} {k : Nat} {f : Addr} {fd : FuncData} {ps : List Str} {g : FC} (F : OkM P w K mg base k f fd ps g) :
    FnOk P w K mg base L2.CX0 k f fd ps (fun vs H Q _ => spM ⟨K, w⟩ ps.length g vs H Q fun _ _ _ => False) :=
  ⟨fun vs H Q E h => h.1, fun A outer s H args us vs Q E hr e0 hb hv h => codeAny_mono (F.run A outer s H args us vs Q (fun _ _ _ => False) hr e0 hb hv h) fun r s' q => by
    cases r with
    | ok fl => cases fl <;> exact q
    | error e => exact cx_false q⟩
theorem law_sp {K : Fw} {g : FC} {H : Hp} {a : Addr} {ns : List Int} (hO : Only H) (hS : SqL K H a (ns.map V.int)) (h : ∃ M', g [.fro (ns.map D.int)] [] = some (.ok (.bl true) M')) : spM K 1 g [.ref a] H (fun v _ => v = .bl true) (fun _ _ _ => False) := by
  obtain ⟨M', e⟩ := h
  have hq : LQ K ⟨[], []⟩ H a (ns.map V.int) := by
    rcases hS with (z | z) | z
    · rcases hO a with y | ⟨o, xs, y⟩
      · rw [z] at y; cases y
      · rw [z] at y; cases y
    · exact .inl ⟨z, by simp, by simp⟩
    · exact .inr z
  have hv : ∀ l : List Int, RVs K ⟨[], []⟩ H (l.map V.int) (l.map D.int) := fun l => by
    induction l with
    | nil => exact .nil
    | cons x r ih => exact .cons (.int x) ih
  refine ⟨rfl, ⟨[], []⟩, [], [.fro (ns.map D.int)], _, .cons (.fro hq (hv ns)) .nil, ⟨rfl, List.nodup_nil, fun a h => (by cases h), fun n a c h => (by simp at h)⟩, e, fun μ' x H' _ _ rx => ?_⟩
  cases rx
  rfl
end Mi
set_option autoImplicit false
namespace Lw
open PySem PySem.Spec L2 Mi
/-! ### the head: facts by names, the run -/
def fns : List He5.DefA := [Fh.defA s_Fault_init "__init__" "Fault.__init__" (fun K => (He.ma K (cad K "Fault") "__init__")), Fh.defA s_Fault_happening "happening" "Fault.happening" (fun K => (Fh.cmA K (cad K "Fault") "happening")), Fh.defA s_Fault_inner "inner" "Fault.inner" (fun K => (He.ma K (cad K "Fault") "inner")), Fh.defA s_word_of "word_of" "word_of" (fun K => (He.ga K "word_of")), Fh.defA s_BadKeep_init "__init__" "BadKeep.__init__" (fun K => (He.ma K (cad K "BadKeep") "__init__")), Fh.defA s_BadLine_init "__init__" "BadLine.__init__" (fun K => (He.ma K (cad K "BadLine") "__init__")), Fh.defA s_TooMany_init "__init__" "TooMany.__init__" (fun K => (He.ma K (cad K "TooMany") "__init__")), Fh.defA s_BadCall_init "__init__" "BadCall.__init__" (fun K => (He.ma K (cad K "BadCall") "__init__")), Fh.defA s_Endless_init "__init__" "Endless.__init__" (fun K => (He.ma K (cad K "Endless") "__init__")), Fh.defA s_NoFunction_init "__init__" "NoFunction.__init__" (fun K => (He.ma K (cad K "NoFunction") "__init__")), Fh.defA s_Clash_init "__init__" "Clash.__init__" (fun K => (He.ma K (cad K "Clash") "__init__")), Fh.defA s_BadMove_init "__init__" "BadMove.__init__" (fun K => (He.ma K (cad K "BadMove") "__init__")), Fh.defA s_NoName_init "__init__" "NoName.__init__" (fun K => (He.ma K (cad K "NoName") "__init__")), Fh.defA s_NoDeed_init "__init__" "NoDeed.__init__" (fun K => (He.ma K (cad K "NoDeed") "__init__")), Fh.defA s_BadAnswer_init "__init__" "BadAnswer.__init__" (fun K => (He.ma K (cad K "BadAnswer") "__init__")), Fh.defA s_BadKind_init "__init__" "BadKind.__init__" (fun K => (He.ma K (cad K "BadKind") "__init__")), Fh.defA s_NoCase_init "__init__" "NoCase.__init__" (fun K => (He.ma K (cad K "NoCase") "__init__")), Fh.defA s_NoEnd_init "__init__" "NoEnd.__init__" (fun K => (He.ma K (cad K "NoEnd") "__init__")), Fh.defA s_TooLong_init "__init__" "TooLong.__init__" (fun K => (He.ma K (cad K "TooLong") "__init__")), Fh.defA s_BadChange_init "__init__" "BadChange.__init__" (fun K => (He.ma K (cad K "BadChange") "__init__")), Fh.defA s_NotByValues_init "__init__" "NotByValues.__init__" (fun K => (He.ma K (cad K "NotByValues") "__init__")), Fh.defA s_Recursive_init "__init__" "Recursive.__init__" (fun K => (He.ma K (cad K "Recursive") "__init__")), Fh.defA s_Failure_init "__init__" "Failure.__init__" (fun K => (He.ma K (cad K "Failure") "__init__")), Fh.defA s_l_bag "_law_bag" "_law_bag" (fun K => (He.ga K "_law_bag")), Fh.defA s_l_draw "_law_draw" "_law_draw" (fun K => (He.ga K "_law_draw")), Fh.defA s_l_name "_law_name" "_law_name" (fun K => (He.ga K "_law_name")), Fh.defA s_l_like "_law_like" "_law_like" (fun K => (He.ga K "_law_like")), Fh.defA s_l_kinds "_law_kinds" "_law_kinds" (fun K => (He.ga K "_law_kinds")), Fh.defA s_l_right "_law_right" "_law_right" (fun K => (He.ga K "_law_right")), Fh.defA s_law "law" "law" (fun K => (He.ga K "law"))]
def exL (K : PySem.W.Frag) : List Bool := [Fh.biB K,
  (He.Fa.glo "Fault").ok K,
  (He.Fa.cls "Fault").ok K,
  (He.Fa.mkr "Fault").ok K,
  Fh.creadB K (He.ga K "Fault"),
  PySem.W.selfFirst K (He.ga K "Fault"),
  (He.Fa.noat "Fault" "__rshift__").ok K,
  He.eqO (PySem.W.findIn K (.ref (He.ga K "Fault")) "__ne__") (some (some (.builtin "object.__ne__"))),
  decide (PySem.W.mroIn K (He.ga K "Fault") (.type "object") = some true),
  (He.Fa.cls "Fault").ok K && Fh.tyB K (He.ga K "Fault"),
  (He.Fa.noat "Fault" "core").ok K,
  (He.Fa.noat "Fault" "counts").ok K,
  (He.Fa.noat "Fault" "layers").ok K,
  (He.Fa.noat "Fault" "row").ok K,
  (He.Fa.noat "Fault" "words").ok K,
  decide (PySem.W.kitOne K (.ref (He.ga K "Fault")) (.type "tuple") = some false),
  decide (PySem.W.kitOne K (.ref (He.ga K "Fault")) (.type "bool") = some false),
  decide (PySem.W.kitOne K (.ref (He.ga K "Fault")) (.type "int") = some false),
  decide (PySem.W.kitOne K (.ref (He.ga K "Fault")) (.type "str") = some false),
  Fh.meB K (He.ga K "Fault") "__init__",
  Fh.cmB K (He.ga K "Fault") "happening",
  Fh.meB K (He.ga K "Fault") "inner",
  (He.Fa.glo "word_of").ok K,
  (He.Fa.glo "_law_bag").ok K,
  (He.Fa.glo "_law_draw").ok K,
  (He.Fa.glo "_law_name").ok K,
  (He.Fa.glo "_law_like").ok K,
  (He.Fa.glo "_law_kinds").ok K,
  (He.Fa.glo "_law_right").ok K,
  (He.Fa.glo "law").ok K,
  (He.Fa.free "ValueError").ok K,
  (He.Fa.glo "BadAnswer").ok K,
  (He.Fa.glo "BadCall").ok K,
  (He.Fa.glo "BadChange").ok K,
  (He.Fa.glo "BadKeep").ok K,
  (He.Fa.glo "BadKind").ok K,
  (He.Fa.glo "BadLine").ok K,
  (He.Fa.glo "BadMove").ok K,
  (He.Fa.glo "Busy").ok K,
  (He.Fa.glo "Clash").ok K,
  (He.Fa.glo "Endless").ok K,
  (He.Fa.glo "Failure").ok K,
  (He.Fa.glo "FaultsheardError").ok K,
  (He.Fa.glo "NoCase").ok K,
  (He.Fa.glo "NoDeed").ok K,
  (He.Fa.glo "NoEnd").ok K,
  (He.Fa.glo "NoFunction").ok K,
  (He.Fa.glo "NoName").ok K,
  (He.Fa.glo "NotByValues").ok K,
  (He.Fa.glo "Recursive").ok K,
  (He.Fa.glo "TooLong").ok K,
  (He.Fa.glo "TooMany").ok K,
  xcB K (He.ga K "BadAnswer") "name" (He.ma K (He.ga K "BadAnswer") "__init__"),
  xcB K (He.ga K "BadCall") "at" (He.ma K (He.ga K "BadCall") "__init__"),
  xcB K (He.ga K "BadChange") "at" (He.ma K (He.ga K "BadChange") "__init__"),
  xcB K (He.ga K "BadKeep") "keep" (He.ma K (He.ga K "BadKeep") "__init__"),
  xcB K (He.ga K "BadKind") "at" (He.ma K (He.ga K "BadKind") "__init__"),
  xcB K (He.ga K "BadLine") "at" (He.ma K (He.ga K "BadLine") "__init__"),
  xcB K (He.ga K "BadMove") "at" (He.ma K (He.ga K "BadMove") "__init__"),
  xcB K (He.ga K "Clash") "name" (He.ma K (He.ga K "Clash") "__init__"),
  xcB K (He.ga K "Endless") "name" (He.ma K (He.ga K "Endless") "__init__"),
  xcB K (He.ga K "NoCase") "case" (He.ma K (He.ga K "NoCase") "__init__"),
  xcB K (He.ga K "NoDeed") "name" (He.ma K (He.ga K "NoDeed") "__init__"),
  xcB K (He.ga K "NoEnd") "end" (He.ma K (He.ga K "NoEnd") "__init__"),
  xcB K (He.ga K "NoFunction") "name" (He.ma K (He.ga K "NoFunction") "__init__"),
  xcB K (He.ga K "NoName") "name" (He.ma K (He.ga K "NoName") "__init__"),
  xcB K (He.ga K "NotByValues") "at" (He.ma K (He.ga K "NotByValues") "__init__"),
  xcB K (He.ga K "Recursive") "name" (He.ma K (He.ga K "Recursive") "__init__"),
  xcB K (He.ga K "TooLong") "number" (He.ma K (He.ga K "TooLong") "__init__"),
  xcB K (He.ga K "TooMany") "what" (He.ma K (He.ga K "TooMany") "__init__"),
  xmB K (He.ga K "Failure"),
  decide (PySem.W.findIn K (.ref (He.ga K "Failure")) "cause" = some none),
  decide (PySem.W.findIn K (.ref (He.ga K "Failure")) "fault" = some none),
  decide (PySem.W.findIn K (.ref (He.ga K "Failure")) "word" = some none),
  PySem.W.excIn K (He.ga K "Busy") [.type "ValueError", .type "Exception", .type "BaseException", .type "object"] "ValueError.__new__",
  PySem.W.keepIn K (.ref (He.ga K "Busy")),
  isB K yes_BadAnswer (.ref (He.ga K "BadAnswer")) true,
  isB K no_BadAnswer (.ref (He.ga K "BadAnswer")) false,
  isB K yes_BadCall (.ref (He.ga K "BadCall")) true,
  isB K no_BadCall (.ref (He.ga K "BadCall")) false,
  isB K yes_BadChange (.ref (He.ga K "BadChange")) true,
  isB K no_BadChange (.ref (He.ga K "BadChange")) false,
  isB K yes_BadKeep (.ref (He.ga K "BadKeep")) true,
  isB K no_BadKeep (.ref (He.ga K "BadKeep")) false,
  isB K yes_BadKind (.ref (He.ga K "BadKind")) true,
  isB K no_BadKind (.ref (He.ga K "BadKind")) false,
  isB K yes_BadLine (.ref (He.ga K "BadLine")) true,
  isB K no_BadLine (.ref (He.ga K "BadLine")) false,
  isB K yes_BadMove (.ref (He.ga K "BadMove")) true,
  isB K no_BadMove (.ref (He.ga K "BadMove")) false,
  isB K yes_Busy (.ref (He.ga K "Busy")) true,
  isB K no_Busy (.ref (He.ga K "Busy")) false,
  isB K yes_Clash (.ref (He.ga K "Clash")) true,
  isB K no_Clash (.ref (He.ga K "Clash")) false,
  isB K yes_Endless (.ref (He.ga K "Endless")) true,
  isB K no_Endless (.ref (He.ga K "Endless")) false,
  isB K yes_Failure (.ref (He.ga K "Failure")) true,
  isB K no_Failure (.ref (He.ga K "Failure")) false,
  isB K yes_FaultsheardError (.ref (He.ga K "FaultsheardError")) true,
  isB K no_FaultsheardError (.ref (He.ga K "FaultsheardError")) false,
  isB K yes_NoCase (.ref (He.ga K "NoCase")) true,
  isB K no_NoCase (.ref (He.ga K "NoCase")) false,
  isB K yes_NoDeed (.ref (He.ga K "NoDeed")) true,
  isB K no_NoDeed (.ref (He.ga K "NoDeed")) false,
  isB K yes_NoEnd (.ref (He.ga K "NoEnd")) true,
  isB K no_NoEnd (.ref (He.ga K "NoEnd")) false,
  isB K yes_NoFunction (.ref (He.ga K "NoFunction")) true,
  isB K no_NoFunction (.ref (He.ga K "NoFunction")) false,
  isB K yes_NoName (.ref (He.ga K "NoName")) true,
  isB K no_NoName (.ref (He.ga K "NoName")) false,
  isB K yes_NotByValues (.ref (He.ga K "NotByValues")) true,
  isB K no_NotByValues (.ref (He.ga K "NotByValues")) false,
  isB K yes_Recursive (.ref (He.ga K "Recursive")) true,
  isB K no_Recursive (.ref (He.ga K "Recursive")) false,
  isB K yes_TooLong (.ref (He.ga K "TooLong")) true,
  isB K no_TooLong (.ref (He.ga K "TooLong")) false,
  isB K yes_TooMany (.ref (He.ga K "TooMany")) true,
  isB K no_TooMany (.ref (He.ga K "TooMany")) false,
  isB K yes_ValueError (.type "ValueError") true,
  isB K no_ValueError (.type "ValueError") false,
  L2.xfB K (He.ga K "BadAnswer"),
  L2.xfB K (He.ga K "BadCall"),
  L2.xfB K (He.ga K "BadChange"),
  L2.xfB K (He.ga K "BadKeep"),
  L2.xfB K (He.ga K "BadKind"),
  L2.xfB K (He.ga K "BadLine"),
  L2.xfB K (He.ga K "BadMove"),
  L2.xfB K (He.ga K "Clash"),
  L2.xfB K (He.ga K "Endless"),
  L2.xfB K (He.ga K "NoCase"),
  L2.xfB K (He.ga K "NoDeed"),
  L2.xfB K (He.ga K "NoEnd"),
  L2.xfB K (He.ga K "NoFunction"),
  L2.xfB K (He.ga K "NoName"),
  L2.xfB K (He.ga K "NotByValues"),
  L2.xfB K (He.ga K "Recursive"),
  L2.xfB K (He.ga K "TooLong"),
  L2.xfB K (He.ga K "TooMany")]
def exB (K : PySem.W.Frag) : Bool := (exL K).all id
abbrev R : PySem.W.OpenRow := PySem.W.OpenLaw.row PySem.Challenge.rw_faultsheard_k14_errors_by_hand
abbrev hk : PySem.W.Hook := Fh.hookX 6 exB fns
def ob (s : PySem.W.SharedT) : Fh.AlX := Fh.obsXG 6 exB fns (HandSHeadRun.getT s)
theorem ob_eq (s : PySem.W.SharedT) : ob s = hk.obs s.abs := Fh.obsXG_eq (HandSHeadRun.getT_eq s)
def loose : List PySem.Str := ["_wall", "FaultsheardError", "BadKeep", "BadLine", "TooMany", "BadCall", "Endless", "NoFunction", "Clash", "BadMove", "NoName", "NoDeed", "BadAnswer", "Busy", "BadKind", "NoCase", "NoEnd", "TooLong", "BadChange", "NotByValues", "Recursive", "Fault", "word_of", "Failure", "_law_bag", "_law_draw", "_law_one", "_law_name", "_law_like", "_law_kinds", "_law_right"]
theorem run (w : World) : HandSHeadRun.RunEq R (PySem.W.view R.prog [34]) hk ob 12000 loose w := by
  intro os
  kernel_rfl
theorem facts {K : PySem.W.Frag} {h : Heap} {mg : Str → Option Value} (X : K.In h) (G : h.Ns mainGlobals mg) (c : Fh.SaysX exB fns K) : ∃ d : Fd, Facts K mg d ∧ ∀ (s : Shared) (v : Value), BindsTo s d.law ⟨[v], []⟩ [("_law_script", v)] := by
  have all : ∀ x ∈ exL K, x = true := fun x hx => List.all_eq_true.mp c.ex_ x hx
  obtain ⟨d0, F0⟩ := c.fnAt 0 (st := s_Fault_init)
  obtain ⟨d1, F1⟩ := c.fnAt 1 (st := s_Fault_happening)
  obtain ⟨d2, F2⟩ := c.fnAt 2 (st := s_Fault_inner)
  obtain ⟨d3, F3⟩ := c.fnAt 3 (st := s_word_of)
  obtain ⟨d4, F4⟩ := c.fnAt 4 (st := s_BadKeep_init)
  obtain ⟨d5, F5⟩ := c.fnAt 5 (st := s_BadLine_init)
  obtain ⟨d6, F6⟩ := c.fnAt 6 (st := s_TooMany_init)
  obtain ⟨d7, F7⟩ := c.fnAt 7 (st := s_BadCall_init)
  obtain ⟨d8, F8⟩ := c.fnAt 8 (st := s_Endless_init)
  obtain ⟨d9, F9⟩ := c.fnAt 9 (st := s_NoFunction_init)
  obtain ⟨d10, F10⟩ := c.fnAt 10 (st := s_Clash_init)
  obtain ⟨d11, F11⟩ := c.fnAt 11 (st := s_BadMove_init)
  obtain ⟨d12, F12⟩ := c.fnAt 12 (st := s_NoName_init)
  obtain ⟨d13, F13⟩ := c.fnAt 13 (st := s_NoDeed_init)
  obtain ⟨d14, F14⟩ := c.fnAt 14 (st := s_BadAnswer_init)
  obtain ⟨d15, F15⟩ := c.fnAt 15 (st := s_BadKind_init)
  obtain ⟨d16, F16⟩ := c.fnAt 16 (st := s_NoCase_init)
  obtain ⟨d17, F17⟩ := c.fnAt 17 (st := s_NoEnd_init)
  obtain ⟨d18, F18⟩ := c.fnAt 18 (st := s_TooLong_init)
  obtain ⟨d19, F19⟩ := c.fnAt 19 (st := s_BadChange_init)
  obtain ⟨d20, F20⟩ := c.fnAt 20 (st := s_NotByValues_init)
  obtain ⟨d21, F21⟩ := c.fnAt 21 (st := s_Recursive_init)
  obtain ⟨d22, F22⟩ := c.fnAt 22 (st := s_Failure_init)
  obtain ⟨d23, F23⟩ := c.fnAt 23 (st := s_l_bag)
  obtain ⟨d24, F24⟩ := c.fnAt 24 (st := s_l_draw)
  obtain ⟨d25, F25⟩ := c.fnAt 25 (st := s_l_name)
  obtain ⟨d26, F26⟩ := c.fnAt 26 (st := s_l_like)
  obtain ⟨d27, F27⟩ := c.fnAt 27 (st := s_l_kinds)
  obtain ⟨d28, F28⟩ := c.fnAt 28 (st := s_l_right)
  obtain ⟨d29, FD⟩ := c.def_ 29 (d := Fh.defA s_law "law" "law" (fun K => (He.ga K "law")))
  have F29 : Fh.Fn K "law" "law" s_law (He.ga K "law") d29 := He5.fun_of FD
  have bl := FunD.bindsA (ps := ["_law_script"]) FD fun _ _ _ _ _ _ us hl => match us, hl with | [_], _ => rfl
  have at_ : ∀ {i : Nat} {b : Bool}, (exL K)[i]? = some b → b = true := fun {i b} e => all b (List.mem_of_getElem? e)
  have T : Facts K mg ⟨d0, d1, d2, d3, d4, d5, d6, d7, d8, d9, d10, d11, d12, d13, d14, d15, d16, d17, d18, d19, d20, d21, d22, d23, d24, d25, d26, d27, d28, d29⟩ :=
    { bi := Fh.biB_ok X G (at_ (i := 0) rfl)
      g_Fault := He.glo_ok X G (at_ (i := 1) rfl)
      cl_Fault := He.cls_ok (at_ (i := 2) rfl)
      mk_Fault := He.mkr_ok (at_ (i := 3) rfl)
      cr_Fault := Fh.creadB_ok (at_ (i := 4) rfl)
      sf_Fault := (at_ (i := 5) rfl)
      na_Fault_rshift := He.noat_ok (at_ (i := 6) rfl)
      ne_Fault := He.eqO_ok (at_ (i := 7) rfl)
      ob_Fault := of_decide_eq_true (at_ (i := 8) rfl)
      it_Fault := isT_ok (at_ (i := 9) rfl)
      nf_Fault_core := He.noat_ok (at_ (i := 10) rfl)
      nf_Fault_counts := He.noat_ok (at_ (i := 11) rfl)
      nf_Fault_layers := He.noat_ok (at_ (i := 12) rfl)
      nf_Fault_row := He.noat_ok (at_ (i := 13) rfl)
      nf_Fault_words := He.noat_ok (at_ (i := 14) rfl)
      kt_tuple_Fault := of_decide_eq_true (at_ (i := 15) rfl)
      kt_bool_Fault := of_decide_eq_true (at_ (i := 16) rfl)
      kt_int_Fault := of_decide_eq_true (at_ (i := 17) rfl)
      kt_str_Fault := of_decide_eq_true (at_ (i := 18) rfl)
      F_Fault_init := F0
      b_Fault_init := (F0.binds (ps := ["self", "row", "counts", "layers", "core"]) fun _ _ _ _ _ _ us hl => match us, hl with | [_, _, _, _, _], _ => rfl)
      me_Fault_init := Fh.meB_ok (at_ (i := 19) rfl)
      F_Fault_happening := F1
      b_Fault_happening := (F1.binds (ps := ["cls", "word", "number"]) fun _ _ _ _ _ _ us hl => match us, hl with | [_, _, _], _ => rfl)
      cm_Fault_happening := Fh.cmB_ok (at_ (i := 20) rfl)
      F_Fault_inner := F2
      b_Fault_inner := (F2.binds (ps := ["self"]) fun _ _ _ _ _ _ us hl => match us, hl with | [_], _ => rfl)
      me_Fault_inner := Fh.meB_ok (at_ (i := 21) rfl)
      F_word_of := F3
      a_word_of := Fh.At.mk' X G (at_ (i := 22) rfl) F3 (F3.binds (ps := ["fault"]) fun _ _ _ _ _ _ us hl => match us, hl with | [_], _ => rfl)
      F_BadKeep_init := F4
      b_BadKeep_init := (F4.binds (ps := ["self", "keep"]) fun _ _ _ _ _ _ us hl => match us, hl with | [_, _], _ => rfl)
      F_BadLine_init := F5
      b_BadLine_init := (F5.binds (ps := ["self", "at"]) fun _ _ _ _ _ _ us hl => match us, hl with | [_, _], _ => rfl)
      F_TooMany_init := F6
      b_TooMany_init := (F6.binds (ps := ["self", "what"]) fun _ _ _ _ _ _ us hl => match us, hl with | [_, _], _ => rfl)
      F_BadCall_init := F7
      b_BadCall_init := (F7.binds (ps := ["self", "at"]) fun _ _ _ _ _ _ us hl => match us, hl with | [_, _], _ => rfl)
      F_Endless_init := F8
      b_Endless_init := (F8.binds (ps := ["self", "name"]) fun _ _ _ _ _ _ us hl => match us, hl with | [_, _], _ => rfl)
      F_NoFunction_init := F9
      b_NoFunction_init := (F9.binds (ps := ["self", "name"]) fun _ _ _ _ _ _ us hl => match us, hl with | [_, _], _ => rfl)
      F_Clash_init := F10
      b_Clash_init := (F10.binds (ps := ["self", "name"]) fun _ _ _ _ _ _ us hl => match us, hl with | [_, _], _ => rfl)
      F_BadMove_init := F11
      b_BadMove_init := (F11.binds (ps := ["self", "at"]) fun _ _ _ _ _ _ us hl => match us, hl with | [_, _], _ => rfl)
      F_NoName_init := F12
      b_NoName_init := (F12.binds (ps := ["self", "name"]) fun _ _ _ _ _ _ us hl => match us, hl with | [_, _], _ => rfl)
      F_NoDeed_init := F13
      b_NoDeed_init := (F13.binds (ps := ["self", "name"]) fun _ _ _ _ _ _ us hl => match us, hl with | [_, _], _ => rfl)
      F_BadAnswer_init := F14
      b_BadAnswer_init := (F14.binds (ps := ["self", "name"]) fun _ _ _ _ _ _ us hl => match us, hl with | [_, _], _ => rfl)
      F_BadKind_init := F15
      b_BadKind_init := (F15.binds (ps := ["self", "at"]) fun _ _ _ _ _ _ us hl => match us, hl with | [_, _], _ => rfl)
      F_NoCase_init := F16
      b_NoCase_init := (F16.binds (ps := ["self", "case"]) fun _ _ _ _ _ _ us hl => match us, hl with | [_, _], _ => rfl)
      F_NoEnd_init := F17
      b_NoEnd_init := (F17.binds (ps := ["self", "end"]) fun _ _ _ _ _ _ us hl => match us, hl with | [_, _], _ => rfl)
      F_TooLong_init := F18
      b_TooLong_init := (F18.binds (ps := ["self", "number"]) fun _ _ _ _ _ _ us hl => match us, hl with | [_, _], _ => rfl)
      F_BadChange_init := F19
      b_BadChange_init := (F19.binds (ps := ["self", "at"]) fun _ _ _ _ _ _ us hl => match us, hl with | [_, _], _ => rfl)
      F_NotByValues_init := F20
      b_NotByValues_init := (F20.binds (ps := ["self", "at"]) fun _ _ _ _ _ _ us hl => match us, hl with | [_, _], _ => rfl)
      F_Recursive_init := F21
      b_Recursive_init := (F21.binds (ps := ["self", "name"]) fun _ _ _ _ _ _ us hl => match us, hl with | [_, _], _ => rfl)
      F_Failure_init := F22
      b_Failure_init := (F22.binds (ps := ["self", "fault"]) fun _ _ _ _ _ _ us hl => match us, hl with | [_, _], _ => rfl)
      F_l_bag := F23
      a_l_bag := Fh.At.mk' X G (at_ (i := 23) rfl) F23 (F23.binds (ps := ["_law_script", "_law_at"]) fun _ _ _ _ _ _ us hl => match us, hl with | [_, _], _ => rfl)
      F_l_draw := F24
      a_l_draw := Fh.At.mk' X G (at_ (i := 24) rfl) F24 (F24.binds (ps := ["_law_bag_here", "_law_many"]) fun _ _ _ _ _ _ us hl => match us, hl with | [_, _], _ => rfl)
      F_l_name := F25
      a_l_name := Fh.At.mk' X G (at_ (i := 25) rfl) F25 (F25.binds (ps := ["_law_bag_here", "_law_taken"]) fun _ _ _ _ _ _ us hl => match us, hl with | [_, _], _ => rfl)
      F_l_like := F26
      a_l_like := Fh.At.mk' X G (at_ (i := 26) rfl) F26 (F26.binds (ps := ["_law_actual", "_law_wanted"]) fun _ _ _ _ _ _ us hl => match us, hl with | [_, _], _ => rfl)
      F_l_kinds := F27
      a_l_kinds := Fh.At.mk' X G (at_ (i := 27) rfl) F27 (F27.binds (ps := ["_law_e"]) fun _ _ _ _ _ _ us hl => match us, hl with | [_], _ => rfl)
      F_l_right := F28
      a_l_right := Fh.At.mk' X G (at_ (i := 28) rfl) F28 (F28.binds (ps := ["_law_bag_here"]) fun _ _ _ _ _ _ us hl => match us, hl with | [_], _ => rfl)
      F_law := F29
      a_law := Fh.At.mk' X G (at_ (i := 29) rfl) F29 (F29.binds (ps := ["_law_script"]) fun _ _ _ _ _ _ us hl => match us, hl with | [_], _ => rfl)
      fr_ValueError := He.free_ok X G (at_ (i := 30) rfl)
      g_BadAnswer := He.glo_ok X G (at_ (i := 31) rfl)
      g_BadCall := He.glo_ok X G (at_ (i := 32) rfl)
      g_BadChange := He.glo_ok X G (at_ (i := 33) rfl)
      g_BadKeep := He.glo_ok X G (at_ (i := 34) rfl)
      g_BadKind := He.glo_ok X G (at_ (i := 35) rfl)
      g_BadLine := He.glo_ok X G (at_ (i := 36) rfl)
      g_BadMove := He.glo_ok X G (at_ (i := 37) rfl)
      g_Busy := He.glo_ok X G (at_ (i := 38) rfl)
      g_Clash := He.glo_ok X G (at_ (i := 39) rfl)
      g_Endless := He.glo_ok X G (at_ (i := 40) rfl)
      g_Failure := He.glo_ok X G (at_ (i := 41) rfl)
      g_FaultsheardError := He.glo_ok X G (at_ (i := 42) rfl)
      g_NoCase := He.glo_ok X G (at_ (i := 43) rfl)
      g_NoDeed := He.glo_ok X G (at_ (i := 44) rfl)
      g_NoEnd := He.glo_ok X G (at_ (i := 45) rfl)
      g_NoFunction := He.glo_ok X G (at_ (i := 46) rfl)
      g_NoName := He.glo_ok X G (at_ (i := 47) rfl)
      g_NotByValues := He.glo_ok X G (at_ (i := 48) rfl)
      g_Recursive := He.glo_ok X G (at_ (i := 49) rfl)
      g_TooLong := He.glo_ok X G (at_ (i := 50) rfl)
      g_TooMany := He.glo_ok X G (at_ (i := 51) rfl)
      xc_BadAnswer := xcB_ok (at_ (i := 52) rfl)
      xc_BadCall := xcB_ok (at_ (i := 53) rfl)
      xc_BadChange := xcB_ok (at_ (i := 54) rfl)
      xc_BadKeep := xcB_ok (at_ (i := 55) rfl)
      xc_BadKind := xcB_ok (at_ (i := 56) rfl)
      xc_BadLine := xcB_ok (at_ (i := 57) rfl)
      xc_BadMove := xcB_ok (at_ (i := 58) rfl)
      xc_Clash := xcB_ok (at_ (i := 59) rfl)
      xc_Endless := xcB_ok (at_ (i := 60) rfl)
      xc_NoCase := xcB_ok (at_ (i := 61) rfl)
      xc_NoDeed := xcB_ok (at_ (i := 62) rfl)
      xc_NoEnd := xcB_ok (at_ (i := 63) rfl)
      xc_NoFunction := xcB_ok (at_ (i := 64) rfl)
      xc_NoName := xcB_ok (at_ (i := 65) rfl)
      xc_NotByValues := xcB_ok (at_ (i := 66) rfl)
      xc_Recursive := xcB_ok (at_ (i := 67) rfl)
      xc_TooLong := xcB_ok (at_ (i := 68) rfl)
      xc_TooMany := xcB_ok (at_ (i := 69) rfl)
      xm_Failure := xmB_ok (at_ (i := 70) rfl)
      nx_Failure_cause := of_decide_eq_true (at_ (i := 71) rfl)
      nx_Failure_fault := of_decide_eq_true (at_ (i := 72) rfl)
      nx_Failure_word := of_decide_eq_true (at_ (i := 73) rfl)
      xb_Busy := (at_ (i := 74) rfl)
      kp_Busy := (at_ (i := 75) rfl)
      iy_BadAnswer := isB_ok (at_ (i := 76) rfl)
      in_BadAnswer := isB_ok (at_ (i := 77) rfl)
      iy_BadCall := isB_ok (at_ (i := 78) rfl)
      in_BadCall := isB_ok (at_ (i := 79) rfl)
      iy_BadChange := isB_ok (at_ (i := 80) rfl)
      in_BadChange := isB_ok (at_ (i := 81) rfl)
      iy_BadKeep := isB_ok (at_ (i := 82) rfl)
      in_BadKeep := isB_ok (at_ (i := 83) rfl)
      iy_BadKind := isB_ok (at_ (i := 84) rfl)
      in_BadKind := isB_ok (at_ (i := 85) rfl)
      iy_BadLine := isB_ok (at_ (i := 86) rfl)
      in_BadLine := isB_ok (at_ (i := 87) rfl)
      iy_BadMove := isB_ok (at_ (i := 88) rfl)
      in_BadMove := isB_ok (at_ (i := 89) rfl)
      iy_Busy := isB_ok (at_ (i := 90) rfl)
      in_Busy := isB_ok (at_ (i := 91) rfl)
      iy_Clash := isB_ok (at_ (i := 92) rfl)
      in_Clash := isB_ok (at_ (i := 93) rfl)
      iy_Endless := isB_ok (at_ (i := 94) rfl)
      in_Endless := isB_ok (at_ (i := 95) rfl)
      iy_Failure := isB_ok (at_ (i := 96) rfl)
      in_Failure := isB_ok (at_ (i := 97) rfl)
      iy_FaultsheardError := isB_ok (at_ (i := 98) rfl)
      in_FaultsheardError := isB_ok (at_ (i := 99) rfl)
      iy_NoCase := isB_ok (at_ (i := 100) rfl)
      in_NoCase := isB_ok (at_ (i := 101) rfl)
      iy_NoDeed := isB_ok (at_ (i := 102) rfl)
      in_NoDeed := isB_ok (at_ (i := 103) rfl)
      iy_NoEnd := isB_ok (at_ (i := 104) rfl)
      in_NoEnd := isB_ok (at_ (i := 105) rfl)
      iy_NoFunction := isB_ok (at_ (i := 106) rfl)
      in_NoFunction := isB_ok (at_ (i := 107) rfl)
      iy_NoName := isB_ok (at_ (i := 108) rfl)
      in_NoName := isB_ok (at_ (i := 109) rfl)
      iy_NotByValues := isB_ok (at_ (i := 110) rfl)
      in_NotByValues := isB_ok (at_ (i := 111) rfl)
      iy_Recursive := isB_ok (at_ (i := 112) rfl)
      in_Recursive := isB_ok (at_ (i := 113) rfl)
      iy_TooLong := isB_ok (at_ (i := 114) rfl)
      in_TooLong := isB_ok (at_ (i := 115) rfl)
      iy_TooMany := isB_ok (at_ (i := 116) rfl)
      in_TooMany := isB_ok (at_ (i := 117) rfl)
      iy_ValueError := isB_ok (at_ (i := 118) rfl)
      in_ValueError := isB_ok (at_ (i := 119) rfl)
      xf_BadAnswer := L2.xfB_ok (at_ (i := 120) rfl)
      xf_BadCall := L2.xfB_ok (at_ (i := 121) rfl)
      xf_BadChange := L2.xfB_ok (at_ (i := 122) rfl)
      xf_BadKeep := L2.xfB_ok (at_ (i := 123) rfl)
      xf_BadKind := L2.xfB_ok (at_ (i := 124) rfl)
      xf_BadLine := L2.xfB_ok (at_ (i := 125) rfl)
      xf_BadMove := L2.xfB_ok (at_ (i := 126) rfl)
      xf_Clash := L2.xfB_ok (at_ (i := 127) rfl)
      xf_Endless := L2.xfB_ok (at_ (i := 128) rfl)
      xf_NoCase := L2.xfB_ok (at_ (i := 129) rfl)
      xf_NoDeed := L2.xfB_ok (at_ (i := 130) rfl)
      xf_NoEnd := L2.xfB_ok (at_ (i := 131) rfl)
      xf_NoFunction := L2.xfB_ok (at_ (i := 132) rfl)
      xf_NoName := L2.xfB_ok (at_ (i := 133) rfl)
      xf_NotByValues := L2.xfB_ok (at_ (i := 134) rfl)
      xf_Recursive := L2.xfB_ok (at_ (i := 135) rfl)
      xf_TooLong := L2.xfB_ok (at_ (i := 136) rfl)
      xf_TooMany := L2.xfB_ok (at_ (i := 137) rfl) }
  exact ⟨_, T, fun s v => bl s [v] rfl⟩
end Lw
open PySem PySem.W PySem.Calls PyProof.Rows
set_option maxRecDepth 100000 in
set_option maxHeartbeats 0 in
theorem PySem.Challenge.cw_faultsheard_k14_errors_by_hand_holds : PySem.Challenge.rw_faultsheard_k14_errors_by_hand.Holds := by
  w_on; o_law
  refine HandSHeadRun.head_any (r := OpenLaw.row PySem.Challenge.rw_faultsheard_k14_errors_by_hand) (q := view (OpenLaw.row PySem.Challenge.rw_faultsheard_k14_errors_by_hand).prog [34]) (H := Lw.hk) (ob := Lw.ob) (M := 12000) (loose := Lw.loose) (d := HandSHeadRun.topDef (OpenLaw.row PySem.Challenge.rw_faultsheard_k14_errors_by_hand).prog 34) (kwd := []) Lw.ob_eq
    (by kernel_rfl) (fun s => by kernel_rfl) Lw.run (by kernel_rfl) (by kernel_rfl) (by kernel_rfl) (by rfl) (by first | assumption | decide +kernel) (by decide +kernel) ⟨rfl, rfl, rfl, rfl, rfl, by decide +kernel⟩ ?hw ?hc
  case hw => w_witness2
  case hc =>
    refine L2.walk_ofE (l := PySem.Challenge.rw_faultsheard_k14_errors_by_hand) (n := 63) (k := 7) (x := "_law_script") (CX := L2.CX0) rfl (by decide) (by kernel_rfl) ⟨rfl, by decide, by decide⟩ ?F (fun _ _ _ _ z => z)
    intro w mg fa h Y G hmg0
    obtain ⟨K, KX, c⟩ := Y
    have hmg : mg ("law" : PySem.Str) = some (.ref fa) := by
      have e : (HandSHeadRun.topDef (OpenLaw.row PySem.Challenge.rw_faultsheard_k14_errors_by_hand).prog 34).name = ("law" : PySem.Str) := by kernel_rfl
      rw [← e]
      exact hmg0
    obtain ⟨d, T, hb⟩ := Lw.facts KX G c
    have ge := hmg.symm.trans T.a_law.g
    cases ge
    exact ⟨K, d.law, (fun vs H Q _ => Mi.spM ⟨K, w⟩ 1 Lw.m_law vs H Q fun _ _ _ => False), KX, hb, fun H a ns hl hO hS => Mi.law_sp hO hS (Lw.law_ok ns hl []), fun base _ _ => Mi.OkM.calm (Lw.ok_law T)⟩
