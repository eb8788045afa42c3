import PyProof.Rows.All
import Wide.All
import OpenK.AllK
import Wide.FinOn
import HandS.ForMost
import HandS.Set
import HandS.SetKeys
import HandS.TupSets
import HandS.SetFor
import KE.KSortTupG
import KE.GoesEnum
import HandS.Zip
import HandS.More
import PyProof.NeKinds
import HandS.TupAny
import HandS.IsInst
import HandS.Style
import HandS.Deep
import HandS.SortInts
import HandS.Conv
import HandS.RaiseMore
import HandS.Replace
import HandS.CallLocal
import HandS.TryOnly
import PyProof.DictUpdate
import KE.KDictPairs
import HandS.ListItems
import HandS.CallRecv
import HandS.Defaults
import KE.KRevIter
import HandS.RevTup
import HandS.Rev
import KE.KStateDown
import Lean
import HandS.WordsExc
import HandS.Head0
import HandS.Head1
import HandS.Head2
import HandS.HeadEnd
import HandS.HeadHook1
import HandS.HeadHook2
import HandS.HeadHook3
import PySem.Challenge.RW_linecourt_k42_whole_summed_kind_by_kind
set_option Elab.async false
set_option linter.all false
set_option maxRecDepth 100000
namespace LC
open PySem PySem.Spec PyProof.Rows L2
def eTx (e : Int × Value) : Str := match e.2 with
  | .str x _ => x
  | _ => ⟨#[]⟩
def ETx (P : Program) (w : World) (e : Int × Value) : Prop := ∃ x tk, e.2 = Value.str x tk ∧ e.1 = (mixKind P w).hash (.inr x)
structure TxSet (P : Program) (w : World) (h : Heap) (a : Addr) (xs : List Str) (o : Obj) (es : Array (Int × Value)) (ep : Nat) (t : SetTable) : Prop where
  ob : h.get? a = some o
  ex : o.ExactSet
  da : o.data = .set es ep t
  tx : ∀ e ∈ es.toList, ETx P w e
  pm : (es.toList.map eTx).Perm xs
  nd : xs.Nodup
  few : es.size < scanBound
  fit : t.fits es.size = true
  ris : Ris t.place.toList
  led : w.params.followText "set-order" = true ∨ t.led = true
section
variable {P : Program} {w : World} {A : Around} {E : Value → Shared → Prop} {s : Shared} {a : Addr} {xs : List Str} {o : Obj} {es : Array (Int × Value)} {ep : Nat} {t : SetTable}
theorem TxSet.keep {h h' : Heap} (R : TxSet P w h a xs o es ep t) (k : ∀ u, h.get? a = some u → h'.get? a = some u) : TxSet P w h' a xs o es ep t := { R with ob := k o R.ob }
theorem TxSet.size {h : Heap} (R : TxSet P w h a xs o es ep t) : es.size = xs.length := by
  have := R.pm.length_eq
  rw [List.length_map, Array.length_toList] at this
  exact this
theorem etx_elems {l : List (Int × Value)} (g : ∀ e ∈ l, ETx P w e) : ElemsOf (mixKind P w) l := fun e he => by
  obtain ⟨x, tk, h1, h2⟩ := g e he
  refine ⟨⟨.inr x, ?_, h2⟩, by rw [h1]; rfl⟩
  rw [h1]
  exact mixKind_str P w x tk
theorem etx_is {e : Int × Value} (g : ETx P w e) (x : Str) : (mixKind P w).is (.inr x) e.2 = true ↔ eTx e = x := by
  obtain ⟨y, tk, h1, _⟩ := g
  have e1 : eTx e = y := by
    unfold eTx
    rw [h1]
  rw [e1, h1]
  constructor
  · intro z
    rcases keyIs_shape (show keyIs (.inr x) (.str y tk) = true from z) with ⟨i, u, q, _⟩ | ⟨v, u, q, r⟩
    · cases q
    · cases q
      cases r
      rfl
  · intro z
    rw [z]
    exact mixKind_str P w x tk
theorem etx_mem {l : List (Int × Value)} (g : ∀ e ∈ l, ETx P w e) (x : Str) : x ∈ l.map eTx ↔ ∃ e ∈ l, (mixKind P w).is (.inr x) e.2 = true := by
  rw [List.mem_map]
  exact ⟨fun ⟨e, he, q⟩ => ⟨e, he, (etx_is (g e he) x).2 q⟩, fun ⟨e, he, q⟩ => ⟨e, he, (etx_is (g e he) x).1 q⟩⟩
def Put (P : Program) (w : World) (h0 h' : Heap) (a : Addr) (x : Str) (xs : List Str) : Prop := Heap.SameBut a h0 h' ∧ ∃ ys o es ep t, TxSet P w h' a ys o es ep t ∧ (if x ∈ xs then ys = xs else ys = x :: xs)
theorem tx_tail {g : Bool → Sem Unit} (hg : ∀ (b : Bool) (s₁ : Shared) (Q' : Unit → Shared → Prop), Q' () s₁ → wpAny (model P w) A (g b) Q' E s₁) (ho : s.heap.get? a = some o) (hex : o.ExactSet) (hd : o.data = .set es ep t)
    {es1 : Array (Int × Value)} {t2 : SetTable} {ys : List Str} (g1 : ∀ e ∈ es1.toList, ETx P w e) (p1 : (es1.toList.map eTx).Perm ys) (n1 : ys.Nodup) (hb1 : es1.size < scanBound) (hf2 : t2.fits es1.size = true) (hr : Ris t2.place.toList)
    (hl : w.params.followText "set-order" = true ∨ t2.led = true) {wasDummy : Bool} {R : Option Bool → Shared → Prop} (hR : ∀ h' o' es' ep' t', Heap.SameBut a s.heap h' → TxSet P w h' a ys o' es' ep' t' → R (some true) { s with heap := h' }) :
    wpAny (model P w) A (do
        storeSet a es1 t2
        if (!wasDummy && t2.tooFull) = true then do
            g (relayAll t2 es1 (SetTable.grown es1.size)).2.2
            storeSet a (relayAll t2 es1 (SetTable.grown es1.size)).1 (relayAll t2 es1 (SetTable.grown es1.size)).2.1
            pure (some true)
          else pure (some true)) R E s := by
  refine wpAny_bind (wpAny_storeSet_of ho hd ?_ (fits_of_scanBound hb1))
  have at1 := store_at (es' := es1) (t' := t2) ho hd
  have same1 := Heap.SameBut.update s.heap a (Obj.putSet es1 t2)
  split
  · have q1 := relayAll_perm t2 es1 (SetTable.grown es1.size)
    have q2 := relayAll_fits t2 es1 (SetTable.grown es1.size)
    have q3 := relayAll_ris t2 es1 (SetTable.grown es1.size)
    have q4 := relayAll_led t2 es1 (SetTable.grown es1.size)
    generalize relayAll t2 es1 (SetTable.grown es1.size) = Y at q1 q2 q3 q4 ⊢
    obtain ⟨es2, t3, gave⟩ := Y
    dsimp only at q1 q2 q3 q4 ⊢
    have sz : es2.size = es1.size := by rw [← Array.length_toList, q1.length_eq, Array.length_toList]
    have few2 : es2.size < scanBound := by rw [sz]; exact hb1
    refine wpAny_bind (hg _ _ _ (wpAny_bind (wpAny_storeSet_of at1 rfl ?_ (fits_of_scanBound few2))))
    have at2 := store_at (es' := es2) (t' := t3) at1 rfl
    exact wpAny_pure (hR _ _ es2 _ t3 (same1.trans (Heap.SameBut.update _ a _)) ⟨at2, hex, rfl, fun e he => g1 e (q1.mem_iff.mp he), (q1.map eTx).trans p1, n1, few2, q2, q3, hl.imp id fun z => by rw [q4]; exact z⟩)
  · exact wpAny_pure (hR _ _ es1 _ t2 same1 ⟨at1, hex, rfl, g1, p1, n1, hb1, hf2, hr, hl⟩)
theorem tx_add {x : Str} {tk : Tok} {Q : Bool → Shared → Prop} (R : TxSet P w s.heap a xs o es ep t) (room : xs.length + 1 < scanBound) (hQ : ∀ b h', Put P w s.heap h' a x xs → Q b { s with heap := h' }) :
    wpAny (model P w) A (setAddHashed a (.str x tk) ((mixKind P w).hash (.inr x))) Q E s := by
  have hkey : (mixKind P w).is (.inr x) (.str x tk) = true := mixKind_str P w x tk
  have hsc : (Value.str x tk).scannable = true := rfl
  have hel := etx_elems R.tx
  have hsz := R.size
  unfold setAddHashed setAddHashedIn
  refine wpAny_holding (wpAny_bind (wpAny_setState_of R.ob R.da R.fit ?_))
  dsimp only
  rw [byScan_of hsc R.few hel]
  simp only [↓reduceIte]
  unfold setAddByScan
  refine wpAny_bind (wpAny_bind (wpAny_rule (wpAny_bind (wpAny_setScan_of hkey R.ob R.da R.fit hel ?_))))
  cases hfi : List.findIdx? (fun e => (mixKind P w).is (.inr x) e.2) es.toList with
  | some j =>
    dsimp only
    obtain ⟨hj, pj, _⟩ := List.findIdx?_eq_some_iff_getElem.mp hfi
    have hx : x ∈ xs := R.pm.mem_iff.mp ((etx_mem R.tx x).2 ⟨es.toList[j], List.getElem_mem hj, pj⟩)
    exact wpAny_pure (wpAny_pure (hQ _ s.heap ⟨Heap.SameBut.refl a s.heap, xs, o, es, ep, t, R, by rw [if_pos hx]⟩))
  | none =>
    dsimp only
    have hn : x ∉ es.toList.map eTx := fun z => by
      obtain ⟨e, he, q⟩ := (etx_mem R.tx x).1 z
      have c := List.findIdx?_eq_none_iff.mp hfi e he
      rw [q] at c
      cases c
    have hx : x ∉ xs := fun z => hn (R.pm.mem_iff.mpr z)
    have gw : ∀ (b : Bool) {s₁ : Shared} {Q' : Unit → Shared → Prop}, Q' () s₁ → wpAny (model P w) A (match b with | true => rule "set.scan.the-table-gave-way" | false => pure ()) Q' E s₁ :=
      fun b s₁ Q' q => by cases b <;> first | exact wpAny_pure q | exact wpAny_rule q
    have q1 := layNew_perm t es ((mixKind P w).hash (.inr x)) (.str x tk)
    have q2 := layNew_fits t es ((mixKind P w).hash (.inr x)) (.str x tk)
    have q3 := layNew_ris t es ((mixKind P w).hash (.inr x)) (.str x tk) R.ris
    have q4 := layNew_led t es ((mixKind P w).hash (.inr x)) (.str x tk)
    generalize layNew t es ((mixKind P w).hash (.inr x)) (.str x tk) = Y at q1 q2 q3 q4 ⊢
    obtain ⟨es1, t1, wasDummy, gave⟩ := Y
    dsimp only at q1 q2 q3 q4 ⊢
    rw [Array.toList_push] at q1
    have pc : es1.toList.Perm (((mixKind P w).hash (.inr x), Value.str x tk) :: es.toList) := q1.trans (List.perm_append_singleton _ _)
    have g1 : ∀ e ∈ es1.toList, ETx P w e := fun e he => by
      rcases List.mem_cons.mp (pc.mem_iff.mp he) with z | z
      · rw [z]; exact ⟨x, tk, rfl, rfl⟩
      · exact R.tx e z
    have p1 : (es1.toList.map eTx).Perm (x :: xs) := (pc.map eTx).trans (List.Perm.cons _ R.pm)
    have n1 : (x :: xs).Nodup := List.nodup_cons.mpr ⟨hx, R.nd⟩
    have z1 : es1.size = xs.length + 1 := by rw [← Array.length_toList, pc.length_eq, List.length_cons, Array.length_toList, hsz]
    have few1 : es1.size < scanBound := by rw [z1]; exact room
    have led1 : w.params.followText "set-order" = true ∨ t1.led = true := R.led.imp id fun z => by rw [q4]; exact z
    have fin : ∀ h' o' es' ep' t', Heap.SameBut a s.heap h' → TxSet P w h' a (x :: xs) o' es' ep' t' → Q true { s with heap := h' } := fun h' o' es' ep' t' sb r => hQ _ h' ⟨sb, x :: xs, o', es', ep', t', r, by rw [if_neg hx]⟩
    refine wpAny_bind (gw _ ?_)
    split
    · refine wpAny_bind ?_
      rw [hashByValue_scannable 8 hsc]
      refine wpAny_pure ?_
      refine tx_tail ?_ R.ob R.ex R.da g1 p1 n1 few1 ?_ ?_ ?_ ?_
      · intro b s₁ Q' q; cases b <;> first | exact wpAny_pure q | exact wpAny_rule q
      · first | (split <;> first | exact q2 | exact SetTable.fits_plain_off q2) | exact q2
      · first | (split <;> exact q3) | exact q3
      · first | (split <;> exact led1) | exact led1
      · intro h' o' es' ep' t' sb r; dsimp only; exact wpAny_pure (fin h' o' es' ep' t' sb r)
    · refine wpAny_bind (wpAny_pure ?_)
      simp only [↓reduceIte]
      refine tx_tail ?_ R.ob R.ex R.da g1 p1 n1 few1 q2 q3 led1 ?_
      · intro b s₁ Q' q; cases b <;> first | exact wpAny_pure q | exact wpAny_rule q
      · intro h' o' es' ep' t' sb r; dsimp only; exact wpAny_pure (fin h' o' es' ep' t' sb r)
def Met (xs ys : List Str) (i : Nat) : Prop := xs.length ≤ i ∧ ∀ x, x ∈ xs ↔ x ∈ ys.take i
theorem Met.put {xs zs ys : List Str} {i : Nat} {x : Str} (m : Met xs ys i) (h : ys[i]? = some x) (hz : if x ∈ xs then zs = xs else zs = x :: xs) : Met zs ys (i + 1) := by
  have et : ys.take (i + 1) = ys.take i ++ [x] := by
    rw [List.take_succ, h]
    rfl
  by_cases hx : x ∈ xs
  · rw [if_pos hx] at hz
    subst hz
    refine ⟨Nat.le_succ_of_le m.1, fun z => ?_⟩
    rw [et, List.mem_append, ← m.2 z, List.mem_singleton]
    exact ⟨.inl, fun q => q.elim id fun e => by rw [e]; exact hx⟩
  · rw [if_neg hx] at hz
    subst hz
    refine ⟨by rw [List.length_cons]; have := m.1; omega, fun z => ?_⟩
    rw [et, List.mem_append, ← m.2 z, List.mem_singleton, List.mem_cons]
    exact Or.comm
theorem tx_loop {I : Addr} {fp wr : List Addr} {G : Array GenState → Array GenState → Prop} {n : Nat} {Pv : Nat → Value → Prop} {St : Nat → Shared → Prop} {R : Result → Shared → Prop}
    (W : WalksS P w A.in1 I fp wr G n Pv St) (S : Addr) (hSf : S ∉ fp) (ys : List Str) (hn : n = ys.length) (hfew : ys.length < 4000) (hval : ∀ i v, Pv i v → ∃ x tk, ys[i]? = some x ∧ v = .str x tk) :
    ∀ (k i : Nat) (s : Shared), n - i = k → i ≤ n → St i s → (∃ xs o es ep t, TxSet P w s.heap S xs o es ep t ∧ Met xs ys i) →
      (∀ s' xs o es ep t, Moved (S :: wr) G s s' → TxSet P w s'.heap S xs o es ep t → Met xs ys n → R (.ok (.ret .none)) s') →
      codeAny (model P w) A (.builtin "set.update.loop" ⟨[.ref S, .ref I], []⟩) R s := by
  have hSw : S ∉ wr := fun h => hSf (W.sub _ h)
  have hsub : ∀ b ∈ wr, b ∈ S :: wr := fun b hb => List.mem_cons_of_mem _ hb
  intro k
  induction k with
  | zero =>
    intro i s hk' hi hst hS hR
    obtain ⟨xs, o, es, ep, t, T, m⟩ := hS
    have hin : i = n := by omega
    subst hin
    refine codeAny_builtin F.entry_set_update_loop ?_
    rw [Around.under_plainId F.plain_set_update_loop _]
    show wpAny _ A.in1 (pyNext (.ref I) >>= _) _ _ s
    refine wpAny_bind (W.done s _ _ hst fun s' hm => ?_)
    show wpAny _ A.in1 (ret Value.none) _ _ s'
    exact wpAny_pure (hR s' xs o es ep t (hm.mono hsub) (T.keep fun u e => hm.heap S u hSw e) m)
  | succ k ih =>
    intro i s hk' hi hst hS hR
    obtain ⟨xs, o, es, ep, t, T, m⟩ := hS
    have hlt : i < n := by omega
    refine codeAny_builtin F.entry_set_update_loop ?_
    rw [Around.under_plainId F.plain_set_update_loop _]
    show wpAny _ A.in1 (pyNext (.ref I) >>= _) _ _ s
    refine wpAny_bind (W.item i s _ _ hlt hst fun v s' hP hst' hm => ?_)
    obtain ⟨x, tk, hx, rfl⟩ := hval i v hP
    have T' : TxSet P w s'.heap S xs o es ep t := T.keep fun u e => hm.heap S u hSw e
    show wpAny _ A.in1 (holding [Value.str x tk] (setAdd S (.str x tk)) >>= _) _ _ s'
    refine wpAny_bind (wpAny_holding ?_)
    unfold setAdd
    refine wpAny_holding ?_
    refine wpAny_bind ((mixKind P w).pyHash (k := .inr x) (mixKind_str P w x tk) ?_)
    refine tx_add (s := { s' with toks := s'.toks + 1 }) T' (by have := m.1; unfold scanBound; omega) fun b h' hput => ?_
    obtain ⟨sb, zs, o2, es2, ep2, t2, T2, hz⟩ := hput
    refine wpAny_pure ⟨plainId_quiet F.plain_set_update_loop _, ih (i + 1) _ (by omega) hlt (W.frame _ s' _ _ hst' (Nat.le_succ _) fun b hb u e => ?_) ⟨zs, o2, es2, ep2, t2, T2, m.put hx hz⟩ fun s'' xs3 o3 es3 ep3 t3 hm'' T3 m3 => ?_⟩
    · rw [sb.2 b (fun z : b = S => hSf (by rw [← z]; exact hb))]; exact e
    · refine hR s'' xs3 o3 es3 ep3 t3 (Moved.trans W.gtrans ((hm.mono hsub).then_heap (Nat.le_succ _) fun b u hb e => ?_) hm'') T3 m3
      rw [sb.2 b (fun z : b = S => hb (by rw [z]; exact List.mem_cons_self))]; exact e
set_option maxHeartbeats 3200000 in
theorem call_set_tx {l : Addr} {items : Array Value} (ys : List Str) {Q : Value → Shared → Prop} (hh : A.handled = none) (hl : s.heap.IsList l items ∨ s.heap.IsTuple l items) (hy : StrsAre items.toList ys) (hfew : ys.length < 4000)
    (h : ∀ (h' : Heap) (tk : Nat) xs o es ep t, TxSet P w h' s.heap.objs.size xs o es ep t → (∀ x, x ∈ xs ↔ x ∈ ys) → (∀ b u, s.heap.get? b = some u → h'.get? b = some u) → Q (.ref s.heap.objs.size) { s with heap := h', toks := tk }) :
    wpAny (model P w) A (call (.type "set") [.ref l]) Q E s := by
  have len_of : ∀ {vs : List Value} {zs : List Str}, StrsAre vs zs → vs.length = zs.length := fun h => by
    induction h with
    | nil => rfl
    | cons _ _ _ ih => rw [List.length_cons, List.length_cons, ih]
  have get_of : ∀ {vs : List Value} {zs : List Str}, StrsAre vs zs → ∀ (i : Nat) (v : Value), vs[i]? = some v → ∃ x tk, zs[i]? = some x ∧ v = .str x tk := fun h => by
    induction h with
    | nil => intro i v e; simp at e
    | cons x tk _ ih =>
      intro i v e
      cases i with
      | zero => simp at e; exact ⟨x, tk, rfl, e.symm⟩
      | succ i => obtain ⟨z, u, e1, e2⟩ := ih i v (by simpa using e); exact ⟨z, u, by simpa using e1, e2⟩
  have hisz : items.size = ys.length := by rw [← Array.length_toList]; exact len_of hy
  have hval : ∀ (i : Nat) (v : Value), items[i]? = some v → ∃ x tk, ys[i]? = some x ∧ v = .str x tk := fun i v hv => get_of hy i v (by rw [Array.getElem?_toList]; exact hv)
  obtain ⟨c, tl, hmro⟩ := F.called_set.mro
  have hmade := F.called_set.made
  have hsub := F.called_set.sub
  refine wpAny_call (codeAny_of_tree ?_)
  show wpAny _ _ (callAny (.type "set") _) _ _ _
  refine wpAny_pure ⟨Code.quiet_builtin _ (by decide +kernel), codeAny_builtin F.entry_type_call ?_⟩
  rw [Around.under_plain (weight_type_call_type "set" [.ref l] []) rfl]
  have h1 := F.called_set.notType
  have h2 := F.called_set.canCreate
  have hct := F.typeCall_set_1 (.ref l)
  repeat (any_goals (first | assumption | wp_step))
  refine codeAny_mono (code_set_led1 (.ref l) (E := E) (Q₁ := fun obj s₁ => obj = .ref s.heap.objs.size ∧ s₁ = { s with heap := s.heap.push { cls := .type "set", dict := none, data := .set #[] 0 (.fresh 0 0 (!w.params.followText "set-order")) } }) ⟨rfl, rfl⟩) fun r s₁ hr => ?_
  cases r with
  | error e => exact hr
  | ok fl =>
    cases fl with
    | ret obj =>
      obtain ⟨rfl, rfl⟩ := hr
      have hS := Heap.get?_push_size s.heap (o := { cls := .type "set", dict := none, data := .set #[] 0 (.fresh 0 0 (!w.params.followText "set-order")) }) rfl
      have hT : Shared.TypeIs { s with heap := s.heap.push { cls := .type "set", dict := none, data := .set #[] 0 (.fresh 0 0 (!w.params.followText "set-order")) } } (.ref s.heap.objs.size) "set" := ⟨_, hS, rfl⟩
      have hli := F.called_set.init.lookup
      have hbi := F.called_set.init.bind (.ref s.heap.objs.size)
      repeat (any_goals (first | assumption | wp_step))
      refine codeAny_mono (codeAny_call_builtin (R := wants (fun r s₂ => r = .none ∧ ∃ h' tk xs o es ep t, s₂ = { s with heap := h', toks := tk } ∧ TxSet P w h' s.heap.objs.size xs o es ep t ∧ (∀ x, x ∈ xs ↔ x ∈ ys) ∧
          (∀ b u, s.heap.get? b = some u → h'.get? b = some u)) E) F.called_set.init.plain F.entry_set_init (check_set_init_1 hT ?_)) fun r₂ s₂ hr₂ => ?_
      · have hz1 : (s.heap.push { cls := .type "set", dict := none, data := .set #[] 0 (.fresh 0 0 (!w.params.followText "set-order")) }).objs.size = s.heap.objs.size + 1 := Heap.size_push ..
        have hh3 : A.in1.in1.in1.handled = none := by simp [hh]
        have fresh : ∀ {hp : Heap}, (∀ u, (s.heap.push { cls := .type "set", dict := none, data := .set #[] 0 (.fresh 0 0 (!w.params.followText "set-order")) }).get? s.heap.objs.size = some u → hp.get? s.heap.objs.size = some u) → ∃ xs o es ep t, TxSet P w hp s.heap.objs.size xs o es ep t ∧ Met xs ys 0 := fun {hp} k => by
          refine ⟨[], _, #[], 0, _, ⟨k _ hS, ⟨rfl, rfl, rfl⟩, rfl, (fun e he => by simp at he), (by simp), .nil, (by decide), (by rfl), List.Pairwise.nil, ?_⟩, Nat.le_refl _, fun x => by simp⟩
          show _ ∨ (!w.params.followText "set-order") = true
          cases w.params.followText "set-order"
          · exact .inr rfl
          · exact .inl rfl
        rcases hl with hl | hl
        · obtain ⟨ol, hol, hcl, nl, hdl⟩ := hl
          obtain ⟨ocls, odict, odata, oslots⟩ := ol
          simp only at hcl hdl
          subst hcl; subst hdl
          have hol' : (s.heap.push { cls := .type "set", dict := none, data := .set #[] 0 (.fresh 0 0 (!w.params.followText "set-order")) }).get? l = some { cls := .type "list", dict := odict, data := .seq items nl, slots := oslots } := Heap.get?_push_of_some _ hol
          have hsls := F.sub_list_set
          have hslf := F.sub_list_frozenset
          have hne : (Value.type "list" == Value.type "dict") = false := by decide
          have hl1 : (s.heap.push { cls := .type "set", dict := none, data := .set #[] 0 (.fresh 0 0 (!w.params.followText "set-order")) }).IsList l items := ⟨_, hol', rfl, nl, rfl⟩
          unfold Builtin.«set.__init__» noKeywords Builtin.Frozenset.updateFrom
          generalize hPI : pyIter = PI
          wp_walk
          subst hPI
          refine wpAny_pyIter_list hl1 ?_
          refine wpAny_bind (wpAny_runValue ?_)
          have hlS : l < s.heap.objs.size := Heap.lt_size hol
          have hneI : l ≠ (s.heap.push { cls := .type "set", dict := none, data := .set #[] 0 (.fresh 0 0 (!w.params.followText "set-order")) }).objs.size := by rw [hz1]; exact Nat.ne_of_lt (Nat.lt_succ_of_lt hlS)
          refine tx_loop ((Walks.list hh3 _ l hneI items).toS) s.heap.objs.size ?_ ys hisz hfew hval (items.size - 0) 0 _ (by omega) (Nat.zero_le _) ⟨⟨_, Heap.get?_push_size _ rfl, rfl, rfl⟩, (hl1.push _)⟩ (fresh fun u e => Heap.get?_push_of_some _ e) ?_
          · rw [hz1]
            simp only [List.mem_cons, List.not_mem_nil, or_false, not_or]
            exact ⟨Nat.ne_of_lt (Nat.lt_succ_self _), Nat.ne_of_gt hlS⟩
          · intro s' xs o es ep t hm T m
            obtain ⟨h', g2, d', tk', os'⟩ := s'
            have eg : g2 = s.gens := hm.gens
            have ed : d' = s.drawn := hm.drawn
            have eo : os' = s.os := hm.os
            subst eg; subst ed; subst eo
            show wpAny _ _ _ _ _ _
            refine wpAny_pure ?_
            show wpAny _ _ (ret Value.none) _ _ _
            refine wpAny_pure ⟨rfl, h', tk', xs, o, es, ep, t, rfl, T, fun x => by rw [m.2 x, hisz, List.take_length], fun b u e => ?_⟩
            have hb := Heap.lt_size e
            refine hm.heap b u ?_ (Heap.get?_push_of_some _ (Heap.get?_push_of_some _ e))
            rw [hz1]
            simp only [List.mem_cons, List.not_mem_nil, or_false, not_or]
            exact ⟨Nat.ne_of_lt hb, Nat.ne_of_lt (Nat.lt_succ_of_lt hb)⟩
        · obtain ⟨ol, hol, hcl, nl, hdl⟩ := hl
          obtain ⟨ocls, odict, odata, oslots⟩ := ol
          simp only at hcl hdl
          subst hcl; subst hdl
          have hol' : (s.heap.push { cls := .type "set", dict := none, data := .set #[] 0 (.fresh 0 0 (!w.params.followText "set-order")) }).get? l = some { cls := .type "tuple", dict := odict, data := .seq items nl, slots := oslots } := Heap.get?_push_of_some _ hol
          have hsls := F.sub_tuple_set
          have hslf := F.sub_tuple_frozenset
          have hne : (Value.type "tuple" == Value.type "dict") = false := by decide
          have hl1 : (s.heap.push { cls := .type "set", dict := none, data := .set #[] 0 (.fresh 0 0 (!w.params.followText "set-order")) }).IsTuple l items := ⟨_, hol', rfl, nl, rfl⟩
          unfold Builtin.«set.__init__» noKeywords Builtin.Frozenset.updateFrom
          generalize hPI : pyIter = PI
          wp_walk
          subst hPI
          refine wpAny_pyIter_tuple hl1 ?_
          refine wpAny_bind (wpAny_runValue ?_)
          have hlS : l < s.heap.objs.size := Heap.lt_size hol
          have hneI : l ≠ (s.heap.push { cls := .type "set", dict := none, data := .set #[] 0 (.fresh 0 0 (!w.params.followText "set-order")) }).objs.size := by rw [hz1]; exact Nat.ne_of_lt (Nat.lt_succ_of_lt hlS)
          refine tx_loop ((Walks.tuple hh3 _ l hneI items).toS) s.heap.objs.size ?_ ys hisz hfew hval (items.size - 0) 0 _ (by omega) (Nat.zero_le _) ⟨⟨_, Heap.get?_push_size _ rfl, rfl, rfl⟩, (hl1.push _)⟩ (fresh fun u e => Heap.get?_push_of_some _ e) ?_
          · rw [hz1]
            simp only [List.mem_cons, List.not_mem_nil, or_false, not_or]
            exact ⟨Nat.ne_of_lt (Nat.lt_succ_self _), Nat.ne_of_gt hlS⟩
          · intro s' xs o es ep t hm T m
            obtain ⟨h', g2, d', tk', os'⟩ := s'
            have eg : g2 = s.gens := hm.gens
            have ed : d' = s.drawn := hm.drawn
            have eo : os' = s.os := hm.os
            subst eg; subst ed; subst eo
            show wpAny _ _ _ _ _ _
            refine wpAny_pure ?_
            show wpAny _ _ (ret Value.none) _ _ _
            refine wpAny_pure ⟨rfl, h', tk', xs, o, es, ep, t, rfl, T, fun x => by rw [m.2 x, hisz, List.take_length], fun b u e => ?_⟩
            have hb := Heap.lt_size e
            refine hm.heap b u ?_ (Heap.get?_push_of_some _ (Heap.get?_push_of_some _ e))
            rw [hz1]
            simp only [List.mem_cons, List.not_mem_nil, or_false, not_or]
            exact ⟨Nat.ne_of_lt hb, Nat.ne_of_lt (Nat.lt_succ_of_lt hb)⟩
      · cases r₂ with
        | error e => exact hr₂
        | ok fl₂ =>
          cases fl₂ with
          | ret r =>
            obtain ⟨rfl, h', tk, xs, o, es, ep, t, rfl, T, m, hk'⟩ := hr₂
            repeat (any_goals (first | assumption | wp_step))
            exact h _ _ _ _ _ _ _ T m hk'
          | _ => exact hr₂.elim
    | _ => exact hr.elim
end
end LC

namespace LC
open PySem PySem.Spec PyProof.Rows L2
def shTI : Nat → Bool := fun i => i == 0
theorem keyTI {h : Heap} {a : Addr} {o : Obj} {x : Str} {i : Int} {t u : Tok} {n : Nat} (ho : h.get? a = some o) (hc : o.cls = .type "tuple") (hd : o.data = .seq #[Value.str x t, Value.int i u] n) : G.tupKeyC h shTI (.ref a) = some [Sum.inr x.cps.toList, Sum.inl i] := by
  unfold G.tupKeyC
  have e1 : G.isTupObj h (.ref a) = true := by simp [G.isTupObj, ho, hc]
  rw [if_pos e1]
  simp only [tupKey, ho, hd]
  rfl
theorem firstsTI {h : Heap} : ∀ {vs : List Value}, (∀ v ∈ vs, ∃ f, TupOf h shTI v f) → ∃ fs, TupsOf h shTI vs fs
  | [], _ => ⟨[], .nil⟩
  | v :: vs, H => by
    obtain ⟨f, hf⟩ := H v List.mem_cons_self
    obtain ⟨fs, hfs⟩ := firstsTI fun u hu => H u (List.mem_cons_of_mem _ hu)
    exact ⟨f :: fs, .cons hf hfs⟩
def shII : Nat → Bool := fun _ => false
theorem keyII {h : Heap} {a : Addr} {o : Obj} {x i : Int} {t u : Tok} {n : Nat} (ho : h.get? a = some o) (hc : o.cls = .type "tuple") (hd : o.data = .seq #[Value.int x t, Value.int i u] n) : G.tupKeyC h shII (.ref a) = some [Sum.inl x, Sum.inl i] := by
  unfold G.tupKeyC
  have e1 : G.isTupObj h (.ref a) = true := by simp [G.isTupObj, ho, hc]
  rw [if_pos e1]
  simp only [tupKey, ho, hd]
  rfl
theorem firstsII {h : Heap} : ∀ {vs : List Value}, (∀ v ∈ vs, ∃ f, TupOf h shII v f) → ∃ fs, TupsOf h shII vs fs
  | [], _ => ⟨[], .nil⟩
  | v :: vs, H => by
    obtain ⟨f, hf⟩ := H v List.mem_cons_self
    obtain ⟨fs, hfs⟩ := firstsII fun u hu => H u (List.mem_cons_of_mem _ hu)
    exact ⟨f :: fs, .cons hf hfs⟩
theorem perm_of_map {α β : Type} {g : α → β} {l m : List β} (h : l.Perm m) : ∀ ps : List α, m = ps.map g → ∃ qs : List α, qs.Perm ps ∧ l = qs.map g := by
  induction h with
  | nil =>
    intro ps e
    cases ps with
    | nil => exact ⟨[], .nil, rfl⟩
    | cons p ps => cases e
  | cons x _ ih =>
    intro ps e
    cases ps with
    | nil => cases e
    | cons p ps =>
      injection e with e1 e2
      obtain ⟨qs, h1, h2⟩ := ih ps e2
      exact ⟨p :: qs, h1.cons p, by rw [h2, e1]; rfl⟩
  | swap x y l =>
    intro ps e
    cases ps with
    | nil => cases e
    | cons p ps =>
      cases ps with
      | nil => cases e
      | cons q ps =>
        injection e with e1 e2
        injection e2 with e2 e3
        exact ⟨q :: p :: ps, .swap p q ps, by rw [e1, e2, e3]; rfl⟩
  | trans _ _ ih1 ih2 =>
    intro ps e
    obtain ⟨qs, h1, h2⟩ := ih2 ps e
    obtain ⟨rs, h3, h4⟩ := ih1 qs h2
    exact ⟨rs, h3.trans h1, h4⟩
section
variable {prog : Program} {w : World} {A : Around} {E : Value → Shared → Prop} {s : Shared}
def layS (h : Heap) (vs : List Value) : Heap := (h.push (seqObj "list" #[] 0)).update h.objs.size (Obj.mapSeq (· ++ vs.toArray))
theorem collectT {t : Addr} {ob : Obj} {k : Nat} {vs : List Value} {Q : List Value → Shared → Prop} (g : s.heap.get? t = some ob) (gc : ob.cls = .type "tuple") (gd : ob.data = .seq vs.toArray k) (gz : vs.length ≤ sizeLine)
    (q : Q vs { s with heap := layS s.heap vs }) : wpAny (model prog w) A (collect (.ref t)) Q E s := by
  have g' := Heap.get?_push_of_some (seqObj "list" #[] 0) g
  have top : (s.heap.push (seqObj "list" #[] 0)).get? s.heap.objs.size = some (seqObj "list" #[] 0) := Heap.get?_push_size _ rfl
  have all : (#[] : Array Value) ++ vs.toArray = vs.toArray := by simp
  unfold collect
  refine wpAny_bind (wpAny_runValue (codeAny_builtin entry_proto_collect' (show wpAny _ _ (do again (.builtin "list.__iadd__" ⟨[← newList [], .ref t], []⟩)) _ _ s from ?_)))
  refine wpAny_bind (wpAny_newList (wpAny_pure ⟨Code.quiet_builtin _ (by decide +kernel), codeAny_builtin entry_list_iadd' (show wpAny _ _ (Builtin.List.listExtendWith (.ref s.heap.objs.size) (.ref t) (.ref s.heap.objs.size)) _ _ { s with heap := s.heap.push (seqObj "list" #[] 0) } from ?_)⟩))
  unfold Builtin.List.listExtendWith
  refine wpAny_bind (wpAny_typeOf (T := "tuple") ⟨ob, g', gc⟩ ?_)
  have tt : (Value.type "tuple" == Value.type "tuple") = true := by rfl
  rw [if_pos (by rw [tt]; simp)]
  refine wpAny_bind (listItems_at g' gd (wpAny_bind (listItems_at top rfl ?_)))
  rw [if_neg (by simp)]
  refine wpAny_bind (listUpdate_at top rfl (wpAny_pure ?_) (Nat.zero_le _) (by rw [all, List.size_toArray]; omega))
  show wpAny (model prog w) A (do
      let o ← load s.heap.objs.size
      match o.data with
      | .seq xs _ => pure xs.toList
      | _ => unsupported "internal:collect") Q E { s with heap := layS s.heap vs }
  refine wpAny_bind (wpAny_load (get?_update_seq top _) (show wpAny _ _ (pure ((#[] : Array Value) ++ vs.toArray).toList) Q E _ from ?_))
  rw [all]
  exact wpAny_pure q
theorem sorted_tupsT {shape : Nat → Bool} {t : Addr} {ob : Obj} {k : Nat} {vs : List Value} {Q : Value → Shared → Prop} (g : s.heap.get? t = some ob) (gc : ob.cls = .type "tuple") (gd : ob.data = .seq vs.toArray k)
    (ht : ∀ h2, G.KeepsTups s.heap h2 → ∃ fs, TupsOf h2 shape vs fs) (hk : ∀ h2, G.KeepsTups s.heap h2 → ∀ v, v ∈ vs → ∃ l, G.tupKeyC h2 shape v = some l) (gz : vs.length ≤ sizeLine)
    (q : ∀ h2, G.KeepsTups s.heap h2 → ∀ st' : SortSt, (arrOf st').Perm (pairsOf vs) → SortedToK (G.tupKindC h2 shape) (arrOf st') (pairsOf vs).size → Q (.ref (s.heap.objs.size + 1)) { s with heap := sortedAll s.heap vs ((arrOf st').map (·.2)) }) :
    wpAny (model prog w) A (call (.builtin "sorted") [.ref t]) Q E s := by
  have sz : (layS s.heap vs).objs.size = s.heap.objs.size + 1 := by
    unfold layS
    rw [Heap.size_update, size_push']
  have kt : G.KeepsTups s.heap ((layS s.heap vs).push (seqObj "list" vs.toArray 0)) := ((G.KeepsTups.push _ _).trans (G.KeepsTups.update _ (Heap.get?_push_size _ rfl) G.not_tuple_list)).trans (G.KeepsTups.push _ _)
  have top : ((layS s.heap vs).push (seqObj "list" vs.toArray 0)).get? (s.heap.objs.size + 1) = some (seqObj "list" vs.toArray 0) := by
    rw [← sz]
    exact Heap.get?_push_size _ rfl
  obtain ⟨fs, hf⟩ := ht _ kt
  refine Calls.call_function_entry kind_sorted plain_sorted entry_sorted (args_sorted1 _) ?_
  unfold Builtin.«sorted»
  refine wpAny_bind (m := checkCount "sorted" 1 1 _) (wpAny_pure (wpAny_bind (collectT g gc gd gz (wpAny_bind (wpAny_newList ?_)))))
  show wpAny _ _ _ _ _ { s with heap := (layS s.heap vs).push (seqObj "list" vs.toArray 0) }
  rw [show ({ s with heap := layS s.heap vs } : Shared).heap.objs.size = s.heap.objs.size + 1 from sz]
  exact wpAny_bind (wpAny_holding (wpAny_call_entry slot_list_sort ⟨_, top, rfl⟩ entry_list_sort (G.list_sort_tups (s := { s with heap := (layS s.heap vs).push (seqObj "list" vs.toArray 0) }) top hf (hk _ kt) gz fun st' h1 h2 _ => ⟨_, rfl, wpAny_pure ⟨_, rfl, q _ kt st' h1 h2⟩⟩) (args_list_sort _)))
end
section
variable {X : Cx}
def rSortTI (K : PySem.W.Frag) : List V → Hp → VK → Prop := fun vs H Q => ∃ (α : Type) (a : Addr) (zs : List α) (gv : α → V) (gs : α → Str), vs = [V.ref a] ∧ SqL K H a (zs.map gv) ∧ (∀ z ∈ zs, ∃ t i, gv z = V.ref t ∧ SqT K H t [.str (gs z), .int i]) ∧
  ∀ (ys : List α) (p : Addr), ys.Perm zs → sortedS (ys.map gs) = true → H p = none → Q (.ref p) (upd H p (.lst (ys.map gv)))
theorem cr_sortTI : CallR X (.builtin "sorted") (rSortTI X.K) := by
  intro pins s σ H vs us Q I r h
  obtain ⟨α, a, zs, gv, gs, rfl, hs, hx, q⟩ := h
  obtain ⟨its, rv, hl, hz⟩ := I.list hs
  rw [Vals.ref1 r]
  obtain ⟨e1, e2⟩ := bkV_refs rv fun x m => by
    obtain ⟨z, hz, rfl⟩ := List.mem_map.mp m
    obtain ⟨t, i, e, _⟩ := hx z hz
    exact ⟨t, e⟩
  have key : ∀ z ∈ zs, ∃ t o i tk uk n, gv z = V.ref t ∧ s.heap.get? t = some o ∧ o.cls = .type "tuple" ∧ o.data = .seq #[Value.str (gs z) tk, Value.int i uk] n := fun z hz => by
    obtain ⟨t, i, e, ht⟩ := hx z hz
    obtain ⟨its2, r2, ⟨o, ho, hc, n, hd⟩, _⟩ := I.tuple ht
    obtain ⟨u1, u2, rfl, ri, rj⟩ := vals2 r2
    obtain ⟨t1, rfl⟩ := ri
    obtain ⟨t2, rfl⟩ := rj
    exact ⟨t, o, i, t1, t2, n, e, ho, hc, hd⟩
  have back : ∀ v ∈ its, ∃ z ∈ zs, gv z = bkV v := fun v hv => by
    have hm : bkV v ∈ zs.map gv := by
      rw [e1]
      exact List.mem_map.mpr ⟨_, hv, rfl⟩
    obtain ⟨z, hz, e⟩ := List.mem_map.mp hm
    exact ⟨z, hz, e⟩
  have kv : ∀ v ∈ its, ∀ z ∈ zs, gv z = bkV v → ∃ i, G.tupKeyC s.heap shTI v = some [Sum.inr (gs z).cps.toList, Sum.inl i] := fun v hv z hz e => by
    obtain ⟨t, o, i, tk, uk, n, e3, ho, hc, hd⟩ := key z hz
    obtain ⟨t', rfl⟩ := e2 v hv
    rw [e3] at e
    cases e
    exact ⟨i, keyTI ho hc hd⟩
  obtain ⟨fs, ht⟩ := firstsTI (h := s.heap) (vs := its) fun v hv => by
    obtain ⟨z, hz, e⟩ := back v hv
    obtain ⟨t, o, i, tk, uk, n, e3, ho, hc, hd⟩ := key z hz
    obtain ⟨t', rfl⟩ := e2 v hv
    rw [e3] at e
    cases e
    exact ⟨.str (gs z) tk, t, o, _, n, rfl, ho, hc, hd, rfl, (fun z => nomatch z), fun _ => ⟨_, _, rfl⟩⟩
  refine G.sorted_tups (shape := shTI) (fs := fs) hl.isList ht (fun v hv => ?_) (by rw [← rv.length]; exact hz) fun st' hp hso _ => ?_
  · obtain ⟨z, hz, e⟩ := back v hv
    obtain ⟨i, e⟩ := kv v hv z hz e
    exact ⟨_, e⟩
  · generalize arrOf st' = arr at hp hso
    have hl2 : arr.toList.Perm (its.zip its) := by rw [← pairsOf_toList]; exact Array.perm_iff_toList_perm.mp hp
    have hmem : ∀ p, p ∈ arr.toList → p.1 = p.2 ∧ p.1 ∈ its := fun p hp' => mem_zip_self (hl2.mem_iff.mp hp')
    have e3 : (arr.map (·.2)).toList = arr.toList.map (·.1) := by
      rw [Array.toList_map]
      exact List.map_congr_left fun p hp' => (hmem p hp').1.symm
    have h1 : (arr.map (·.2)).toList.Perm its := by
      rw [e3]
      have := hl2.map Prod.fst
      rwa [List.map_fst_zip (Nat.le_refl _)] at this
    obtain ⟨ys, py, ey⟩ := perm_of_map (h1.map bkV) zs e1.symm
    have h2 : sortedS (ys.map gs) = true := by
      refine sortedS_of_pairwise _ ?_
      rw [List.pairwise_iff_getElem]
      intro i j hi hj hij
      have hli : ys.length = arr.size := by
        have := congrArg List.length ey
        simpa using this.symm
      have hi' : i < arr.size := by rw [← hli]; simpa using hi
      have hj' : j < arr.size := by rw [← hli]; simpa using hj
      have gt : ∀ k (hk : k < arr.size) (hk2 : k < ys.length), ∃ n, KK (G.tupKindC s.heap shTI) arr k = [Sum.inr (gs ys[k]).cps.toList, Sum.inl n] := fun k hk hk2 => by
        have hm := hmem arr[k] (by simp)
        have e4 : gv ys[k] = bkV arr[k].1 := by
          rw [e3, List.map_map] at ey
          have := congrArg (fun l => l[k]?) ey
          simp only [List.getElem?_map, List.getElem?_eq_getElem hk2, Array.getElem?_toList, Array.getElem?_eq_getElem hk, Option.map_some, Function.comp] at this
          exact (Option.some.inj this).symm
        obtain ⟨n, e5⟩ := kv _ hm.2 ys[k] (py.mem_iff.mp (List.getElem_mem hk2)) e4
        refine ⟨n, ?_⟩
        unfold KK
        rw [Array.getElem?_eq_getElem hk]
        show (G.tupKeyC s.heap shTI arr[k].1).getD [] = _
        rw [e5]
        rfl
      have h1 := hso i j (Nat.le_of_lt hij) (by rw [← hp.size_eq]; exact hj')
      obtain ⟨n1, q1⟩ := gt i hi' (by rw [hli]; exact hi')
      obtain ⟨n2, q2⟩ := gt j hj' (by rw [hli]; exact hj')
      rw [q1, q2] at h1
      have h3 := (lex_false (O := itemOrd).mp h1).1
      simp only [List.getElem_map]
      rw [ltCps_eq]
      exact h3
    generalize arr.map (·.2) = out at h1 ey
    obtain ⟨ep, he'⟩ := PyProof.Rows.sortedAll_at s.heap its out
    have h3 : ∀ u ∈ out.toList, ∃ a, u = Value.ref a := fun u hu => e2 u (h1.mem_iff.mp hu)
    have hlen : (out.toList.map bkV).length ≤ sizeLine := by
      rw [List.length_map, h1.length_eq, ← rv.length]
      exact hz
    refine ⟨.ref _, upd H (s.heap.objs.size + 1) (.lst (ys.map gv)), ?_, rfl, q _ _ py h2 (I.hok.fresh (Nat.le_succ _))⟩
    rw [← ey]
    exact I.laid (t' := s.toks) (fun _ _ => PyProof.Rows.sortedAll_old) (Nat.le_succ _) ⟨hlen, out.toList, ep, bkV_vals h3, he'⟩
def rSortTT (K : PySem.W.Frag) : List V → Hp → VK → Prop := fun vs H Q => ∃ (α : Type) (a : Addr) (zs : List α) (gv : α → V) (gs : α → Str), vs = [V.ref a] ∧ SqT K H a (zs.map gv) ∧ (∀ z ∈ zs, ∃ t i, gv z = V.ref t ∧ SqT K H t [.str (gs z), .int i]) ∧
  ∀ (ys : List α) (p : Addr), ys.Perm zs → sortedS (ys.map gs) = true → H p = none → Q (.ref p) (upd H p (.lst (ys.map gv)))
theorem cr_sortTT : CallR X (.builtin "sorted") (rSortTT X.K) := by
  intro pins s σ H vs us Q I r h
  obtain ⟨α, a, zs, gv, gs, rfl, hs, hx, q⟩ := h
  obtain ⟨its, rv, ⟨ob, hob, hcl, nn, hdt⟩, hz⟩ := I.tuple hs
  rw [Vals.ref1 r]
  obtain ⟨e1, e2⟩ := bkV_refs rv fun x m => by
    obtain ⟨z, hz, rfl⟩ := List.mem_map.mp m
    obtain ⟨t, i, e, _⟩ := hx z hz
    exact ⟨t, e⟩
  have key : ∀ z ∈ zs, ∃ t o i tk uk n, gv z = V.ref t ∧ s.heap.get? t = some o ∧ o.cls = .type "tuple" ∧ o.data = .seq #[Value.str (gs z) tk, Value.int i uk] n := fun z hz => by
    obtain ⟨t, i, e, ht⟩ := hx z hz
    obtain ⟨its2, r2, ⟨o, ho, hc, n, hd⟩, _⟩ := I.tuple ht
    obtain ⟨u1, u2, rfl, ri, rj⟩ := vals2 r2
    obtain ⟨t1, rfl⟩ := ri
    obtain ⟨t2, rfl⟩ := rj
    exact ⟨t, o, i, t1, t2, n, e, ho, hc, hd⟩
  have back : ∀ v ∈ its, ∃ z ∈ zs, gv z = bkV v := fun v hv => by
    have hm : bkV v ∈ zs.map gv := by
      rw [e1]
      exact List.mem_map.mpr ⟨_, hv, rfl⟩
    obtain ⟨z, hz, e⟩ := List.mem_map.mp hm
    exact ⟨z, hz, e⟩
  have kv : ∀ h2, G.KeepsTups s.heap h2 → ∀ v ∈ its, ∀ z ∈ zs, gv z = bkV v → ∃ i, G.tupKeyC h2 shTI v = some [Sum.inr (gs z).cps.toList, Sum.inl i] := fun h2 kt v hv z hz e => by
    obtain ⟨t, o, i, tk, uk, n, e3, ho, hc, hd⟩ := key z hz
    obtain ⟨t', rfl⟩ := e2 v hv
    rw [e3] at e
    cases e
    exact ⟨i, keyTI (kt _ _ ho hc) hc hd⟩
  have ht : ∀ h2, G.KeepsTups s.heap h2 → ∃ fs, TupsOf h2 shTI its fs := fun h2 kt => firstsTI (h := h2) (vs := its) fun v hv => by
    obtain ⟨z, hz, e⟩ := back v hv
    obtain ⟨t, o, i, tk, uk, n, e3, ho, hc, hd⟩ := key z hz
    obtain ⟨t', rfl⟩ := e2 v hv
    rw [e3] at e
    cases e
    exact ⟨.str (gs z) tk, t, o, _, n, rfl, kt _ _ ho hc, hc, hd, rfl, (fun z => nomatch z), fun _ => ⟨_, _, rfl⟩⟩
  refine sorted_tupsT (shape := shTI) hob hcl hdt ht (fun h2 kt v hv => ?_) (by rw [← rv.length]; exact hz) fun h2 kt st' hp hso => ?_
  · obtain ⟨z, hz, e⟩ := back v hv
    obtain ⟨i, e⟩ := kv h2 kt v hv z hz e
    exact ⟨_, e⟩
  · generalize arrOf st' = arr at hp hso
    have hl2 : arr.toList.Perm (its.zip its) := by rw [← pairsOf_toList]; exact Array.perm_iff_toList_perm.mp hp
    have hmem : ∀ p, p ∈ arr.toList → p.1 = p.2 ∧ p.1 ∈ its := fun p hp' => mem_zip_self (hl2.mem_iff.mp hp')
    have e3 : (arr.map (·.2)).toList = arr.toList.map (·.1) := by
      rw [Array.toList_map]
      exact List.map_congr_left fun p hp' => (hmem p hp').1.symm
    have h1 : (arr.map (·.2)).toList.Perm its := by
      rw [e3]
      have := hl2.map Prod.fst
      rwa [List.map_fst_zip (Nat.le_refl _)] at this
    obtain ⟨ys, py, ey⟩ := perm_of_map (h1.map bkV) zs e1.symm
    have hs2 : sortedS (ys.map gs) = true := by
      refine sortedS_of_pairwise _ ?_
      rw [List.pairwise_iff_getElem]
      intro i j hi hj hij
      have hli : ys.length = arr.size := by
        have := congrArg List.length ey
        simpa using this.symm
      have hi' : i < arr.size := by rw [← hli]; simpa using hi
      have hj' : j < arr.size := by rw [← hli]; simpa using hj
      have gt : ∀ k (hk : k < arr.size) (hk2 : k < ys.length), ∃ n, KK (G.tupKindC h2 shTI) arr k = [Sum.inr (gs ys[k]).cps.toList, Sum.inl n] := fun k hk hk2 => by
        have hm := hmem arr[k] (by simp)
        have e4 : gv ys[k] = bkV arr[k].1 := by
          rw [e3, List.map_map] at ey
          have := congrArg (fun l => l[k]?) ey
          simp only [List.getElem?_map, List.getElem?_eq_getElem hk2, Array.getElem?_toList, Array.getElem?_eq_getElem hk, Option.map_some, Function.comp] at this
          exact (Option.some.inj this).symm
        obtain ⟨n, e5⟩ := kv h2 kt _ hm.2 ys[k] (py.mem_iff.mp (List.getElem_mem hk2)) e4
        refine ⟨n, ?_⟩
        unfold KK
        rw [Array.getElem?_eq_getElem hk]
        show (G.tupKeyC h2 shTI arr[k].1).getD [] = _
        rw [e5]
        rfl
      have h1 := hso i j (Nat.le_of_lt hij) (by rw [← hp.size_eq]; exact hj')
      obtain ⟨n1, q1⟩ := gt i hi' (by rw [hli]; exact hi')
      obtain ⟨n2, q2⟩ := gt j hj' (by rw [hli]; exact hj')
      rw [q1, q2] at h1
      have h3 := (lex_false (O := itemOrd).mp h1).1
      simp only [List.getElem_map]
      rw [ltCps_eq]
      exact h3
    generalize arr.map (·.2) = out at h1 ey
    obtain ⟨ep, he'⟩ := PyProof.Rows.sortedAll_at s.heap its out
    have h3 : ∀ u ∈ out.toList, ∃ a, u = Value.ref a := fun u hu => e2 u (h1.mem_iff.mp hu)
    have hlen : (out.toList.map bkV).length ≤ sizeLine := by
      rw [List.length_map, h1.length_eq, ← rv.length]
      exact hz
    refine ⟨.ref _, upd H (s.heap.objs.size + 1) (.lst (ys.map gv)), ?_, rfl, q _ _ py hs2 (I.hok.fresh (Nat.le_succ _))⟩
    rw [← ey]
    exact I.laid (t' := s.toks) (fun _ _ => PyProof.Rows.sortedAll_old) (Nat.le_succ _) ⟨hlen, out.toList, ep, bkV_vals h3, he'⟩
def rSortII (K : PySem.W.Frag) : List V → Hp → VK → Prop := fun vs H Q => ∃ (α : Type) (a : Addr) (zs : List α) (gv : α → V) (gs : α → Int), vs = [V.ref a] ∧ SqL K H a (zs.map gv) ∧ (∀ z ∈ zs, ∃ t i, gv z = V.ref t ∧ SqT K H t [.int (gs z), .int i]) ∧
  ∀ (ys : List α) (p : Addr), ys.Perm zs → H p = none → Q (.ref p) (upd H p (.lst (ys.map gv)))
theorem cr_sortII : CallR X (.builtin "sorted") (rSortII X.K) := by
  intro pins s σ H vs us Q I r h
  obtain ⟨α, a, zs, gv, gs, rfl, hs, hx, q⟩ := h
  obtain ⟨its, rv, hl, hz⟩ := I.list hs
  rw [Vals.ref1 r]
  obtain ⟨e1, e2⟩ := bkV_refs rv fun x m => by
    obtain ⟨z, hz, rfl⟩ := List.mem_map.mp m
    obtain ⟨t, i, e, _⟩ := hx z hz
    exact ⟨t, e⟩
  have key : ∀ z ∈ zs, ∃ t o i tk uk n, gv z = V.ref t ∧ s.heap.get? t = some o ∧ o.cls = .type "tuple" ∧ o.data = .seq #[Value.int (gs z) tk, Value.int i uk] n := fun z hz => by
    obtain ⟨t, i, e, ht⟩ := hx z hz
    obtain ⟨its2, r2, ⟨o, ho, hc, n, hd⟩, _⟩ := I.tuple ht
    obtain ⟨u1, u2, rfl, ri, rj⟩ := vals2 r2
    obtain ⟨t1, rfl⟩ := ri
    obtain ⟨t2, rfl⟩ := rj
    exact ⟨t, o, i, t1, t2, n, e, ho, hc, hd⟩
  have back : ∀ v ∈ its, ∃ z ∈ zs, gv z = bkV v := fun v hv => by
    have hm : bkV v ∈ zs.map gv := by
      rw [e1]
      exact List.mem_map.mpr ⟨_, hv, rfl⟩
    obtain ⟨z, hz, e⟩ := List.mem_map.mp hm
    exact ⟨z, hz, e⟩
  have kv : ∀ v ∈ its, ∀ z ∈ zs, gv z = bkV v → ∃ i, G.tupKeyC s.heap shII v = some [Sum.inl (gs z), Sum.inl i] := fun v hv z hz e => by
    obtain ⟨t, o, i, tk, uk, n, e3, ho, hc, hd⟩ := key z hz
    obtain ⟨t', rfl⟩ := e2 v hv
    rw [e3] at e
    cases e
    exact ⟨i, keyII ho hc hd⟩
  obtain ⟨fs, ht⟩ := firstsII (h := s.heap) (vs := its) fun v hv => by
    obtain ⟨z, hz, e⟩ := back v hv
    obtain ⟨t, o, i, tk, uk, n, e3, ho, hc, hd⟩ := key z hz
    obtain ⟨t', rfl⟩ := e2 v hv
    rw [e3] at e
    cases e
    exact ⟨.int (gs z) tk, t, o, _, n, rfl, ho, hc, hd, rfl, (fun _ => ⟨_, _, rfl⟩), fun z => nomatch z⟩
  refine G.sorted_tups (shape := shII) (fs := fs) hl.isList ht (fun v hv => ?_) (by rw [← rv.length]; exact hz) fun st' hp hso _ => ?_
  · obtain ⟨z, hz, e⟩ := back v hv
    obtain ⟨i, e⟩ := kv v hv z hz e
    exact ⟨_, e⟩
  · generalize arrOf st' = arr at hp hso
    have hl2 : arr.toList.Perm (its.zip its) := by rw [← pairsOf_toList]; exact Array.perm_iff_toList_perm.mp hp
    have hmem : ∀ p, p ∈ arr.toList → p.1 = p.2 ∧ p.1 ∈ its := fun p hp' => mem_zip_self (hl2.mem_iff.mp hp')
    have e3 : (arr.map (·.2)).toList = arr.toList.map (·.1) := by
      rw [Array.toList_map]
      exact List.map_congr_left fun p hp' => (hmem p hp').1.symm
    have h1 : (arr.map (·.2)).toList.Perm its := by
      rw [e3]
      have := hl2.map Prod.fst
      rwa [List.map_fst_zip (Nat.le_refl _)] at this
    obtain ⟨ys, py, ey⟩ := perm_of_map (h1.map bkV) zs e1.symm
    generalize arr.map (·.2) = out at h1 ey
    obtain ⟨ep, he'⟩ := PyProof.Rows.sortedAll_at s.heap its out
    have h3 : ∀ u ∈ out.toList, ∃ a, u = Value.ref a := fun u hu => e2 u (h1.mem_iff.mp hu)
    have hlen : (out.toList.map bkV).length ≤ sizeLine := by
      rw [List.length_map, h1.length_eq, ← rv.length]
      exact hz
    refine ⟨.ref _, upd H (s.heap.objs.size + 1) (.lst (ys.map gv)), ?_, rfl, q _ _ py (I.hok.fresh (Nat.le_succ _))⟩
    rw [← ey]
    exact I.laid (t' := s.toks) (fun _ _ => PyProof.Rows.sortedAll_old) (Nat.le_succ _) ⟨hlen, out.toList, ep, bkV_vals h3, he'⟩
def stAt (x y : Str) (i : Nat) : Str := if i = 0 then x else y
theorem two_at {a b : Value} {i : Nat} {v : Value} (h : (#[a, b] : Array Value)[i]? = some v) : (i = 0 ∧ v = a) ∨ (i = 1 ∧ v = b) := by
  match i with
  | 0 => exact .inl ⟨rfl, (by simpa using h.symm)⟩
  | 1 => exact .inr ⟨rfl, (by simpa using h.symm)⟩
  | n + 2 => simp at h
theorem two_str {x y : Str} {t u : Tok} {i : Nat} {v : Value} (h : (#[Value.str x t, Value.str y u] : Array Value)[i]? = some v) : ∃ k, v = .str (stAt x y i) k := by
  rcases two_at h with ⟨rfl, rfl⟩ | ⟨rfl, rfl⟩
  · exact ⟨t, rfl⟩
  · exact ⟨u, rfl⟩
section
variable {prog : Program} {w : World} {A : Around} {E : Value → Shared → Prop} {s : Shared}
theorem max_two_str {x y : Str} {t u : Tok} {Q : Value → Shared → Prop} (hh : A.handled = none)
    (h : ∀ h' tk, (∀ c o, s.heap.get? c = some o → h'.get? c = some o) → Q (if x.cps.toList < y.cps.toList then .str y u else .str x t) { s with heap := h', toks := tk }) :
    wpAny (model prog w) A (call (.builtin "max") [.str x t, .str y u]) Q E s := by
  have hT : (s.heap.push { cls := .type "tuple", data := .seq #[.str x t, .str y u] }).IsTuple s.heap.objs.size #[.str x t, .str y u] := ⟨_, Heap.get?_push_size _ rfl, rfl, 0, rfl⟩
  refine call_max_two (wpAny_pyIter_tuple hT ?_)
  have hsz : (s.heap.push { cls := .type "tuple", data := .seq #[.str x t, .str y u] }).objs.size = s.heap.objs.size + 1 := Heap.size_push ..
  refine ⟨_, [_, s.heap.objs.size], [_], _, _, _, fun i j => decide ((stAt x y j).cps.toList < (stAt x y i).cps.toList), rfl, Walks.tuple (A := A.in1) hh _ s.heap.objs.size (by rw [hsz]; exact Nat.ne_of_lt (Nat.lt_succ_self _)) #[.str x t, .str y u],
    ⟨⟨_, Heap.get?_push_size _ rfl, rfl, rfl⟩, hT.push _⟩, fun c hc => ?_, by simp, fun i j vi vj s Q E hi hj h => ?_, fun v h' tk hP hk => ?_⟩
  · show c < ((s.heap.push _).push _).objs.size
    rw [Heap.size_push, hsz]
    rcases List.mem_cons.mp hc with rfl | hc
    · rw [hsz]; exact Nat.lt_succ_self _
    · rcases List.mem_cons.mp hc with rfl | hc
      · exact Nat.lt_succ_of_lt (Nat.lt_succ_self _)
      · cases hc
  · obtain ⟨t, rfl⟩ := two_str hi
    obtain ⟨u, rfl⟩ := two_str hj
    exact richCompare_gives (op := .Gt) (typeIs_str s _ t) (typeIs_str s _ u) F.slot_str_gt F.entry_str_gt (F.args_str_gt_2 _ _) (gives_str_gt _ _ t u) (fun x => nomatch x) h
  · have hold : ∀ c o, s.heap.get? c = some o → h'.get? c = some o := fun c o e => by
      refine hk c o (fun hm => ?_) (Heap.get?_push_of_some _ (Heap.get?_push_of_some _ e))
      rcases List.mem_cons.mp hm with e1 | hm
      · have := Heap.lt_size e; rw [e1, hsz] at this; exact Nat.lt_irrefl _ (Nat.lt_of_succ_lt this)
      · cases hm
    have := h h' tk hold
    have hv : v = if x.cps.toList < y.cps.toList then Value.str y u else .str x t := by
      have hP : (#[Value.str x t, Value.str y u] : Array Value)[if decide (x.cps.toList < y.cps.toList) = true then 1 else 0]? = some v := hP
      by_cases hc : x.cps.toList < y.cps.toList
      · rw [decide_eq_true hc, if_pos rfl] at hP
        rw [if_pos hc]
        exact (Option.some.inj hP).symm
      · rw [decide_eq_false hc, if_neg Bool.false_ne_true] at hP
        rw [if_neg hc]
        exact (Option.some.inj hP).symm
    rw [hv]; exact this
theorem min_two_str {x y : Str} {t u : Tok} {Q : Value → Shared → Prop} (hh : A.handled = none)
    (h : ∀ h' tk, (∀ c o, s.heap.get? c = some o → h'.get? c = some o) → Q (if y.cps.toList < x.cps.toList then .str y u else .str x t) { s with heap := h', toks := tk }) :
    wpAny (model prog w) A (call (.builtin "min") [.str x t, .str y u]) Q E s := by
  have hT : (s.heap.push { cls := .type "tuple", data := .seq #[.str x t, .str y u] }).IsTuple s.heap.objs.size #[.str x t, .str y u] := ⟨_, Heap.get?_push_size _ rfl, rfl, 0, rfl⟩
  refine call_min_two (wpAny_pyIter_tuple hT ?_)
  have hsz : (s.heap.push { cls := .type "tuple", data := .seq #[.str x t, .str y u] }).objs.size = s.heap.objs.size + 1 := Heap.size_push ..
  refine ⟨_, [_, s.heap.objs.size], [_], _, _, _, fun i j => decide ((stAt x y i).cps.toList < (stAt x y j).cps.toList), rfl, Walks.tuple (A := A.in1) hh _ s.heap.objs.size (by rw [hsz]; exact Nat.ne_of_lt (Nat.lt_succ_self _)) #[.str x t, .str y u],
    ⟨⟨_, Heap.get?_push_size _ rfl, rfl, rfl⟩, hT.push _⟩, fun c hc => ?_, by simp, fun i j vi vj s Q E hi hj h => ?_, fun v h' tk hP hk => ?_⟩
  · show c < ((s.heap.push _).push _).objs.size
    rw [Heap.size_push, hsz]
    rcases List.mem_cons.mp hc with rfl | hc
    · rw [hsz]; exact Nat.lt_succ_self _
    · rcases List.mem_cons.mp hc with rfl | hc
      · exact Nat.lt_succ_of_lt (Nat.lt_succ_self _)
      · cases hc
  · obtain ⟨t, rfl⟩ := two_str hi
    obtain ⟨u, rfl⟩ := two_str hj
    exact richCompare_gives (op := .Lt) (typeIs_str s _ t) (typeIs_str s _ u) F.slot_str_lt F.entry_str_lt (F.args_str_lt_2 _ _) (gives_str_lt _ _ t u) (fun x => nomatch x) h
  · have hold : ∀ c o, s.heap.get? c = some o → h'.get? c = some o := fun c o e => by
      refine hk c o (fun hm => ?_) (Heap.get?_push_of_some _ (Heap.get?_push_of_some _ e))
      rcases List.mem_cons.mp hm with e1 | hm
      · have := Heap.lt_size e; rw [e1, hsz] at this; exact Nat.lt_irrefl _ (Nat.lt_of_succ_lt this)
      · cases hm
    have := h h' tk hold
    have hv : v = if y.cps.toList < x.cps.toList then Value.str y u else .str x t := by
      have hP : (#[Value.str x t, Value.str y u] : Array Value)[if decide (y.cps.toList < x.cps.toList) = true then 1 else 0]? = some v := hP
      by_cases hc : y.cps.toList < x.cps.toList
      · rw [decide_eq_true hc, if_pos rfl] at hP
        rw [if_pos hc]
        exact (Option.some.inj hP).symm
      · rw [decide_eq_false hc, if_neg Bool.false_ne_true] at hP
        rw [if_neg hc]
        exact (Option.some.inj hP).symm
    rw [hv]; exact this
end
theorem call_max2S (hc : X.calm = true) : CallR X (.builtin "max") (fun xs H Q => ∃ x y, xs = [.str x, .str y] ∧ Q (.str (if x.cps.toList < y.cps.toList then y else x)) H) := by
  intro pins s σ H xs us Q I r h
  obtain ⟨x, y, rfl, q⟩ := h
  obtain ⟨u, w', rfl, ⟨t, rfl⟩, ⟨t', rfl⟩⟩ := vals2 r
  refine max_two_str (I.ok.hd hc) fun h' tk k => ⟨_, H, I.kept k, ?_, q⟩
  by_cases hj : x.cps.toList < y.cps.toList
  · rw [if_pos hj, if_pos hj]; exact ⟨_, rfl⟩
  · rw [if_neg hj, if_neg hj]; exact ⟨_, rfl⟩
theorem call_min2S (hc : X.calm = true) : CallR X (.builtin "min") (fun xs H Q => ∃ x y, xs = [.str x, .str y] ∧ Q (.str (if y.cps.toList < x.cps.toList then y else x)) H) := by
  intro pins s σ H xs us Q I r h
  obtain ⟨x, y, rfl, q⟩ := h
  obtain ⟨u, w', rfl, ⟨t, rfl⟩, ⟨t', rfl⟩⟩ := vals2 r
  refine min_two_str (I.ok.hd hc) fun h' tk k => ⟨_, H, I.kept k, ?_, q⟩
  by_cases hj : y.cps.toList < x.cps.toList
  · rw [if_pos hj, if_pos hj]; exact ⟨_, rfl⟩
  · rw [if_neg hj, if_neg hj]; exact ⟨_, rfl⟩
end
end LC

namespace PySem
set_option maxHeartbeats 1000000 in
theorem lcEnumNew {v : Value} {o : Obj} {H : Heap → Prop} (B : Begins v o H) : Meets (Builtin.«enumerate.__new__» ⟨[.type "enumerate", v], []⟩) (fun _ R s => H s.heap ∧ R (.ok (.ret (.ref (s.heap.push o).objs.size))) { s with heap := (s.heap.push o).push { cls := .type "enumerate", data := .fields #[.none, .bool false, .ref s.heap.objs.size, rawInt 0, .none, .none] } }) := by
  refine .of_wp fun P0 w0 A0 R0 s0 h0 => ?_
  obtain ⟨hp, g, d, tk, os⟩ := s0
  obtain ⟨hB, hR⟩ := h0
  have hsb := sub_enumerate
  have go : ∀ {A1 : Around} {E1 : Value → Shared → Prop} {Q1 : Value → Shared → Prop}, Q1 (.ref hp.objs.size) ⟨hp.push o, g, d, tk, os⟩ → wpAny (model P0 w0) A1 (pyIter v) Q1 E1 ⟨hp, g, d, tk, os⟩ := fun q => B.iter P0 w0 _ _ ⟨hp, g, d, tk, os⟩ _ hB q
  wp_walk using go
  refine wpAny_stack_any fun stk => wpAny_pure ?_; split
  · rename_i cc _ _ _ _ _
    cases (cc == Value.type "enumerate") <;> (wp_walk using go; exact ⟨_, rfl, hR⟩)
  · wp_walk using go; exact ⟨_, rfl, hR⟩
theorem lcEnumCall {P0 : Program} {w0 : World} {A0 : Around} {E0 : Value → Shared → Prop} {s0 : Shared} {v : Value} {o : Obj} {H : Heap → Prop} {Q0 : Value → Shared → Prop} (B : Begins v o H) (hB : H s0.heap) (hQ : ∀ h1, IsEnum h1 (s0.heap.objs.size + 1) s0.heap.objs.size 0 .none → h1.get? s0.heap.objs.size = some o → (∀ b ob, s0.heap.get? b = some ob → h1.get? b = some ob) → Q0 (.ref (s0.heap.objs.size + 1)) { s0 with heap := h1 }) : wpAny (model P0 w0) A0 (call (.type "enumerate") [v]) Q0 E0 s0 := by
  refine callType_new F.called_enumerate (by decide) (F.typeCall_enumerate_1 _) (F.newCall_enumerate_1 _) (fun obj => F.args_object_init_2 obj _) F.entry_enumerate_new (lcEnumNew B) ⟨hB, ?_⟩
  have sz : (s0.heap.push o).objs.size = s0.heap.objs.size + 1 := Heap.size_push ..
  show _ ∧ _
  rw [sz]
  have isE : IsEnum ((s0.heap.push o).push { cls := .type "enumerate", data := .fields #[.none, .bool false, .ref s0.heap.objs.size, rawInt 0, .none, .none] }) (s0.heap.objs.size + 1) s0.heap.objs.size 0 .none := by
    have q := Heap.get?_push_size (s0.heap.push o) (o := { cls := .type "enumerate", data := .fields #[.none, .bool false, .ref s0.heap.objs.size, rawInt 0, .none, .none] }) rfl
    rw [sz] at q; exact q
  exact ⟨⟨_, isE, rfl⟩, hQ _ isE (Heap.get?_push_of_some _ (Heap.get?_push_size _ B.free)) fun b ob x => Heap.get?_push_of_some _ (Heap.get?_push_of_some _ x)⟩
end PySem
namespace L2
open PySem PySem.Spec PyProof.Rows
theorem drawsEnd {P : Program} {w : World} {A : Around} (hh : A.handled = none) (it a : Addr) (items : Array Value) (i : Nat) (hi : items.size ≤ i) : Draws P w A it [it, a] i (fun _ _ => False) (fun j h => j = i ∧ h.IsTupleIter it a j ∧ h.IsTuple a items) where
  live := fun _ _ st => let ⟨o, ho, _⟩ := st.2.1; ⟨o, ho⟩
  frame := fun _ _ _ st hk => ⟨st.1, st.2.1.at fun o z => hk it List.mem_cons_self o z, st.2.2.at fun o z => hk a (List.mem_cons_of_mem _ List.mem_cons_self) o z⟩
  item := fun j s Q E hj st _ => absurd st.1 (Nat.ne_of_lt hj)
  done := fun s Q E st hE => wpAny_nextOf_tuple_end hh st.2.1 st.2.2 (Array.getElem?_eq_none hi) hE
def IteT (K : PySem.W.Frag) (a : Addr) : It :=
  ⟨fun i H => ∃ (xs : List V) (x : V), SqT K H a xs ∧ xs[i]? = some x, fun i H v H' => ∃ T x, v = .ref T ∧ H T = none ∧ H' = upd H T (.tup [.int (i : Nat), x]) ∧ ∀ xs, SqT K H a xs → xs[i]? = some x, fun i H => ∃ xs : List V, SqT K H a xs ∧ xs.length ≤ i⟩
theorem turnEnumT {P : Program} {w : World} {K : PySem.W.Frag} {elts : List Expr} {kk : Nat} {tpos : Pos} (a e it : Addr) :
    Turn P w K (.Tuple elts kk tpos) (IteT K a) [e, it] e (fun i h => (∃ old, IsEnum h e it ((i : Nat) : Int) old) ∧ h.IsTupleIter it a i ∧ e ≠ it ∧ a ≠ it ∧ e ≠ a) where
  mem := List.mem_cons_self
  obj := fun i h st b hb => by
    obtain ⟨⟨old, he⟩, ⟨o, ho, hc, hd⟩, _⟩ := st
    rcases List.mem_cons.mp hb with z | z
    · rw [z]
      exact ⟨_, he, fun v q => nomatch q⟩
    · rw [List.mem_singleton.mp z]
      exact ⟨o, ho, fun v q => by rw [hd] at q; cases q⟩
  keep := fun i h h' st k => let ⟨⟨old, he⟩, hi, hne⟩ := st; ⟨⟨old, k e List.mem_cons_self _ he⟩, hi.at fun o q => k it (List.mem_cons_of_mem _ List.mem_cons_self) o q, hne⟩
  item := by
    intro X eP ew eK hcalm i pins s σ H E I hf st hgo
    subst eP ew eK
    obtain ⟨⟨old, he⟩, hit, hne, hai, hea⟩ := st
    obtain ⟨xs, x, hq, hx⟩ := hgo
    obtain ⟨its, rv, p, hz⟩ := I.tuple hq
    obtain ⟨u, hu, ru⟩ := rv.get hx
    have le : e < s.heap.objs.size := Heap.lt_size he
    have li : it < s.heap.objs.size := by obtain ⟨_, q, _⟩ := hit; exact Heap.lt_size q
    have hd : X.A.in1.handled = none := I.ok.hd hcalm
    have hul : i < its.toArray.size := by
      have := (List.getElem?_eq_some_iff.mp hu).1
      simpa using this
    refine wpAny_pyNext_enum_itemC (Draws.tuple hd it a hai its.toArray) he ⟨hit, p⟩ hul hne (by simp [hne, hea]) fun x1 h1 tk hP ho hst hT hsz hk => ?_
    have hx1 : x1 = u := by
      have e1 : its.toArray[i]? = some x1 := hP
      have e2 : its.toArray[i]? = some u := by simpa using hu
      rw [e2] at e1
      cases e1
      rfl
    subst hx1
    refine ⟨_, rfl, wpAny_letOwnedTupleGo_enum (s := { s with heap := h1, toks := tk + 1 }) ho fun h2 he2 sb => ?_⟩
    have hT2 : h2.get? s.heap.objs.size = some { cls := .type "tuple", data := .seq #[.int i tk, x1] } := (sb.2 _ (Nat.ne_of_gt le)).trans hT
    have newO : ObjOk X.prog X.w (upd H s.heap.objs.size (.tup [.int (i : Nat), x])) h2 s.heap.objs.size (.tup [.int (i : Nat), x]) :=
      ⟨(by decide : 2 ≤ sizeLine), [.int i tk, x1], .cons ⟨_, rfl⟩ (.cons ru .nil), ⟨_, hT2, rfl, _, rfl⟩⟩
    have I1 : Inv X pins σ (upd H s.heap.objs.size (.tup [.int (i : Nat), x])) { s with heap := h2, toks := tk + 1 } :=
      I.turnedNew (t' := tk + 1) (ch := [e, it]) (fun b ob hb q => (sb.2 b (fun z => hb (by simp [z]))).trans (hk b ob (fun z => hb (by simp [z])) (fun z => hb (by simp [z])) q)) hf (Nat.le_refl _) newO
    refine ⟨.ref s.heap.objs.size, _, I1, rfl, ⟨_, x, rfl, I.hok.fresh (Nat.le_refl _), rfl, fun ys hy => by rw [I.tuple_inj hy hq]; exact hx⟩, ⟨⟨x1, ?_⟩, hst.1.at fun o q => (sb.2 it (Ne.symm hne)).trans q, hne, hai, hea⟩, fun b hb => ?_⟩
    · have en : ((i + 1 : Nat) : Int) = (i : Int) + 1 := by omega
      rw [en]
      exact he2
    · have lb : b < s.heap.objs.size := by
        rcases List.mem_cons.mp hb with z | z
        · rw [z]
          exact le
        · rw [List.mem_singleton.mp z]
          exact li
      rw [upd_ne (Nat.ne_of_lt lb)]
      exact (hf b hb).1
  done := by
    intro X eP ew eK hcalm i pins s σ H E I hf st hstop
    subst eP ew eK
    obtain ⟨⟨old, he⟩, hit, hne, hai, hea⟩ := st
    obtain ⟨xs, hq, hx⟩ := hstop
    obtain ⟨its, rv, p, hz⟩ := I.tuple hq
    obtain ⟨f0, f1, f2, f3, f4, f5⟩ := hf it (List.mem_cons_of_mem _ List.mem_cons_self)
    have hd : X.A.in1.handled = none := I.ok.hd hcalm
    have hl : its.toArray.size ≤ i := by
      have := rv.length
      simp
      omega
    exact wpAny_pyNext_enum_endD (drawsEnd hd it a its.toArray i hl) he ⟨rfl, hit, p⟩ fun h1 eb => ⟨rfl, I.turned (t' := s.toks) (fun b o hb q => eb b o hb q) f0 f1 f3 f4 f5⟩
  self := fun A i s Q E st h => let ⟨⟨_, he⟩, _⟩ := st; wpAny_pyIter_enum he h
def iEnumA (K : PySem.W.Frag) (ta : TA) : TI := fun σ H R => ta σ H fun vs H1 => ∃ a xs, vs = [.ref a] ∧ ((SqL K H1 a xs ∧ R (Ite K a) H1) ∨ (SqT K H1 a xs ∧ R (IteT K a) H1))
theorem piEnumA {X : Cx} {e : Expr} {ta : TA} {p pos tpos : Pos} {elts : List Expr} {kk : Nat} (hg : Gl X "enumerate") (hm : X.mg "enumerate" = none) (ha : PA X [e] ta) (hs : starEach [e] X.env = [(false, eval e X.env)] := by rfl) :
    PI X (.Tuple elts kk tpos) (.Call (.Name "enumerate" p) [e] [] pos) (iEnumA X.K ta) := by
  refine ⟨fun pins s σ H R I h => Call_ (ld_blt I hg hm boot_enumerate (PyProof.Rows.callWith_type1 (thn (ha.run pos pins s σ H _ I h) fun us s1 ⟨vs, H1, I1, r1, q1⟩ => ?_) hs rfl))⟩
  obtain ⟨a, xs, ex, q1⟩ := q1
  subst ex
  cases r1 with
  | cons r rr =>
    cases rr
    cases r
    have fr : ∀ b, b ∈ [s1.heap.objs.size + 1, s1.heap.objs.size] → FpOk X pins H1 b := fun b hb => by
      have lb : s1.heap.objs.size ≤ b := by
        rcases List.mem_cons.mp hb with z | z
        · rw [z]
          exact Nat.le_add_right _ _
        · rw [List.mem_singleton.mp z]
          exact Nat.le_refl _
      exact I1.fpOk lb (I1.hok.fresh lb)
    rcases q1 with ⟨hq, q⟩ | ⟨hq, q⟩
    · obtain ⟨its, rv, p', hz⟩ := I1.list hq
      refine call_enumerate_list p'.isList fun h1 he hit hsz hk => wpAny_pyIter_enum he ?_
      exact ⟨s1.heap.objs.size + 1, [s1.heap.objs.size + 1, s1.heap.objs.size], _, _, H1, rfl, I1.kept (t' := s1.toks) hk, turn_enum a (s1.heap.objs.size + 1) s1.heap.objs.size, ⟨⟨.none, he⟩, hit, Nat.succ_ne_self _⟩, fr, q⟩
    · obtain ⟨its, rv, p', hz⟩ := I1.tuple hq
      have la : a < s1.heap.objs.size := by obtain ⟨o1, ho1, _⟩ := id p'; exact Heap.lt_size ho1
      refine lcEnumCall (begins_tuple a its.toArray) p' fun h1 he hit hk => wpAny_pyIter_enum he ?_
      exact ⟨s1.heap.objs.size + 1, [s1.heap.objs.size + 1, s1.heap.objs.size], _, _, H1, rfl, I1.kept (t' := s1.toks) hk, turnEnumT a (s1.heap.objs.size + 1) s1.heap.objs.size, ⟨⟨.none, he⟩, ⟨_, hit, rfl, rfl⟩, Nat.succ_ne_self _, Nat.ne_of_lt la, Nat.ne_of_gt (Nat.lt_succ_of_lt la)⟩, fr, q⟩
end L2

namespace L2
open PySem PySem.Spec PyProof.Rows
theorem drawsEndL {P : Program} {w : World} {A : Around} (hh : A.handled = none) (it a : Addr) (items : Array Value) (i : Nat) (hi : items.size ≤ i) : Draws P w A it [it, a] i (fun _ _ => False) (fun j h => j = i ∧ h.IsListIter it a j ∧ h.IsList a items) where
  live := fun _ _ st => let ⟨o, ho, _⟩ := st.2.1; ⟨o, ho⟩
  frame := fun _ _ _ st hk => ⟨st.1, st.2.1.at fun o z => hk it List.mem_cons_self o z, st.2.2.at fun o z => hk a (List.mem_cons_of_mem _ List.mem_cons_self) o z⟩
  item := fun j s Q E hj st _ => absurd st.1 (Nat.ne_of_lt hj)
  done := fun s Q E st hE => wpAny_nextOf_list_end hh st.2.1 st.2.2 (Array.getElem?_eq_none hi) hE
def ItzM (K : PySem.W.Frag) (a b : Addr) : It :=
  ⟨fun i H => ∃ (xs ys : List V) (x y : V), SqT K H a xs ∧ SqL K H b ys ∧ xs[i]? = some x ∧ ys[i]? = some y,
    fun i H v H' => ∃ T x y, v = .ref T ∧ H T = none ∧ H' = upd H T (.tup [x, y]) ∧ (∀ xs, SqT K H a xs → xs[i]? = some x) ∧ ∀ ys, SqL K H b ys → ys[i]? = some y,
    fun i H => ∃ xs ys : List V, SqT K H a xs ∧ SqL K H b ys ∧ (xs.length ≤ i ∨ ys.length ≤ i)⟩
structure ZSep (z TI TO i1 i2 a b : Addr) : Prop where
  s : ZipSep2 z TI TO i1 i2 [i1, a] [i2, b]
  ai : a ≠ i1
  bi : b ≠ i2
theorem turnZipM {P : Program} {w : World} {K : PySem.W.Frag} {elts : List Expr} {kk : Nat} {tpos : Pos} {a b z TI TO i1 i2 : Addr} (D : ZSep z TI TO i1 i2 a b) :
    Turn P w K (.Tuple elts kk tpos) (ItzM K a b) [z, TI, TO, i1, i2] z (fun i h => IsZip h z TI TO .none ∧ IsTupOf2 h TI (.ref i1) (.ref i2) ∧ (∃ x y, IsTupOf2 h TO x y) ∧ h.IsTupleIter i1 a i ∧ h.IsListIter i2 b i) where
  mem := List.mem_cons_self
  obj := fun i h st c hc => by
    obtain ⟨hz, hTI, ⟨x, y, hTO⟩, ⟨o1, e1, _, d1⟩, ⟨o2, e2, _, d2⟩⟩ := st
    simp only [List.mem_cons, List.not_mem_nil, or_false] at hc
    rcases hc with q | q | q | q | q
    · rw [q]; exact ⟨_, hz, fun v q => nomatch q⟩
    · rw [q]; exact ⟨_, hTI, fun v q => nomatch q⟩
    · rw [q]; exact ⟨_, hTO, fun v q => nomatch q⟩
    · rw [q]; exact ⟨o1, e1, fun v q => by rw [d1] at q; cases q⟩
    · rw [q]; exact ⟨o2, e2, fun v q => by rw [d2] at q; cases q⟩
  keep := fun i h h' st k => by
    obtain ⟨hz, hTI, ⟨x, y, hTO⟩, h1, h2⟩ := st
    exact ⟨k z (by simp) _ hz, k TI (by simp) _ hTI, ⟨x, y, k TO (by simp) _ hTO⟩, h1.at fun o q => k i1 (by simp) o q, h2.at fun o q => k i2 (by simp) o q⟩
  item := by
    intro X eP ew eK hcalm i pins s σ H E I hf st hgo
    subst eP ew eK
    obtain ⟨hz, hTI, ⟨x0, y0, hTO⟩, h1, h2⟩ := st
    obtain ⟨xs, ys, x, y, hqx, hqy, hx, hy⟩ := hgo
    obtain ⟨its, rv, p, _⟩ := I.tuple hqx
    obtain ⟨its2, rv2, p2, _⟩ := I.list hqy
    obtain ⟨u, hu, ru⟩ := rv.get hx
    obtain ⟨u2, hu2, ru2⟩ := rv2.get hy
    have hd : X.A.in1.handled = none := I.ok.hd hcalm
    have lz : z < s.heap.objs.size := Heap.lt_size hz
    have n1 : i < its.toArray.size := by simpa using (List.getElem?_eq_some_iff.mp hu).1
    have n2 : i < its2.toArray.size := by simpa using (List.getElem?_eq_some_iff.mp hu2).1
    refine wpAny_pyNext_zipD2_item D.s (Draws.tuple hd i1 a D.ai its.toArray) (Draws.list hd i2 b D.bi its2.toArray) hz hTI hTO ⟨h1, p⟩ ⟨h2, p2.isList⟩ n1 n2 fun x1 x2 h' tk hP1 hP2 z' TO' t1 t2 hT hsz hk => ?_
    have ex1 : x1 = u := by
      have e1 : its.toArray[i]? = some x1 := hP1
      have e2 : its.toArray[i]? = some u := by simpa using hu
      rw [e2] at e1
      cases e1
      rfl
    have ex2 : x2 = u2 := by
      have e1 : its2.toArray[i]? = some x2 := hP2
      have e2 : its2.toArray[i]? = some u2 := by simpa using hu2
      rw [e2] at e1
      cases e1
      rfl
    subst ex1 ex2
    refine ⟨_, rfl, wpAny_letOwnedTupleGo_zip (s := { s with heap := h', toks := tk }) z' fun h'' z'' sb => ?_⟩
    have hT2 : h''.get? s.heap.objs.size = some { cls := .type "tuple", data := .seq #[x1, x2] } := (sb.2 _ (Nat.ne_of_gt lz)).trans hT
    have newO : ObjOk X.prog X.w (upd H s.heap.objs.size (.tup [x, y])) h'' s.heap.objs.size (.tup [x, y]) :=
      ⟨(by decide : 2 ≤ sizeLine), [x1, x2], .cons ru (.cons ru2 .nil), ⟨_, hT2, rfl, _, rfl⟩⟩
    have I1 : Inv X pins σ (upd H s.heap.objs.size (.tup [x, y])) { s with heap := h'', toks := tk } :=
      I.turnedNew (t' := tk) (ch := [z, TI, TO, i1, i2]) (fun c o hb q => (sb.2 c (fun q' => hb (by simp [q']))).trans (hk c o (fun q' => hb (by simp [q'])) (fun q' => hb (by simp [q'])) (fun q' => hb (by simp [q'])) (fun q' => hb (by simp [q'])) q)) hf (Nat.le_refl _) newO
    refine ⟨.ref s.heap.objs.size, _, I1, rfl, ⟨_, x, y, rfl, I.hok.fresh (Nat.le_refl _), rfl, fun l hl => by rw [I.tuple_inj hl hqx]; exact hx, fun l hl => by rw [I.list_inj hl hqy]; exact hy⟩, ⟨z'', ?_, ⟨x1, x2, ?_⟩, ?_, ?_⟩, fun c hcm => ?_⟩
    · exact (sb.2 _ D.s.TIz).trans (hk _ _ D.s.TIz D.s.TITO D.s.TIi1 D.s.TIi2 hTI)
    · exact (sb.2 _ D.s.TOz).trans TO'
    · exact t1.1.at fun o q => (sb.2 _ (Ne.symm D.s.zi1)).trans q
    · exact t2.1.at fun o q => (sb.2 _ (Ne.symm D.s.zi2)).trans q
    · have lc : c < s.heap.objs.size := by
        simp only [List.mem_cons, List.not_mem_nil, or_false] at hcm
        rcases hcm with q | q | q | q | q
        · rw [q]; exact lz
        · rw [q]; exact Heap.lt_size hTI
        · rw [q]; exact Heap.lt_size hTO
        · rw [q]; obtain ⟨_, e1, _⟩ := h1; exact Heap.lt_size e1
        · rw [q]; obtain ⟨_, e2, _⟩ := h2; exact Heap.lt_size e2
      rw [upd_ne (Nat.ne_of_lt lc)]
      exact (hf c hcm).1
  done := by
    intro X eP ew eK hcalm i pins s σ H E I hf st hstop
    subst eP ew eK
    obtain ⟨hz, hTI, ⟨x0, y0, hTO⟩, h1, h2⟩ := st
    obtain ⟨xs, ys, hqx, hqy, hend⟩ := hstop
    obtain ⟨its, rv, p, _⟩ := I.tuple hqx
    obtain ⟨its2, rv2, p2, _⟩ := I.list hqy
    have hd : X.A.in1.handled = none := I.ok.hd hcalm
    have l1 : its.toArray.size = xs.length := by have := rv.length; simp; omega
    have l2 : its2.toArray.size = ys.length := by have := rv2.length; simp; omega
    have fin : ∀ h' tk, (∀ c o, c ≠ z → c ≠ TO → c ≠ i1 → c ≠ i2 → s.heap.get? c = some o → h'.get? c = some o) → (none : Option Value) = none ∧ Inv X pins σ H { s with heap := h', toks := tk } := fun h' tk hk => ⟨rfl, I.turnedL (t' := tk) (ch := [z, TI, TO, i1, i2]) (fun c o hb q => hk c o (fun q' => hb (by simp [q'])) (fun q' => hb (by simp [q'])) (fun q' => hb (by simp [q'])) (fun q' => hb (by simp [q'])) q) hf⟩
    by_cases c1 : xs.length ≤ i
    · by_cases c2 : ys.length ≤ i
      · exact wpAny_pyNext_zipD2_end D.s (drawsEnd hd i1 a its.toArray i (by omega)) (drawsEndL hd i2 b its2.toArray i (by omega)) hz hTI hTO ⟨rfl, h1, p⟩ ⟨rfl, h2, p2.isList⟩ (Nat.le_refl _) (Nat.le_refl _) (.inl rfl) fin
      · exact wpAny_pyNext_zipD2_end D.s (drawsEnd hd i1 a its.toArray i (by omega)) (Draws.list hd i2 b D.bi its2.toArray) hz hTI hTO ⟨rfl, h1, p⟩ ⟨h2, p2.isList⟩ (Nat.le_refl _) (by omega) (.inl rfl) fin
    · have c2 : ys.length ≤ i := hend.resolve_left c1
      exact wpAny_pyNext_zipD2_end D.s (Draws.tuple hd i1 a D.ai its.toArray) (drawsEndL hd i2 b its2.toArray i (by omega)) hz hTI hTO ⟨h1, p⟩ ⟨rfl, h2, p2.isList⟩ (by omega) (Nat.le_refl _) (.inr rfl) fin
  self := fun A i s Q E st h => wpAny_pyIter_zip st.1 h
def iZipB (K : PySem.W.Frag) (ta : TA) : TI := fun σ H R => ta σ H fun vs H1 => ∃ a b xs ys, vs = [.ref a, .ref b] ∧ ((SqL K H1 a xs ∧ SqL K H1 b ys ∧ R (Itz K a b) H1) ∨ (SqT K H1 a xs ∧ SqT K H1 b ys ∧ R (RZ.ItzT K a b) H1) ∨ (SqT K H1 a xs ∧ SqL K H1 b ys ∧ R (ItzM K a b) H1))
theorem piZipB {X : Cx} {e e2 : Expr} {ta : TA} {p pos tpos : Pos} {elts : List Expr} {kk : Nat} (hg : Gl X "zip") (hm : X.mg "zip" = none) (ha : PA X [e, e2] ta)
    (hs : starEach [e, e2] X.env = (false, eval e X.env) :: starEach [e2] X.env := by rfl) (hpl : (backTo pos (starEach [e2] X.env)).any (·.1) = false := by rfl) :
    PI X (.Tuple elts kk tpos) (.Call (.Name "zip" p) [e, e2] [] pos) (iZipB X.K ta) := by
  refine ⟨fun pins s σ H R I h => ?_⟩
  refine Call_ (ld_blt I hg hm PyProof.Rows.boot_zip (PyProof.Rows.callWith_type1 (thn (ha.run pos pins s σ H _ I h) fun us s1 ⟨vs, H1, I1, r1, q1⟩ => ?_) hs hpl))
  obtain ⟨a, b, xs, ys, ex, q1⟩ := q1
  subst ex
  cases r1 with
  | cons r rr =>
    cases rr with
    | cons r' rr =>
      cases rr
      cases r
      cases r'
      have fr : ∀ c, c ∈ [s1.heap.objs.size + 4, s1.heap.objs.size + 2, s1.heap.objs.size + 3, s1.heap.objs.size, s1.heap.objs.size + 1] → FpOk X pins H1 c := fun c hcm => by
        have lb : s1.heap.objs.size ≤ c := by
          simp only [List.mem_cons, List.not_mem_nil, or_false] at hcm
          rcases hcm with z | z | z | z | z
          · rw [z]; exact Nat.le_add_right _ _
          · rw [z]; exact Nat.le_add_right _ _
          · rw [z]; exact Nat.le_add_right _ _
          · rw [z]; exact Nat.le_refl _
          · rw [z]; exact Nat.le_add_right _ _
        exact I1.fpOk lb (I1.hok.fresh lb)
      rcases q1 with ⟨hqx, hqy, q⟩ | ⟨hqx, hqy, q⟩ | ⟨hqx, hqy, q⟩
      · obtain ⟨its, rv, p1, _⟩ := I1.list hqx
        obtain ⟨its2, rv2, p2, _⟩ := I1.list hqy
        refine call_zip_2 p1.isList p2.isList fun h' hz hTI hTO h1 h2 hsz hk => wpAny_pyIter_zip hz ?_
        exact ⟨s1.heap.objs.size + 4, [s1.heap.objs.size + 4, s1.heap.objs.size + 2, s1.heap.objs.size + 3, s1.heap.objs.size, s1.heap.objs.size + 1], _, _, H1, rfl, I1.kept (t' := s1.toks) hk, turn_zip (PySem.W.ktu_apart s1.heap.objs.size a b p1.lt p2.lt), ⟨hz, hTI, ⟨_, _, hTO⟩, h1, h2⟩, fr, q⟩
      · obtain ⟨its, rv, p1, _⟩ := I1.tuple hqx
        obtain ⟨its2, rv2, p2, _⟩ := I1.tuple hqy
        have la : a < s1.heap.objs.size := by obtain ⟨o1, ho1, _⟩ := id p1; exact Heap.lt_size ho1
        have lb : b < s1.heap.objs.size := by obtain ⟨o1, ho1, _⟩ := id p2; exact Heap.lt_size ho1
        refine RZ.call_zipT (show s1.heap.IsTuple a its.toArray from p1) (show s1.heap.IsTuple b its2.toArray from p2) fun h' hz hTI hTO h1 h2 hsz hk => wpAny_pyIter_zip hz ?_
        exact ⟨s1.heap.objs.size + 4, [s1.heap.objs.size + 4, s1.heap.objs.size + 2, s1.heap.objs.size + 3, s1.heap.objs.size, s1.heap.objs.size + 1], _, _, H1, rfl, I1.kept (t' := s1.toks) hk, RZ.turn_zipT (PySem.W.ktu_apart s1.heap.objs.size a b la lb), ⟨hz, hTI, ⟨_, _, hTO⟩, h1, h2⟩, fr, q⟩
      · obtain ⟨its, rv, p1, _⟩ := I1.tuple hqx
        obtain ⟨its2, rv2, p2, _⟩ := I1.list hqy
        have la : a < s1.heap.objs.size := by obtain ⟨o1, ho1, _⟩ := id p1; exact Heap.lt_size ho1
        have lb : b < s1.heap.objs.size := p2.lt
        refine zip_begins2 (begins_tuple a its.toArray) (begins_list b its2.toArray) p1 p2.isList fun h' hz hTI hTO h1 h2 hsz hk => wpAny_pyIter_zip hz ?_
        have D : ZSep (s1.heap.objs.size + 4) (s1.heap.objs.size + 2) (s1.heap.objs.size + 3) s1.heap.objs.size (s1.heap.objs.size + 1) a b := by
          have la' : @LT.lt Nat instLTNat a s1.heap.objs.size := la
          have lb' : @LT.lt Nat instLTNat b s1.heap.objs.size := lb
          have no : ∀ {c d e : Addr}, c ≠ d → c ≠ e → c ∉ [d, e] := fun h1 h2 z => by
            rcases List.mem_cons.mp z with z | z
            · exact h1 z
            · exact h2 (List.mem_singleton.mp z)
          refine ⟨⟨?_, ?_, ?_, ?_, List.mem_cons_self, no ?_ ?_, no ?_ ?_, ?_, List.mem_cons_self, no ?_ ?_, no ?_ ?_, no ?_ ?_, no ?_ ?_⟩, ?_, ?_⟩
          all_goals first | exact Nat.ne_of_lt (by omega) | exact Nat.ne_of_gt (by omega)
        exact ⟨s1.heap.objs.size + 4, [s1.heap.objs.size + 4, s1.heap.objs.size + 2, s1.heap.objs.size + 3, s1.heap.objs.size, s1.heap.objs.size + 1], _, _, H1, rfl, I1.kept (t' := s1.toks) hk, turnZipM D, ⟨hz, hTI, ⟨_, _, hTO⟩, ⟨_, h1, rfl, rfl⟩, ⟨_, h2, rfl, rfl⟩⟩, fr, q⟩
end L2

namespace LC
open PySem L2
inductive D where
  | non | bl (b : Bool) | int (i : Int) | str (x : List Nat)
  | tup (xs : List D) | lst (xs : List D) | dct (kvs : List (Key × D))
  | fn (j : Nat) | deck | script | lck (kvs : List (Key × D))
  | tpk (xs : List D) | obj (c : Nat) (ks : List (Key × D))
inductive T where
  | v (d : D) | ol (xs : List D) | od (kvs : List (Key × D)) | op (kvs : List (Key × D)) | ob (c : Nat) (ks : List (Key × D))
def T.d : T → D
  | .v d => d
  | .ol xs => .lst xs
  | .od kvs => .dct kvs
  | .op kvs => .dct kvs
  | .ob c ks => .obj c ks
def kfs (fs : List (Str × V)) : List (Key × V) := fs.map fun p => (.inr p.1, p.2)
def mkS (x : List Nat) : Str := ⟨x.toArray⟩
structure StrG (x : List Nat) : Prop where
  len : x.length ≤ sizeLine
  cps : ∀ c ∈ x, c < 0x110000
theorem mkS_inj {x y : List Nat} (h : mkS x = mkS y) : x = y := by
  have e : x.toArray = y.toArray := congrArg Str.cps h
  exact Array.toList_inj.mpr e |> fun h => by simpa using h
theorem mkS_eq (x y : List Nat) : (mkS x = mkS y) ↔ x = y := ⟨mkS_inj, fun e => by rw [e]⟩
structure Gx where
  K : PySem.W.Frag
  fa : Nat → Option Addr
  scr : List Int → Prop
  dkp : Hp → Addr → Addr → Prop
  loc : ∀ H H' a c, dkp H a c → H' a = H a → H' c = H c → dkp H' a c
  there : ∀ H a c, dkp H a c → H a ≠ none ∧ H c ≠ none
  pa : Option Addr := none
  ca : Nat → Option Addr := fun _ => none
structure Zt where
  F : Hp
  dk : Addr × Addr → Prop
def Zt.nd (Z : Zt) (b : Addr) : Prop := ∀ p, Z.dk p → b ≠ p.1 ∧ b ≠ p.2
def KeyG : Key → Prop
  | .inl _ => True
  | .inr s => ∃ x, s = mkS x ∧ StrG x
mutual
inductive RepF (G : Gx) (Z : Zt) : D → V → Prop
  | non : RepF G Z .non .non
  | bl (b : Bool) : RepF G Z (.bl b) (.bl b)
  | int (i : Int) : RepF G Z (.int i) (.int i)
  | str {x : List Nat} : StrG x → RepF G Z (.str x) (.str (mkS x))
  | tup {a : Addr} {ds : List D} {vs : List V} : SqT G.K Z.F a vs → RepL G Z ds vs → RepF G Z (.tup ds) (.ref a)
  | lst {a : Addr} {ds : List D} {vs : List V} : Z.F a = some (.lst vs) → RepL G Z ds vs → RepF G Z (.lst ds) (.ref a)
  | dct {a : Addr} {ks : List (Key × D)} {kvs : List (Key × V)} : Z.F a = some (.dK kvs) → RepK G Z ks kvs → RepF G Z (.dct ks) (.ref a)
  | lck {a : Addr} {o : Obj} {ks : List (Key × D)} {kvs : List (Key × V)} : Z.F a = some (.frz o (.dK kvs)) → RepK G Z ks kvs → RepF G Z (.lck ks) (.ref a)
  | tpk {a : Addr} {o : Obj} {ds : List D} {vs : List V} : Z.F a = some (.frz o (.tup vs)) → o.cls = .type "tuple" → o.dict = none → RepL G Z ds vs → RepF G Z (.tpk ds) (.ref a)
  | obj {a C dx : Addr} {c : Nat} {ks : List (Key × D)} {fs : List (Str × V)} : Z.F a = some (.ins C dx fs) → G.ca c = some C → RepK G Z ks (kfs fs) → RepF G Z (.obj c ks) (.ref a)
  | fn {a : Addr} {j : Nat} : G.fa j = some a → RepF G Z (.fn j) (.ref a)
  | deck {a c : Addr} : Z.dk (a, c) → RepF G Z .deck (.ref a)
  | script {a : Addr} {ns : List Int} : SqL G.K Z.F a (ns.map V.int) → G.scr ns → RepF G Z .script (.ref a)
inductive RepL (G : Gx) (Z : Zt) : List D → List V → Prop
  | nil : RepL G Z [] []
  | cons {d : D} {ds : List D} {v : V} {vs : List V} : RepF G Z d v → RepL G Z ds vs → RepL G Z (d :: ds) (v :: vs)
inductive RepK (G : Gx) (Z : Zt) : List (Key × D) → List (Key × V) → Prop
  | nil : RepK G Z [] []
  | cons {k : Key} {d : D} {ds : List (Key × D)} {v : V} {vs : List (Key × V)} : KeyG k → RepF G Z d v → RepK G Z ds vs → RepK G Z ((k, d) :: ds) ((k, v) :: vs)
end
inductive RepT (G : Gx) (Z : Zt) (H : Hp) : T → V → Prop
  | v {d : D} {v : V} : RepF G Z d v → RepT G Z H (.v d) v
  | ol {a : Addr} {ds : List D} {vs : List V} : Z.F a = none → Z.nd a → H a = some (.lst vs) → RepL G Z ds vs → RepT G Z H (.ol ds) (.ref a)
  | od {a : Addr} {ds : List (Key × D)} {vs : List (Key × V)} : Z.F a = none → Z.nd a → H a = some (.dK vs) → RepK G Z ds vs → RepT G Z H (.od ds) (.ref a)
  | op {a : Addr} {ds : List (Key × D)} {vs : List (Key × V)} : G.pa = some a → Z.F a = none → Z.nd a → H a = some (.dK vs) → RepK G Z ds vs → RepT G Z H (.op ds) (.ref a)
  | ob {a C dx : Addr} {c : Nat} {ks : List (Key × D)} {fs : List (Str × V)} : G.pa = some a → Z.F a = none → Z.nd a → H a = some (.ins C dx fs) → G.ca c = some C → RepK G Z ks (kfs fs) → RepT G Z H (.ob c ks) (.ref a)
def RepD (G : Gx) (Z : Zt) (H : Hp) (d : D) (v : V) : Prop := ∃ t, T.d t = d ∧ RepT G Z H t v
structure ZOk (G : Gx) (Z : Zt) (H : Hp) : Prop where
  le : ∀ b o, Z.F b = some o → H b = some o
  dk : ∀ a c, Z.dk (a, c) → G.dkp H a c ∧ Z.F a = none ∧ Z.F c = none
  dj : ∀ p q, Z.dk p → Z.dk q → p = q ∨ ((p.1 ≠ q.1 ∧ p.1 ≠ q.2) ∧ p.2 ≠ q.1 ∧ p.2 ≠ q.2)
structure Ext (G : Gx) (Z : Zt) (H : Hp) (Z' : Zt) (H' : Hp) : Prop where
  ok : ZOk G Z' H'
  fr : ∀ b o, Z.F b = some o → Z'.F b = some o
  dk : ∀ p, Z.dk p → Z'.dk p
  keep : ∀ b o, H b = some o → Z.nd b → H' b = some o
  newF : ∀ b o, Z'.F b = some o → Z.F b = none → H b = none
  newD : ∀ p, Z'.dk p → Z.dk p ∨ (H p.1 = none ∧ H p.2 = none)
section
variable {G : Gx} {Z Z' Z1 Z2 : Zt} {H H' H1 H2 : Hp}
theorem Ext.refl (h : ZOk G Z H) : Ext G Z H Z H := ⟨h, fun _ _ e => e, fun _ e => e, fun _ _ e _ => e, fun b o e n => (by rw [n] at e; cases e), fun _ e => .inl e⟩
theorem Ext.nd (x : Ext G Z H Z' H') {b : Addr} (hb : H b ≠ none) (n : Z.nd b) : Z'.nd b := fun p e => by
  rcases x.newD p e with e | ⟨h1, h2⟩
  · exact n p e
  · exact ⟨fun z => hb (z ▸ h1), fun z => hb (z ▸ h2)⟩
theorem Ext.free (x : Ext G Z H Z' H') (ok : ZOk G Z H) {b : Addr} (hb : H' b = none) : H b = none := by
  cases q : H b with
  | none => rfl
  | some o =>
    by_cases n : Z.nd b
    · rw [x.keep b o q n] at hb
      cases hb
    · exfalso
      apply n
      intro p e
      obtain ⟨a, c⟩ := p
      have h1 := (x.ok.dk a c (x.dk _ e)).1
      have h2 := G.there _ _ _ h1
      refine ⟨fun z => h2.1 ?_, fun z => h2.2 ?_⟩
      · have z' : b = a := z
        rw [← z']; exact hb
      · have z' : b = c := z
        rw [← z']; exact hb
theorem Ext.trans (ok : ZOk G Z H) (x : Ext G Z H Z1 H1) (y : Ext G Z1 H1 Z2 H2) : Ext G Z H Z2 H2 where
  ok := y.ok
  fr := fun b o e => y.fr b o (x.fr b o e)
  dk := fun p e => y.dk p (x.dk p e)
  keep := fun b o e n => y.keep b o (x.keep b o e n) (x.nd (by rw [e]; exact fun z => nomatch z) n)
  newF := fun b o e n => by
    cases q : Z1.F b with
    | none => exact x.free ok (y.newF b o e q)
    | some u => exact x.newF b u q n
  newD := fun p e => by
    rcases y.newD p e with e | ⟨h1, h2⟩
    · exact x.newD p e
    · exact .inr ⟨x.free ok h1, x.free ok h2⟩
theorem sqL_mono {K : PySem.W.Frag} {F F' : Hp} (h : ∀ b o, F b = some o → F' b = some o) {a : Addr} {xs : List V} (s : SqL K F a xs) : SqL K F' a xs := by
  rcases s with (s | ⟨o, s⟩) | s
  · exact .inl (.inl (h _ _ s))
  · exact .inl (.inr ⟨o, h _ _ s⟩)
  · exact .inr s
theorem sqT_mono {K : PySem.W.Frag} {F F' : Hp} (h : ∀ b o, F b = some o → F' b = some o) {a : Addr} {xs : List V} (s : SqT K F a xs) : SqT K F' a xs := by
  rcases s with (s | ⟨o, s⟩) | s
  · exact .inl (.inl (h _ _ s))
  · exact .inl (.inr ⟨o, h _ _ s⟩)
  · exact .inr s
mutual
theorem RepF.mono (h : ∀ b o, Z.F b = some o → Z'.F b = some o) (hd : ∀ p, Z.dk p → Z'.dk p) : ∀ {d : D} {v : V}, RepF G Z d v → RepF G Z' d v
  | _, _, .non => .non
  | _, _, .bl b => .bl b
  | _, _, .int i => .int i
  | _, _, .str x => .str x
  | _, _, .tup s r => .tup (sqT_mono h s) (RepL.mono h hd r)
  | _, _, .lst s r => .lst (h _ _ s) (RepL.mono h hd r)
  | _, _, .dct s r => .dct (h _ _ s) (RepK.mono h hd r)
  | _, _, .lck s r => .lck (h _ _ s) (RepK.mono h hd r)
  | _, _, .tpk s h1 h2 r => .tpk (h _ _ s) h1 h2 (RepL.mono h hd r)
  | _, _, .obj s h1 r => .obj (h _ _ s) h1 (RepK.mono h hd r)
  | _, _, .fn s => .fn s
  | _, _, .deck s => .deck (hd _ s)
  | _, _, .script s q => .script (sqL_mono h s) q
theorem RepL.mono (h : ∀ b o, Z.F b = some o → Z'.F b = some o) (hd : ∀ p, Z.dk p → Z'.dk p) : ∀ {d : List D} {v : List V}, RepL G Z d v → RepL G Z' d v
  | _, _, .nil => .nil
  | _, _, .cons r t => .cons (RepF.mono h hd r) (RepL.mono h hd t)
theorem RepK.mono (h : ∀ b o, Z.F b = some o → Z'.F b = some o) (hd : ∀ p, Z.dk p → Z'.dk p) : ∀ {d : List (Key × D)} {v : List (Key × V)}, RepK G Z d v → RepK G Z' d v
  | _, _, .nil => .nil
  | _, _, .cons g r t => .cons g (RepF.mono h hd r) (RepK.mono h hd t)
end
theorem Ext.repF (x : Ext G Z H Z' H') {d : D} {v : V} (r : RepF G Z d v) : RepF G Z' d v := r.mono x.fr x.dk
theorem Ext.repL (x : Ext G Z H Z' H') {d : List D} {v : List V} (r : RepL G Z d v) : RepL G Z' d v := r.mono x.fr x.dk
theorem Ext.repK (x : Ext G Z H Z' H') {d : List (Key × D)} {v : List (Key × V)} (r : RepK G Z d v) : RepK G Z' d v := r.mono x.fr x.dk
theorem Ext.freeF (x : Ext G Z H Z' H') {a : Addr} (hF : Z.F a = none) (hH : H a ≠ none) : Z'.F a = none := by
  cases q : Z'.F a with
  | none => rfl
  | some o => exact absurd (x.newF a o q hF) hH
theorem Ext.repT (x : Ext G Z H Z' H') {t : T} {v : V} (r : RepT G Z H t v) : RepT G Z' H' t v := by
  cases r with
  | v r => exact .v (x.repF r)
  | ol hF hn hH r => exact .ol (x.freeF hF (by rw [hH]; exact fun z => nomatch z)) (x.nd (by rw [hH]; exact fun z => nomatch z) hn) (x.keep _ _ hH hn) (x.repL r)
  | od hF hn hH r => exact .od (x.freeF hF (by rw [hH]; exact fun z => nomatch z)) (x.nd (by rw [hH]; exact fun z => nomatch z) hn) (x.keep _ _ hH hn) (x.repK r)
  | op hp hF hn hH r => exact .op hp (x.freeF hF (by rw [hH]; exact fun z => nomatch z)) (x.nd (by rw [hH]; exact fun z => nomatch z) hn) (x.keep _ _ hH hn) (x.repK r)
  | ob hp hF hn hH hc r => exact .ob hp (x.freeF hF (by rw [hH]; exact fun z => nomatch z)) (x.nd (by rw [hH]; exact fun z => nomatch z) hn) (x.keep _ _ hH hn) hc (x.repK r)
theorem Ext.repD (x : Ext G Z H Z' H') {d : D} {v : V} (r : RepD G Z H d v) : RepD G Z' H' d v := let ⟨t, e, q⟩ := r; ⟨t, e, x.repT q⟩
theorem RepT.toD {t : T} {v : V} (r : RepT G Z H t v) : RepD G Z H t.d v := ⟨t, rfl, r⟩
theorem RepF.toD {d : D} {v : V} (r : RepF G Z d v) : RepD G Z H d v := ⟨.v d, rfl, .v r⟩
theorem RepL.length : ∀ {ds : List D} {vs : List V}, RepL G Z ds vs → ds.length = vs.length
  | _, _, .nil => rfl
  | _, _, .cons _ t => by rw [List.length_cons, List.length_cons, RepL.length t]
theorem RepL.get : ∀ {ds : List D} {vs : List V} {i : Nat} {v : V}, RepL G Z ds vs → vs[i]? = some v → ∃ d, ds[i]? = some d ∧ RepF G Z d v
  | _, _, _, _, .nil, e => by simp at e
  | _, _, 0, _, .cons r _, e => by simp at e; subst e; exact ⟨_, rfl, r⟩
  | _, _, i + 1, v, .cons _ t, e => by
    obtain ⟨d, h1, h2⟩ := RepL.get (i := i) (v := v) t (by simpa using e)
    exact ⟨d, by simpa using h1, h2⟩
theorem RepL.getD : ∀ {ds : List D} {vs : List V} {i : Nat} {d : D}, RepL G Z ds vs → ds[i]? = some d → ∃ v, vs[i]? = some v ∧ RepF G Z d v
  | _, _, _, _, .nil, e => by simp at e
  | _, _, 0, _, .cons r _, e => by simp at e; subst e; exact ⟨_, rfl, r⟩
  | _, _, i + 1, v, .cons _ t, e => by
    obtain ⟨d, h1, h2⟩ := RepL.getD (i := i) (d := v) t (by simpa using e)
    exact ⟨d, by simpa using h1, h2⟩
theorem RepL.append : ∀ {as bs : List D} {vs ws : List V}, RepL G Z as vs → RepL G Z bs ws → RepL G Z (as ++ bs) (vs ++ ws)
  | _, _, _, _, .nil, s => s
  | _, _, _, _, .cons r t, s => .cons r (RepL.append t s)
theorem RepL.take : ∀ {as : List D} {vs : List V} (n : Nat), RepL G Z as vs → RepL G Z (as.take n) (vs.take n)
  | _, _, 0, _ => .nil
  | _, _, _ + 1, .nil => .nil
  | _, _, n + 1, .cons r t => .cons r (RepL.take n t)
theorem RepL.drop : ∀ {as : List D} {vs : List V} (n : Nat), RepL G Z as vs → RepL G Z (as.drop n) (vs.drop n)
  | _, _, 0, r => r
  | _, _, _ + 1, .nil => .nil
  | _, _, n + 1, .cons _ t => RepL.drop n t
theorem RepL.set {d : D} {v : V} (r : RepF G Z d v) : ∀ {as : List D} {vs : List V} (n : Nat), RepL G Z as vs → RepL G Z (as.set n d) (vs.set n v)
  | _, _, _, .nil => .nil
  | _, _, 0, .cons _ t => .cons r t
  | _, _, n + 1, .cons q t => .cons q (RepL.set r n t)
theorem RepL.reverse {as : List D} {vs : List V} (r : RepL G Z as vs) : RepL G Z as.reverse vs.reverse := by
  have gen : ∀ (as bs : List D) (vs ws : List V), RepL G Z as vs → RepL G Z bs ws → RepL G Z (as.reverseAux bs) (vs.reverseAux ws) := by
    intro as
    induction as with
    | nil =>
      intro bs vs ws r s
      cases r
      exact s
    | cons a as ih =>
      intro bs vs ws r s
      cases r with
      | @cons _ _ v vs r t => exact ih (a :: bs) vs (v :: ws) t (.cons r s)
  exact gen _ _ _ _ r .nil
theorem RepD.int {i : Int} {v : V} (r : RepD G Z H (.int i) v) : v = .int i := by
  obtain ⟨t, e, q⟩ := r
  cases q with
  | v q => cases e; cases q; rfl
  | ol => cases e
  | od => cases e
  | op => cases e
  | ob => cases e
theorem RepD.bl {i : Bool} {v : V} (r : RepD G Z H (.bl i) v) : v = .bl i := by
  obtain ⟨t, e, q⟩ := r
  cases q with
  | v q => cases e; cases q; rfl
  | ol => cases e
  | od => cases e
  | op => cases e
  | ob => cases e
theorem RepD.str {x : List Nat} {v : V} (r : RepD G Z H (.str x) v) : v = .str (mkS x) ∧ StrG x := by
  obtain ⟨t, e, q⟩ := r
  cases q with
  | v q =>
    cases e
    cases q with
    | str g => exact ⟨rfl, g⟩
  | ol => cases e
  | od => cases e
  | op => cases e
  | ob => cases e
theorem RepD.non {v : V} (r : RepD G Z H .non v) : v = .non := by
  obtain ⟨t, e, q⟩ := r
  cases q with
  | v q => cases e; cases q; rfl
  | ol => cases e
  | od => cases e
  | op => cases e
  | ob => cases e
theorem RepD.tup {ds : List D} {v : V} (ok : ZOk G Z H) (r : RepD G Z H (.tup ds) v) : ∃ a vs, v = .ref a ∧ SqT G.K Z.F a vs ∧ SqT G.K H a vs ∧ RepL G Z ds vs := by
  obtain ⟨t, e, q⟩ := r
  cases q with
  | v q =>
    cases e
    cases q with
    | tup s r => exact ⟨_, _, rfl, s, sqT_mono ok.le s, r⟩
  | ol => cases e
  | od => cases e
  | op => cases e
  | ob => cases e
theorem RepD.lst {ds : List D} {v : V} (ok : ZOk G Z H) (r : RepD G Z H (.lst ds) v) : ∃ a vs, v = .ref a ∧ H a = some (.lst vs) ∧ RepL G Z ds vs := by
  obtain ⟨t, e, q⟩ := r
  cases q with
  | v q =>
    cases e
    cases q with
    | lst s r => exact ⟨_, _, rfl, ok.le _ _ s, r⟩
  | ol _ _ h r => cases e; exact ⟨_, _, rfl, h, r⟩
  | od => cases e
  | op => cases e
  | ob => cases e
theorem RepD.dct {ds : List (Key × D)} {v : V} (ok : ZOk G Z H) (r : RepD G Z H (.dct ds) v) : ∃ a vs, v = .ref a ∧ H a = some (.dK vs) ∧ RepK G Z ds vs := by
  obtain ⟨t, e, q⟩ := r
  cases q with
  | v q =>
    cases e
    cases q with
    | dct s r => exact ⟨_, _, rfl, ok.le _ _ s, r⟩
  | ol => cases e
  | od _ _ h r => cases e; exact ⟨_, _, rfl, h, r⟩
  | op _ _ _ h r => cases e; exact ⟨_, _, rfl, h, r⟩
  | ob => cases e
theorem RepD.lck {ds : List (Key × D)} {v : V} (ok : ZOk G Z H) (r : RepD G Z H (.lck ds) v) : ∃ a o vs, v = .ref a ∧ Z.F a = some (.frz o (.dK vs)) ∧ H a = some (.frz o (.dK vs)) ∧ RepK G Z ds vs := by
  obtain ⟨t, e, q⟩ := r
  cases q with
  | v q =>
    cases e
    cases q with
    | lck s r => exact ⟨_, _, _, rfl, s, ok.le _ _ s, r⟩
  | ol => cases e
  | od => cases e
  | op => cases e
  | ob => cases e
theorem RepD.fn {j : Nat} {v : V} (r : RepD G Z H (.fn j) v) : ∃ a, v = .ref a ∧ G.fa j = some a := by
  obtain ⟨t, e, q⟩ := r
  cases q with
  | v q =>
    cases e
    cases q with
    | fn s => exact ⟨_, rfl, s⟩
  | ol => cases e
  | od => cases e
  | op => cases e
  | ob => cases e
theorem RepD.tpk {ds : List D} {v : V} (ok : ZOk G Z H) (r : RepD G Z H (.tpk ds) v) : ∃ a o vs, v = .ref a ∧ Z.F a = some (.frz o (.tup vs)) ∧ H a = some (.frz o (.tup vs)) ∧ o.cls = .type "tuple" ∧ o.dict = none ∧ RepL G Z ds vs := by
  obtain ⟨t, e, q⟩ := r
  cases q with
  | v q =>
    cases e
    cases q with
    | tpk s h1 h2 r => exact ⟨_, _, _, rfl, s, ok.le _ _ s, h1, h2, r⟩
  | ol => cases e
  | od => cases e
  | op => cases e
  | ob => cases e
theorem RepD.obj {c : Nat} {ks : List (Key × D)} {v : V} (ok : ZOk G Z H) (r : RepD G Z H (.obj c ks) v) : ∃ a C dx fs, v = .ref a ∧ H a = some (.ins C dx fs) ∧ G.ca c = some C ∧ RepK G Z ks (kfs fs) := by
  obtain ⟨t, e, q⟩ := r
  cases q with
  | v q =>
    cases e
    cases q with
    | obj s h1 r => exact ⟨_, _, _, _, rfl, ok.le _ _ s, h1, r⟩
  | ol => cases e
  | od => cases e
  | op => cases e
  | ob _ _ _ h h1 r => cases e; exact ⟨_, _, _, _, rfl, h, h1, r⟩
theorem Ext.lay (ok : ZOk G Z H) {a : Addr} {o : HO} (hn : H a = none) : Ext G Z H ⟨upd Z.F a o, Z.dk⟩ (upd H a o) := by
  have nf : Z.F a = none := by
    cases q : Z.F a with
    | none => rfl
    | some u => rw [ok.le a u q] at hn; cases hn
  refine ⟨⟨fun b u e => ?_, fun x c e => ?_, ok.dj⟩, fun b u e => ?_, fun p e => e, fun b u e _ => ?_, fun b u e n => ?_, fun p e => .inl e⟩
  · have e' : upd Z.F a o b = some u := e
    by_cases hb : b = a
    · subst hb; rw [upd_same] at e' ⊢; exact e'
    · rw [upd_ne hb] at e' ⊢; exact ok.le b u e'
  · obtain ⟨h1, h2, h3⟩ := ok.dk x c e
    obtain ⟨t1, t2⟩ := G.there _ _ _ h1
    have n1 : x ≠ a := fun z => t1 (z ▸ hn)
    have n2 : c ≠ a := fun z => t2 (z ▸ hn)
    refine ⟨G.loc _ _ _ _ h1 (upd_ne n1) (upd_ne n2), ?_, ?_⟩
    · show upd Z.F a o x = none
      rw [upd_ne n1]; exact h2
    · show upd Z.F a o c = none
      rw [upd_ne n2]; exact h3
  · show upd Z.F a o b = some u
    by_cases hb : b = a
    · subst hb; rw [nf] at e; cases e
    · rw [upd_ne hb]; exact e
  · by_cases hb : b = a
    · subst hb; rw [hn] at e; cases e
    · rw [upd_ne hb]; exact e
  · have e' : upd Z.F a o b = some u := e
    by_cases hb : b = a
    · subst hb; exact hn
    · rw [upd_ne hb, n] at e'; cases e'
theorem Ext.own (ok : ZOk G Z H) {a : Addr} {o : HO} (hn : H a = none) : Ext G Z H Z (upd H a o) := by
  have nf : Z.F a = none := by
    cases q : Z.F a with
    | none => rfl
    | some u => rw [ok.le a u q] at hn; cases hn
  refine ⟨⟨fun b u e => ?_, fun x c e => ?_, ok.dj⟩, fun b u e => e, fun p e => e, fun b u e _ => ?_, fun b u e n => ?_, fun p e => .inl e⟩
  · by_cases hb : b = a
    · subst hb; rw [nf] at e; cases e
    · rw [upd_ne hb]; exact ok.le b u e
  · obtain ⟨h1, h2, h3⟩ := ok.dk x c e
    obtain ⟨t1, t2⟩ := G.there _ _ _ h1
    have n1 : x ≠ a := fun z => t1 (z ▸ hn)
    have n2 : c ≠ a := fun z => t2 (z ▸ hn)
    exact ⟨G.loc _ _ _ _ h1 (upd_ne n1) (upd_ne n2), h2, h3⟩
  · by_cases hb : b = a
    · subst hb; rw [hn] at e; cases e
    · rw [upd_ne hb]; exact e
  · rw [n] at e; cases e
theorem ZOk.freeF (ok : ZOk G Z H) {a : Addr} (hn : H a = none) : Z.F a = none := by
  cases q : Z.F a with
  | none => rfl
  | some u => rw [ok.le a u q] at hn; cases hn
theorem ZOk.ndOf (ok : ZOk G Z H) {a : Addr} (hn : H a = none) : Z.nd a := fun p e => by
  obtain ⟨x, c⟩ := p
  obtain ⟨t1, t2⟩ := G.there _ _ _ (ok.dk x c e).1
  refine ⟨fun z => t1 ?_, fun z => t2 ?_⟩
  · have z' : a = x := z
    rw [← z']; exact hn
  · have z' : a = c := z
    rw [← z']; exact hn
theorem Ext.freeze {Z0 : Zt} {H0 : Hp} (x : Ext G Z0 H0 Z H) (ok0 : ZOk G Z0 H0) {a : Addr} {o : HO} (hH : H a = some o) (h0 : H0 a = none) (hn : Z.nd a) : Ext G Z0 H0 ⟨upd Z.F a o, Z.dk⟩ H := by
  refine ⟨⟨fun b u e => ?_, fun y c e => ?_, x.ok.dj⟩, fun b u e => ?_, fun p e => x.dk p e, x.keep, fun b u e n => ?_, fun p e => x.newD p e⟩
  · have e' : upd Z.F a o b = some u := e
    by_cases hb : b = a
    · subst hb; rw [upd_same] at e'; rw [hH]; exact e'
    · rw [upd_ne hb] at e'; exact x.ok.le b u e'
  · obtain ⟨h1, h2, h3⟩ := x.ok.dk y c e
    obtain ⟨n1, n2⟩ := hn (y, c) e
    refine ⟨h1, ?_, ?_⟩
    · show upd Z.F a o y = none
      rw [upd_ne (Ne.symm n1)]; exact h2
    · show upd Z.F a o c = none
      rw [upd_ne (Ne.symm n2)]; exact h3
  · show upd Z.F a o b = some u
    by_cases hb : b = a
    · subst hb
      have := x.ok.le b u (x.fr b u e)
      rw [hH] at this; rw [upd_same]; exact this
    · rw [upd_ne hb]; exact x.fr b u e
  · have e' : upd Z.F a o b = some u := e
    by_cases hb : b = a
    · subst hb; exact h0
    · rw [upd_ne hb] at e'; exact x.newF b u e' n
end
end LC

namespace LC
open PySem L2
inductive Bop where | add | sub | mul | mod | fdiv | pow | shl
  deriving DecidableEq
inductive Cop where | eq | ne | lt | le | gt | ge | isin | notin | is | isnot
  deriving DecidableEq
inductive Ty where | str | int | bool | tuple | list
  deriving DecidableEq
inductive Bi where | len | all | any | list | tuple | sorted | sortedp | sortedt | sortedi | sortedq | int | max | min | sum | str
  deriving DecidableEq
inductive Mt where | join | split | upper | index | lindex
  deriving DecidableEq
def D.flat : D → Bool
  | .non | .bl _ | .int _ | .str _ => true
  | _ => false
mutual
def D.pureb : D → Bool
  | .non | .bl _ | .int _ | .str _ => true
  | .tup xs => D.pureL xs
  | _ => false
def D.pureL : List D → Bool
  | [] => true
  | x :: xs => D.pureb x && D.pureL xs
end
def D.isNon : D → Bool
  | .non => true
  | _ => false
mutual
def D.eqv : D → D → Bool
  | .non, .non => true
  | .bl a, .bl b => a == b
  | .bl a, .int j => (if a then 1 else 0) == j
  | .int i, .bl b => i == (if b then 1 else 0)
  | .int i, .int j => i == j
  | .str x, .str y => x == y
  | .lst xs, .lst ys => D.eqvL xs ys
  | .tup xs, .tup ys => D.eqvL xs ys
  | _, _ => false
def D.eqvL : List D → List D → Bool
  | [], [] => true
  | x :: xs, y :: ys => D.eqv x y && D.eqvL xs ys
  | _, _ => false
end
mutual
def D.cmpb : Nat → D → Bool
  | _, .non | _, .bl _ | _, .int _ | _, .str _ => true
  | n + 1, .tup xs => D.cmpbL n xs
  | n + 1, .lst xs => D.cmpbL n xs
  | _, _ => false
def D.cmpbL : Nat → List D → Bool
  | _, [] => true
  | n, x :: xs => D.cmpb n x && D.cmpbL n xs
end
def D.emp : D → D → Bool
  | .tup _, .tup [] => true
  | _, _ => false
def D.cmpOk (a b : D) : Bool := (a.flat && b.flat) || (a.cmpb 60 && b.cmpb 60) || D.emp a b
def D.inOk (a : D) (ys : List D) : Bool := (a.flat && ys.all D.flat) || (a.cmpb 59 && D.cmpbL 59 ys)
def D.items : D → Option (List D)
  | .tup xs => some xs
  | .lst xs => some xs
  | _ => none
def D.key : D → Option Key
  | .int i => some (.inl i)
  | .str x => some (.inr (mkS x))
  | _ => none
def keyD : Key → D
  | .inl i => .int i
  | .inr s => .str s.cps.toList
def sortedN (ys : List (List Nat)) : Bool := PyProof.Rows.sortedS (ys.map mkS)
def kget (kvs : List (Key × D)) (k : Key) : Option D := (kvs.find? fun kv => decide (kv.1 = k)).map (·.2)
def kput (kvs : List (Key × D)) (k : Key) (d : D) : List (Key × D) :=
  if (kvs.any fun kv => decide (kv.1 = k)) = true then kvs.map (fun kv => if kv.1 = k then (kv.1, d) else kv) else kvs ++ [(k, d)]
def kputF (k : Key) (d : D) : List (Key × D) → List (Key × D)
  | [] => [(k, d)]
  | (g, x) :: r => if g = k then (g, d) :: r else (g, x) :: kputF k d r
def cut {α : Type} (xs : List α) (lo hi : Option Int) : List α := (xs.drop (HT.sIx xs.length 0 lo)).take (HT.sIx xs.length xs.length hi - HT.sIx xs.length 0 lo)
def intsD : List D → Option (List Int)
  | [] => some []
  | .int x :: r => (intsD r).map (x :: ·)
  | _ => none
def decN (i : Int) : List Nat := (Str.ofString (toString i)).cps.toList
def occN (x y : List Nat) : List Nat := Builtin.Str.occurrences (mkS x) (mkS y) 0 x.length 1
def upN (x : List Nat) : List Nat := (Txt.upper (mkS x)).cps.toList
def zipD (xs ys : List D) : List D := (xs.zip ys).map fun p => .tup [p.1, p.2]
def wBin : Bop → D → D → (T → Prop) → Prop
  | .add, .int a, .int b, Q => Q (.v (.int (a + b)))
  | .add, .str a, .str b, Q => a.length + b.length ≤ 16777216 ∧ Q (.v (.str (a ++ b)))
  | .add, .tup a, .tup b, Q => a.length + b.length ≤ 16777216 ∧ Q (.v (.tup (a ++ b)))
  | .add, .lst a, .lst b, Q => a.length + b.length ≤ 16777216 ∧ Q (.ol (a ++ b))
  | .sub, .int a, .int b, Q => Q (.v (.int (a - b)))
  | .mul, .int a, .int b, Q => ((-(2 ^ 64) < a ∧ a < 2 ^ 64) ∨ (-(2 ^ 64) < b ∧ b < 2 ^ 64)) ∧ Q (.v (.int (a * b)))
  | .mul, .lst a, .int b, Q => (0 ≤ b ∧ b ≤ 1000 ∧ a.length * b.toNat ≤ 16777216) ∧ Q (.ol (List.replicate b.toNat a).flatten)
  | .pow, .int a, .int b, Q => (0 ≤ b ∧ b ≤ 1000000 ∧ a.natAbs < 2 ^ 64) ∧ Q (.v (.int (a ^ b.toNat)))
  | .shl, .int a, .int b, Q => (0 ≤ b ∧ b ≤ 1000000 ∧ a.natAbs < 2 ^ 64) ∧ Q (.v (.int (a * 2 ^ b.toNat)))
  | .mod, .int a, .int b, Q => 0 < b ∧ Q (.v (.int (a % b)))
  | .fdiv, .int a, .int b, Q => (0 < b ∧ b < 1073741824) ∧ Q (.v (.int (a / b)))
  | _, _, _, _ => False
def wCmp : Cop → D → D → (Bool → Prop) → Prop
  | .eq, a, b, Q => D.cmpOk a b = true ∧ Q (D.eqv a b)
  | .ne, a, b, Q => D.cmpOk a b = true ∧ Q (!D.eqv a b)
  | .lt, .int a, .int b, Q => Q (decide (a < b))
  | .le, .int a, .int b, Q => Q (decide (a ≤ b))
  | .gt, .int a, .int b, Q => Q (decide (b < a))
  | .ge, .int a, .int b, Q => Q (decide (b ≤ a))
  | .lt, .str a, .str b, Q => Q (decide (a < b))
  | .le, .str a, .str b, Q => Q (decide (a ≤ b))
  | .gt, .str a, .str b, Q => Q (decide (b < a))
  | .ge, .str a, .str b, Q => Q (decide (b ≤ a))
  | .isin, .str [c], .str y, Q => Q (y.contains c)
  | .notin, .str [c], .str y, Q => Q (!y.contains c)
  | .isin, a, .tup ys, Q => D.inOk a ys = true ∧ Q (ys.any (D.eqv · a))
  | .notin, a, .tup ys, Q => D.inOk a ys = true ∧ Q (!ys.any (D.eqv · a))
  | .isin, a, .dct kvs, Q => match a.key with
    | some k => Q (kget kvs k).isSome
    | none => False
  | .notin, a, .dct kvs, Q => match a.key with
    | some k => Q (!(kget kvs k).isSome)
    | none => False
  | .isin, a, .lst ys, Q => D.inOk a ys = true ∧ Q (ys.any (D.eqv · a))
  | .notin, a, .lst ys, Q => D.inOk a ys = true ∧ Q (!ys.any (D.eqv · a))
  | .is, a, .non, Q => Q a.isNon
  | .isnot, a, .non, Q => Q (!a.isNon)
  | .is, .bl a, .bl b, Q => Q (a == b)
  | .isnot, .bl a, .bl b, Q => Q (!(a == b))
  | _, _, _, _ => False
def wTy : Ty → D → Option Bool
  | _, .fn _ => none
  | _, .deck => none
  | _, .script => none
  | _, .lck _ => none
  | _, .tpk _ => none
  | _, .obj _ _ => none
  | .str, .str _ => some true
  | .int, .int _ => some true
  | .int, .bl _ => some true
  | .bool, .bl _ => some true
  | .tuple, .tup _ => some true
  | .list, .lst _ => some true
  | _, _ => some false
def wIx : D → D → (D → Prop) → Prop
  | .str x, .int i, Q => match atI x i with
    | some c => Q (.str [c])
    | none => False
  | .tup xs, .int i, Q => match atI xs i with
    | some d => Q d
    | none => False
  | .lst xs, .int i, Q => match atI xs i with
    | some d => Q d
    | none => False
  | .dct kvs, y, Q => match y.key with
    | some k => match kget kvs k with
      | some d => Q d
      | none => False
    | none => False
  | .lck kvs, y, Q => match y.key with
    | some k => match kget kvs k with
      | some d => Q d
      | none => False
    | none => False
  | _, _, _ => False
def wCut : D → Option Int → Option Int → (T → Prop) → Prop
  | .str x, lo, hi, Q => Q (.v (.str (cut x lo hi)))
  | .tup xs, lo, hi, Q => Q (.v (.tup (cut xs lo hi)))
  | .lst xs, lo, hi, Q => Q (.ol (cut xs lo hi))
  | _, _, _, _ => False
def bools : List D → Option (List Bool)
  | [] => some []
  | .bl b :: r => (bools r).map (b :: ·)
  | _ => none
def texts : List D → Option (List (List Nat))
  | [] => some []
  | .str x :: r => (texts r).map (x :: ·)
  | _ => none
def wBi : Bi → List D → (T → Prop) → Prop
  | .len, [.str x], Q => Q (.v (.int x.length))
  | .len, [.tup xs], Q => Q (.v (.int xs.length))
  | .len, [.lst xs], Q => Q (.v (.int xs.length))
  | .len, [.dct xs], Q => Q (.v (.int xs.length))
  | .all, [.lst xs], Q => ∃ bs, bools xs = some bs ∧ Q (.v (.bl (bs.all id)))
  | .any, [.lst xs], Q => ∃ bs, bools xs = some bs ∧ Q (.v (.bl (bs.any id)))
  | .list, [.lst xs], Q => Q (.ol xs)
  | .list, [.tup xs], Q => Q (.ol xs)
  | .tuple, [.lst xs], Q => Q (.v (.tup xs))
  | .tuple, [.tup xs], Q => Q (.v (.tup xs))
  | .list, [.dct kvs], Q => Q (.ol (kvs.map fun p => keyD p.1))
  | .list, [.str x], Q => Q (.ol (x.map fun c => .str [c]))
  | .sorted, [.lst xs], Q => xs.length < 64 ∧ ∃ ts, texts xs = some ts ∧ ∀ ys : List (List Nat), ys.Perm ts → sortedN ys = true → Q (.ol (ys.map D.str))
  | .sorted, [.dct kvs], Q => kvs.length < 64 ∧ ∃ ts, texts (kvs.map fun p => keyD p.1) = some ts ∧ ∀ ys : List (List Nat), ys.Perm ts → sortedN ys = true → Q (.ol (ys.map D.str))
  | .sortedp, [.lst xs], Q => ∃ ps : List (List Nat × Int), xs = ps.map (fun p => D.tup [.str p.1, .int p.2]) ∧ ∀ qs : List (List Nat × Int), qs.Perm ps → sortedN (qs.map (·.1)) = true → Q (.ol (qs.map fun p => D.tup [.str p.1, .int p.2]))
  | .sortedt, [.tup xs], Q => ∃ ps : List (List Nat × Int), xs = ps.map (fun p => D.tup [.str p.1, .int p.2]) ∧ ∀ qs : List (List Nat × Int), qs.Perm ps → sortedN (qs.map (·.1)) = true → Q (.ol (qs.map fun p => D.tup [.str p.1, .int p.2]))
  | .sortedi, [.lst xs], Q => ∃ ns, intsD xs = some ns ∧ ∀ ys : List Int, ys.Perm ns → ys.Pairwise (· ≤ ·) → Q (.ol (ys.map D.int))
  | .sortedq, [.lst xs], Q => ∃ ps : List (Int × Int), xs = ps.map (fun p => D.tup [.int p.1, .int p.2]) ∧ ∀ qs : List (Int × Int), qs.Perm ps → Q (.ol (qs.map fun p => D.tup [.int p.1, .int p.2]))
  | .int, [.bl b], Q => Q (.v (.int (if b then 1 else 0)))
  | .int, [.int b], Q => Q (.v (.int b))
  | .max, [.int a, .int b], Q => Q (.v (.int (if b > a then b else a)))
  | .min, [.int a, .int b], Q => Q (.v (.int (if b < a then b else a)))
  | .max, [.str a, .str b], Q => Q (.v (.str (if a < b then b else a)))
  | .min, [.str a, .str b], Q => Q (.v (.str (if b < a then b else a)))
  | .max, [.lst xs], Q => ∃ ns, intsD xs = some ns ∧ 0 < ns.length ∧ ∀ m, m ∈ ns → (∀ y, y ∈ ns → y ≤ m) → Q (.v (.int m))
  | .min, [.lst xs], Q => ∃ ns, intsD xs = some ns ∧ 0 < ns.length ∧ ∀ m, m ∈ ns → (∀ y, y ∈ ns → m ≤ y) → Q (.v (.int m))
  | .sum, [.lst xs], Q => ∃ ns, intsD xs = some ns ∧ Q (.v (.int ns.sum))
  | .str, [.int i], Q => i.natAbs.log2 < 1920 ∧ Q (.v (.str (decN i)))
  | .str, [.str x], Q => Q (.v (.str x))
  | _, _, _ => False
def Mt.rcv : Mt → D → Bool
  | .join, .str _ => true
  | .split, .str _ => true
  | .upper, .str _ => true
  | .index, .str _ => true
  | .lindex, .lst _ => true
  | _, _ => false
def wMt : Mt → D → List D → (T → Prop) → Prop
  | .join, .str sep, [.lst xs], Q => ∃ ts, texts xs = some ts ∧ (ts.map List.length).sum + ts.length * sep.length ≤ 16777216 ∧ Q (.v (.str (TL.joinL sep ts)))
  | .split, .str x, [.str [c]], Q => (x.length + 2 ≤ 16777216 ∧ c < 256) ∧ Q (.ol ((TL.spl [c] 0 [] x).map D.str))
  | .upper, .str x, [], Q => (x.length ≤ 5592405 ∧ (upN x).length ≤ 16777216 ∧ ∀ c ∈ upN x, c < 0x110000) ∧ Q (.v (.str (upN x)))
  | .index, .str x, [.str y], Q => match occN x y with
    | i :: _ => Q (.v (.int i))
    | [] => False
  | .lindex, .lst xs, [d], Q => (xs.all D.flat = true ∧ d.flat = true) ∧ match xs.findIdx? (fun x => D.eqv x d) with
    | some j => Q (.v (.int j))
    | none => False
  | _, _, _, _ => False
def pairsD : List D → Option (List (Key × D))
  | [] => some []
  | .tup [k, d] :: r => match k.key with
    | some k => (pairsD r).map ((k, d) :: ·)
    | none => none
  | _ => none
def mergeD (kvs : List (Key × D)) : List (Key × D) := kvs.foldl (fun acc kv => kput acc kv.1 kv.2) []
def wDict : D → (T → Prop) → Prop
  | .dct kvs, Q => Q (.od kvs)
  | .lst xs, Q => ∃ kvs, pairsD xs = some kvs ∧ Q (.od (mergeD kvs))
  | .tpk xs, Q => ∃ kvs, pairsD xs = some kvs ∧ Q (.od (mergeD kvs))
  | _, _ => False
theorem wDict_mono {d : D} {Q Q' : T → Prop} (h : ∀ t, Q t → Q' t) (x : wDict d Q) : wDict d Q' := by
  cases d <;> first | exact h _ x | (obtain ⟨kvs, e, q⟩ := x; exact ⟨kvs, e, h _ q⟩) | exact x.elim
def itemsD (kvs : List (Key × D)) : List D := kvs.map fun kv => .tup [keyD kv.1, kv.2]
def wItems : D → (T → Prop) → Prop
  | .dct kvs, Q => Q (.ol (itemsD kvs))
  | _, _ => False
theorem wItems_mono {d : D} {Q Q' : T → Prop} (h : ∀ t, Q t → Q' t) (x : wItems d Q) : wItems d Q' := by
  cases d <;> first | exact h _ x | exact x.elim
inductive Tg where
  | name (i : Nat) | tup (is : List Nat)
mutual
inductive E where
  | var (i : Nat) | non | bl (b : Bool) | int (i : Int) | str (x : List Nat) | glob (x : Str) (j : Nat) | gin (n : Bool) (x : Str) (j : Nat) (a : E) | gix (x : Str) (j : Nat) (a : E) | fnv (x : Str) (j : Nat)
  | tup (es : Es) | lst (es : Es) | dict0 | dict (ps : Ps) | rev (a : E) | sset (a : E) | lset (a : E) | dget (a k : E) (o : Eo) | listr (it : I)
  | bin (op : Bop) (a b : E) | neg (a : E) | cmp (op : Cop) (a b : E) | chain (op op' : Cop) (a b c : E)
  | conj (es : Es) | disj (es : Es) | not (a : E) | ite (c a b : E)
  | ix (a i : E) | cut (a : E) (lo hi : Eo)
  | call (x : Str) (j : Nat) (es : Es) | callb (x : Str) (j : Nat) (es : Es) | calld (x : Str) (j : Nat) (es : Es) (ds : List D) | callv (i : Nat) (es : Es) | bi (b : Bi) (es : Es) | mt (m : Mt) (a : E) (es : Es) | isinst (a : E) (t : Ty)
  | dictof (a : E) | litems (a : E) | tpkof (a : E) | tp (a : E) | fld (c : Nat) (a : E) (x : List Nat) | meth (c : Nat) (a : E) (m : List Nat) (j : Nat) (es : Es) | mk (x : Str) (c j : Nat) (es : Es)
  | lc (elt : E) (tg : Tg) (it : I) (cond : Es) (own : List (Str × Nat))
inductive Es where
  | nil | cons (e : E) (es : Es)
inductive Ps where
  | nil | cons (k e : E) (r : Ps)
inductive Eo where
  | none | some (e : E)
inductive I where
  | of (e : E) | range1 (e : E) | range2 (a b : E) | range3 (a b c : E) | zip (a b : E) | enum (a : E)
end
mutual
inductive S where
  | asg (i : Nat) (e : E) | unp (is : List Nat) (e : E) | ret (e : E) | retn | ifs (c : E) (a b : Ss) | fors (tg : Tg) (it : I) (body : Ss) | whiles (c : E) (body : Ss)
  | append (i : Nat) (e : E) | extend (i : Nat) (e : E) | aug (i : Nat) (op : Bop) (e : E) | pop (tg : Tg) (i : Nat) (e : Eo) | lput (i : Nat) (k e : E) | dput (i : Nat) (k e : E) | dupd (i : Nat) (e : E) | par (i j : Nat) (es : Es) | freeze (i : Nat) | lock (i : Nat) | pass | expr (e : E) | lend (x : Str) (j p i : Nat) (es : Es) | sfld (i c : Nat) (x : List Nat) (e : E) | apop (i j : Nat) (e : E)
inductive Ss where
  | nil | cons (s : S) (ss : Ss) | skip (c : E) (ss : Ss)
end
abbrev Env := List (Option T)
structure Kn where
  nx : Env → Prop
  rt : D → Prop
def slot (env : Env) (i : Nat) : Option T := (env[i]?).join
def wTg : Tg → D → Env → Option Env
  | .name i, d, env => some (env.set i (some (.v d)))
  | .tup is, .tup ds, env => if is.length = ds.length then some ((is.zip ds).foldl (fun e p => e.set p.1 (some (.v p.2))) env) else none
  | .tup is, .lst ds, env => if is.length = ds.length then some ((is.zip ds).foldl (fun e p => e.set p.1 (some (.v p.2))) env) else none
  | _, _, _ => none
def walked : D → Option (List D)
  | .lck kvs => some (kvs.map fun p => keyD p.1)
  | .tup xs => some xs
  | .lst xs => some xs
  | .str x => some (x.map fun c => .str [c])
  | _ => none
def rangeD (lo hi : Int) : List D := (List.range (hi - lo).toNat).map fun (k : Nat) => .int (lo + (k : Int))
def rangeC (lo c : Int) (n : Nat) : List D := (List.range n).map fun (k : Nat) => .int (lo + (k : Int) * c)
def enumD (xs : List D) : List D := (xs.zip (List.range xs.length)).map fun p => .tup [.int (p.2 : Int), p.1]
def popAt (xs : List D) : Option Int → Option (D × List D)
  | none => (xs[xs.length - 1]?).map fun d => (d, xs.dropLast)
  | some i => if 0 ≤ i ∧ i < 1152921504606846976 then (xs[i.toNat]?).map fun d => (d, xs.eraseIdx i.toNat) else none
def wipeE (env : Env) : List Nat → Env
  | [] => env
  | v :: vs => (wipeE env vs).set v none
def wLc (f : D → (Option D → Prop) → Prop) : List D → List D → (List D → Prop) → Prop
  | [], acc, Q => Q acc
  | d :: ds, acc, Q => f d fun r => match r with
    | some x => wLc f ds (acc ++ [x]) Q
    | none => wLc f ds acc Q
def wFor (f : D → Env → Kn → Prop) : List D → Env → Kn → Prop
  | [], env, k => k.nx env
  | d :: ds, env, k => f d env ⟨fun env' => wFor f ds env' k, k.rt⟩
def wWhile (c : Env → (Bool → Prop) → Prop) (b : Env → Kn → Prop) : Nat → Env → Kn → Prop
  | 0, _, _ => False
  | n + 1, env, k => c env fun t => if t = true then b env ⟨fun env' => wWhile c b n env' k, k.rt⟩ else k.nx env
def wOp (a : E) (w : (T → Prop) → Prop) (env : Env) (Q : D → Prop) : Prop := match a with
  | .var i => match slot env i with
    | some t => Q t.d
    | _ => False
  | _ => w fun t => Q t.d
def eFz (a : E) (env : Env) : Prop := match a with
  | .var i => match slot env i with
    | some (.v _) => True
    | _ => False
  | _ => True
def itOk (it : I) (env : Env) : Prop := match it with
  | .of a => eFz a env
  | .zip a b => eFz a env ∧ eFz b env
  | .enum a => eFz a env
  | _ => True
def globW (g : D) (Q : D → Prop) : Prop := match g with
  | .dct _ => False
  | d => Q d
def ginW (g : D) (d : D) (Q : Bool → Prop) : Prop := match g, d with
  | .dct kvs, .str z => Q (kget kvs (.inr (mkS z))).isSome
  | _, _ => False
def gixW (g : D) (d : D) (Q : D → Prop) : Prop := match g, d with
  | .dct kvs, .str z => match kget kvs (.inr (mkS z)) with
    | some x => Q x
    | none => False
  | _, _ => False
theorem globW_mono {g : D} {Q Q' : D → Prop} (h : ∀ d, Q d → Q' d) (x : globW g Q) : globW g Q' := by
  cases g <;> first | exact h _ x | exact x
theorem ginW_mono {g d : D} {Q Q' : Bool → Prop} (h : ∀ d, Q d → Q' d) (x : ginW g d Q) : ginW g d Q' := by
  cases g <;> first | exact x.elim | skip
  cases d <;> first | exact x.elim | exact h _ x
theorem gixW_mono {g d : D} {Q Q' : D → Prop} (h : ∀ d, Q d → Q' d) (x : gixW g d Q) : gixW g d Q' := by
  cases g <;> first | exact x.elim | skip
  cases d <;> first | exact x.elim | skip
  rename_i kvs z
  unfold gixW at x ⊢
  dsimp only at x ⊢
  cases e : kget kvs (.inr (mkS z)) with
  | none => rw [e] at x; exact x
  | some d => rw [e] at x; exact h _ x
def isB (Q : Bool → Prop) : T → Prop
  | .v (.bl b) => Q b
  | _ => False
section
variable (F : Nat → List D → (D → Prop) → Prop) (cg : Nat → D)
mutual
def wE : E → Env → (T → Prop) → Prop
  | .var i, env, Q => match slot env i with
    | some (.v d) => Q (.v d)
    | _ => False
  | .non, _, Q => Q (.v .non)
  | .bl b, _, Q => Q (.v (.bl b))
  | .int i, _, Q => Q (.v (.int i))
  | .str x, _, Q => Q (.v (.str x))
  | .glob _ j, _, Q => globW (cg j) fun d => Q (.v d)
  | .gin n _ j a, env, Q => wOp a (wE a env) env fun d => ginW (cg j) d fun b => Q (.v (.bl (if n then !b else b)))
  | .gix _ j a, env, Q => wOp a (wE a env) env fun d => gixW (cg j) d fun d => Q (.v d)
  | .fnv _ j, _, Q => Q (.v (.fn j))
  | .tup es, env, Q => wV es env fun ds => ds.length ≤ 16777216 ∧ Q (.v (.tup ds))
  | .lst es, env, Q => wV es env fun ds => ds.length ≤ 16777216 ∧ Q (.ol ds)
  | .dict0, _, Q => Q (.od [])
  | .dict ps, env, Q => wPs ps env fun kvs => kvs.length ≤ 15 ∧ Q (.od (kvs.foldl (fun acc kv => kput acc kv.1 kv.2) []))
  | .rev a, env, Q => wOp a (wE a env) env fun x => match x with
    | .lst xs => Q (.ol xs.reverse)
    | .tup xs => Q (.v (.tup xs.reverse))
    | _ => False
  | .sset a, env, Q => wOp a (wE a env) env fun x => match x.items with
    | some xs => xs.length < 4000 ∧ ∃ ts, texts xs = some ts ∧ (∃ us : List (List Nat), us.length < 64 ∧ ∀ x ∈ ts, x ∈ us) ∧ ∀ ys : List (List Nat), ys.Nodup → (∀ z, z ∈ ys ↔ z ∈ ts) → sortedN ys = true → Q (.ol (ys.map D.str))
    | none => False
  | .lset a, env, Q => wOp a (wE a env) env fun x => match x.items with
    | some xs => xs.length < 4000 ∧ ∃ ts, texts xs = some ts ∧ ∀ ys : List (List Nat), ys.Nodup → (∀ z, z ∈ ys ↔ z ∈ ts) → Q (.v (.int ys.length))
    | none => False
  | .dget a e o, env, Q => wOp a (wE a env) env fun x => match x with
    | .dct kvs => wOp e (wE e env) env fun y => match y.key with
      | some key => match o with
        | .none => Q (.v ((kget kvs key).getD .non))
        | .some e => wE e env fun t => Q (.v ((kget kvs key).getD t.d))
      | none => False
    | _ => False
  | .listr it, env, Q => wI it env fun ds => ds.length ≤ 16777216 ∧ Q (.ol ds)
  | .bin op a b, env, Q => wOp a (wE a env) env fun x => wOp b (wE b env) env fun y => wBin op x y Q
  | .neg a, env, Q => wOp a (wE a env) env fun x => match x with
    | .int i => Q (.v (.int (-i)))
    | _ => False
  | .cmp op a b, env, Q => wOp a (wE a env) env fun x => wOp b (wE b env) env fun y => wCmp op x y fun t => Q (.v (.bl t))
  | .chain op op' a b c, env, Q => wOp a (wE a env) env fun x => wOp b (wE b env) env fun y => wCmp op x y fun t => if t = true then wOp c (wE c env) env fun z => wCmp op' y z fun t' => Q (.v (.bl t')) else Q (.v (.bl false))
  | .conj es, env, Q => wAnd es env Q
  | .disj es, env, Q => wOr es env Q
  | .not a, env, Q => wE a env (isB fun b => Q (.v (.bl !b)))
  | .ite c a b, env, Q => wE c env (isB fun t => if t = true then wE a env Q else wE b env Q)
  | .ix a i, env, Q => wOp a (wE a env) env fun x => wOp i (wE i env) env fun y => wIx x y fun d => Q (.v d)
  | .cut a lo hi, env, Q => wOp a (wE a env) env fun x => wP lo env fun l => wP hi env fun h => wCut x l h Q
  | .call _ j es, env, Q => wV es env fun ds => F j ds fun d => Q (.v d)
  | .callb _ j es, env, Q => wOs es env fun ds => F j ds fun d => D.pureb d = true ∧ Q (.v d)
  | .calld _ j es dl, env, Q => wV es env fun ds => F j (ds ++ dl) fun d => Q (.v d)
  | .callv i es, env, Q => match slot env i with
    | some (.v (.fn j)) => wV es env fun ds => F j ds fun d => Q (.v d)
    | _ => False
  | .bi b es, env, Q => wOs es env fun ds => wBi b ds Q
  | .mt m a es, env, Q => wOp a (wE a env) env fun x => m.rcv x = true ∧ wOs es env fun ds => wMt m x ds Q
  | .isinst a t, env, Q => wOp a (wE a env) env fun x => match wTy t x with
    | some b => Q (.v (.bl b))
    | none => False
  | .dictof a, env, Q => wOp a (wE a env) env fun d => wDict d Q
  | .litems a, env, Q => wOp a (wE a env) env fun d => wItems d Q
  | .tpkof a, env, Q => wOp a (wE a env) env fun d => match d with
    | .lst xs => Q (.v (.tpk xs))
    | _ => False
  | .tp a, env, Q => wOp a (wE a env) env fun d => match d with
    | .tpk xs => Q (.v (.tup xs))
    | .tup xs => Q (.v (.tup xs))
    | _ => False
  | .fld c a x, env, Q => wOp a (wE a env) env fun d => match d with
    | .obj c' ks => c' = c ∧ match kget ks (.inr (mkS x)) with
      | some d => Q (.v d)
      | none => False
    | _ => False
  | .meth c a m j es, env, Q => wE a env fun t => match t with
    | .v (.obj c' ks) => (c' = c ∧ (kget ks (.inr (mkS m))).isNone = true) ∧ wV es env fun ds => F j (.obj c ks :: ds) fun d => Q (.v d)
    | _ => False
  | .mk _ c j es, env, Q => wV es env fun ds => F j ds fun d => match d with
    | .obj c' ks => c' = c ∧ Q (.v (.obj c ks))
    | _ => False
  | .lc elt tg it cond own, env, Q => wI it env fun ds => ds.length < 16777216 ∧ wLc (fun d k => match wTg tg d (wipeE env (own.map (·.2))) with
      | some env' => wCs cond env' fun t => if t = true then wE elt env' fun x => k (some x.d) else k none
      | none => False) ds [] fun acc => Q (.ol acc)
def wAnd : Es → Env → (T → Prop) → Prop
  | .nil, _, _ => False
  | .cons a r, env, Q => wE a env fun t => match r with
    | .nil => Q t
    | .cons _ _ => isB (fun c => if c = true then wAnd r env Q else Q (.v (.bl false))) t
def wOr : Es → Env → (T → Prop) → Prop
  | .nil, _, _ => False
  | .cons a r, env, Q => wE a env fun t => match r with
    | .nil => Q t
    | .cons _ _ => isB (fun c => if c = true then Q (.v (.bl true)) else wOr r env Q) t
def wPs : Ps → Env → (List (Key × D) → Prop) → Prop
  | .nil, _, Q => Q []
  | .cons e x r, env, Q => wOp e (wE e env) env fun y => match y.key with
    | some key => wE x env fun t => wPs r env fun kvs => Q ((key, t.d) :: kvs)
    | none => False
def wP : Eo → Env → (Option Int → Prop) → Prop
  | .none, _, Q => Q none
  | .some e, env, Q => wOp e (wE e env) env fun x => match x with
    | .int i => Q (some i)
    | _ => False
def wV : Es → Env → (List D → Prop) → Prop
  | .nil, _, Q => Q []
  | .cons e r, env, Q => wE e env fun x => wV r env fun xs => Q (x.d :: xs)
def wOs : Es → Env → (List D → Prop) → Prop
  | .nil, _, Q => Q []
  | .cons e r, env, Q => wOp e (wE e env) env fun x => wOs r env fun xs => Q (x :: xs)
def wCs : Es → Env → (Bool → Prop) → Prop
  | .nil, _, Q => Q true
  | .cons e r, env, Q => match r with
    | .nil => wE e env (isB Q)
    | .cons _ _ => False
def wI : I → Env → (List D → Prop) → Prop
  | .of e, env, Q => wOp e (wE e env) env fun x => match walked x with
    | some ds => Q ds
    | none => False
  | .range1 e, env, Q => wOp e (wE e env) env fun x => match x with
    | .int i => (-(2 ^ 62) ≤ i ∧ i < 2 ^ 62) ∧ Q (rangeD 0 i)
    | _ => False
  | .range2 a b, env, Q => wOp a (wE a env) env fun x => wOp b (wE b env) env fun y => match x, y with
    | .int i, .int j => (-(2 ^ 62) ≤ i ∧ i < 2 ^ 62 ∧ -(2 ^ 62) ≤ j ∧ j < 2 ^ 62) ∧ Q (rangeD i j)
    | _, _ => False
  | .range3 a b c, env, Q => wOp a (wE a env) env fun x => wOp b (wE b env) env fun y => wOp c (wE c env) env fun z => match x, y, z with
    | .int i, .int j, .int l => ∃ n, RgC i j l n ∧ Q (rangeC i l n)
    | _, _, _ => False
  | .zip a b, env, Q => wOp a (wE a env) env fun x => wOp b (wE b env) env fun y => match x, y with
    | .tup xs, .tup ys => Q (zipD xs ys)
    | .lst xs, .lst ys => Q (zipD xs ys)
    | .tup xs, .lst ys => Q (zipD xs ys)
    | _, _ => False
  | .enum a, env, Q => wOp a (wE a env) env fun x => match x with
    | .lst xs => Q (enumD xs)
    | .tup xs => Q (enumD xs)
    | _ => False
end
mutual
def wS : S → Env → Kn → Prop
  | .asg i e, env, k => wE F cg e env fun t => k.nx (env.set i (some t))
  | .unp is e, env, k => wE F cg e env fun t => match wTg (.tup is) t.d env with
    | some env' => k.nx env'
    | none => False
  | .ret e, env, k => wOp e (wE F cg e env) env k.rt
  | .retn, _, k => k.rt .non
  | .ifs c a b, env, k => wE F cg c env (isB fun t => if t = true then wSs a env k else wSs b env k)
  | .fors tg it body, env, k => itOk it env ∧ wI F cg it env fun ds => wFor (fun d env k => match wTg tg d env with
      | some env' => wSs body env' k
      | none => False) ds env k
  | .whiles c body, env, k => ∃ n, wWhile (fun env Q => wE F cg c env (isB Q)) (fun env k => wSs body env k) n env k
  | .append i e, env, k => match slot env i with
    | some (.ol ds) => ds.length < 16777216 ∧ wE F cg e env fun t => k.nx (env.set i (some (.ol (ds ++ [t.d]))))
    | _ => False
  | .extend i e, env, k => match slot env i with
    | some (.ol ds) => wOp e (wE F cg e env) env fun x => match x with
      | .lst xs => ds.length + xs.length ≤ 16777216 ∧ k.nx (env.set i (some (.ol (ds ++ xs))))
      | _ => False
    | _ => False
  | .aug i op e, env, k => match slot env i with
    | some (.v (.int a)) => (op = .add ∨ op = .sub) ∧ wOp e (wE F cg e env) env fun y => match y with
      | .int b => k.nx (env.set i (some (.v (.int (if op = .add then a + b else a - b)))))
      | _ => False
    | _ => False
  | .pop tg i e, env, k => match slot env i with
    | some (.ol ds) => wP F cg e env fun o => match popAt ds o with
      | some (d, r) => match wTg tg d (env.set i (some (.ol r))) with
        | some env' => k.nx env'
        | none => False
      | none => False
    | _ => False
  | .lput i ke e, env, k => match slot env i with
    | some (.ol ds) => wE F cg e env fun t => wOp ke (wE F cg ke env) env fun y => match y with
      | .int n => match ixN ds.length n with
        | some j => k.nx (env.set i (some (.ol (ds.set j t.d))))
        | none => False
      | _ => False
    | _ => False
  | .dupd i e, env, k => match slot env i with
    | some (.od kvs) => wE F cg e env fun t => match t.d with
      | .dct more => kvs.length + more.length ≤ 16777216 ∧ k.nx (env.set i (some (.od (more.foldl (fun acc kv => kput acc kv.1 kv.2) kvs))))
      | _ => False
    | _ => False
  | .dput i ke e, env, k => match slot env i with
    | some (.od kvs) => kvs.length < 16777216 ∧ wE F cg e env fun t => wOp ke (wE F cg ke env) env fun kd => match kd.key with
      | some key => k.nx (env.set i (some (.od (kput kvs key t.d))))
      | none => False
    | some (.op kvs) => kvs.length < 16777216 ∧ wE F cg e env fun t => wOp ke (wE F cg ke env) env fun kd => match kd.key with
      | some key => k.nx (env.set i (some (.op (kput kvs key t.d))))
      | none => False
    | _ => False
  | .par i j es, env, k => wV F cg es env fun ds => match ds with
    | [d1, d2] => k.nx ((env.set i (some (.v d1))).set j (some (.v d2)))
    | _ => False
  | .freeze i, env, k => match slot env i with
    | some t => k.nx (env.set i (some (.v t.d)))
    | _ => False
  | .lock i, env, k => match slot env i with
    | some (.od kvs) => k.nx (env.set i (some (.v (.lck kvs))))
    | _ => False
  | .sfld i c x e, env, k => match slot env i with
    | some (.ob c' ks) => (c' = c ∧ ks.length < 1000) ∧ wE F cg e env fun t => k.nx (env.set i (some (.ob c (kputF (.inr (mkS x)) t.d ks))))
    | _ => False
  | .apop i j e, env, k => match slot env i, slot env j with
    | some (.ol ds), some (.ol es) => i ≠ j ∧ wOp e (wE F cg e env) env fun y => match y with
      | .int n => (0 ≤ n ∧ n < 1152921504606846976) ∧ match es[n.toNat]? with
        | some d => ds.length < 16777216 ∧ k.nx ((env.set j (some (.ol (es.eraseIdx n.toNat)))).set i (some (.ol (ds ++ [d]))))
        | none => False
      | _ => False
    | _, _ => False
  | .pass, env, k => k.nx env
  | .expr e, env, k => wE F cg e env fun _ => k.nx env
  | .lend _ j _ i es, env, k => match slot env i with
    | some (.od kvs) => wV F cg es env fun ds => F j (.dct kvs :: ds) fun d => match d with
      | .dct kvs' => k.nx (env.set i (some (.od kvs')))
      | _ => False
    | some (.op kvs) => wV F cg es env fun ds => F j (.dct kvs :: ds) fun d => match d with
      | .dct kvs' => k.nx (env.set i (some (.op kvs')))
      | _ => False
    | _ => False
def wSs : Ss → Env → Kn → Prop
  | .nil, env, k => k.nx env
  | .cons s ss, env, k => wS s env ⟨fun env' => wSs ss env' k, k.rt⟩
  | .skip c ss, env, k => wE F cg c env (isB fun t => if t = true then k.nx env else wSs ss env k)
end
end
theorem isB.mono {Q Q' : Bool → Prop} (h : ∀ b, Q b → Q' b) : ∀ t, isB Q t → isB Q' t
  | .v (.bl b), x => h b x
theorem wBin_mono {Q Q' : T → Prop} (h : ∀ t, Q t → Q' t) (op : Bop) (a b : D) (x : wBin op a b Q) : wBin op a b Q' := by
  unfold wBin at x ⊢
  split at x
  all_goals first | exact h _ x | exact ⟨x.1, h _ x.2⟩ | exact False.elim x
theorem wCmp_mono {Q Q' : Bool → Prop} (h : ∀ t, Q t → Q' t) (op : Cop) (a b : D) (x : wCmp op a b Q) : wCmp op a b Q' := by
  unfold wCmp at x ⊢
  split at x
  all_goals first | (revert x; cases D.key a <;> first | exact fun q => h _ q | exact fun q => q) | exact h _ x | exact ⟨x.1, h _ x.2⟩ | exact False.elim x | (obtain ⟨k, e, q⟩ := x; exact ⟨k, e, h _ q⟩)
theorem wIx_mono {Q Q' : D → Prop} (h : ∀ t, Q t → Q' t) (a b : D) (x : wIx a b Q) : wIx a b Q' := by
  unfold wIx at x ⊢
  split at x
  · split at x
    · exact h _ x
    · exact False.elim x
  · split at x
    · exact h _ x
    · exact False.elim x
  · split at x
    · exact h _ x
    · exact False.elim x
  · revert x
    cases D.key b with
    | none => exact fun q => q
    | some key =>
      dsimp only
      cases kget _ key with
      | none => exact fun q => q
      | some d => exact fun q => h _ q
  · revert x
    cases D.key b with
    | none => exact fun q => q
    | some key =>
      dsimp only
      cases kget _ key with
      | none => exact fun q => q
      | some d => exact fun q => h _ q
  · exact False.elim x
theorem wCut_mono {Q Q' : T → Prop} (h : ∀ t, Q t → Q' t) (a : D) (lo hi : Option Int) (x : wCut a lo hi Q) : wCut a lo hi Q' := by
  unfold wCut at x ⊢
  split at x
  all_goals first | exact h _ x | exact False.elim x
theorem wBi_mono {Q Q' : T → Prop} (h : ∀ t, Q t → Q' t) (b : Bi) (ds : List D) (x : wBi b ds Q) : wBi b ds Q' := by
  unfold wBi at x ⊢
  split at x
  all_goals first | exact h _ x | exact False.elim x | exact ⟨x.1, h _ x.2⟩ | (obtain ⟨k, e, q⟩ := x; exact ⟨k, e, fun ys p z => h _ (q ys p z)⟩) | (obtain ⟨k, e, q⟩ := x; exact ⟨k, e, fun ys p => h _ (q ys p)⟩) | (obtain ⟨k, e, q⟩ := x; exact ⟨k, e, h _ q⟩) | (obtain ⟨e0, k, e, q⟩ := x; exact ⟨e0, k, e, fun ys p s => h _ (q ys p s)⟩) | (obtain ⟨k, e, e0, q⟩ := x; exact ⟨k, e, e0, fun m p s => h _ (q m p s)⟩)
theorem wMt_mono {Q Q' : T → Prop} (h : ∀ t, Q t → Q' t) (m : Mt) (a : D) (ds : List D) (x : wMt m a ds Q) : wMt m a ds Q' := by
  unfold wMt at x ⊢
  split at x
  all_goals first | exact h _ x | exact False.elim x | exact ⟨x.1, h _ x.2⟩ | (obtain ⟨k, e, e2, q⟩ := x; exact ⟨k, e, e2, h _ q⟩) | (revert x; cases occN _ _ <;> first | exact fun q => h _ q | exact fun q => q) | (obtain ⟨x1, x2⟩ := x; refine ⟨x1, ?_⟩; revert x2; cases List.findIdx? _ _ <;> first | exact fun q => h _ q | exact fun q => q)
theorem wOp_mono {a : E} {w w' : (T → Prop) → Prop} {env : Env} {Q Q' : D → Prop} (hw : ∀ P P' : T → Prop, (∀ t, P t → P' t) → w P → w' P') (h : ∀ d, Q d → Q' d) (x : wOp a w env Q) : wOp a w' env Q' := by
  unfold wOp at x ⊢
  split at x
  · split at x
    · exact h _ x
    · exact False.elim x
  · exact hw _ _ (fun t q => h _ q) x
theorem wLc_mono {f f' : D → (Option D → Prop) → Prop} (hf : ∀ d P P', (∀ r, P r → P' r) → f d P → f' d P') : ∀ (ds acc : List D) (Q Q' : List D → Prop), (∀ l, Q l → Q' l) → wLc f ds acc Q → wLc f' ds acc Q'
  | [], acc, Q, Q', h, x => h _ x
  | d :: ds, acc, Q, Q', h, x => hf d _ _ (fun r q => by
    cases r with
    | some y => exact wLc_mono hf ds _ Q Q' h q
    | none => exact wLc_mono hf ds _ Q Q' h q) x
structure Kn.Le (k k' : Kn) : Prop where
  nx : ∀ env, k.nx env → k'.nx env
  rt : ∀ d, k.rt d → k'.rt d
theorem wFor_mono {f : D → Env → Kn → Prop} (hf : ∀ d env k k', Kn.Le k k' → f d env k → f d env k') : ∀ (ds : List D) (env : Env) (k k' : Kn), Kn.Le k k' → wFor f ds env k → wFor f ds env k'
  | [], env, k, k', h, x => h.nx _ x
  | d :: ds, env, k, k', h, x => hf d env ⟨fun env' => wFor f ds env' k, k.rt⟩ ⟨fun env' => wFor f ds env' k', k'.rt⟩ ⟨fun env' q => wFor_mono hf ds env' k k' h q, h.rt⟩ x
theorem wWhile_mono {c : Env → (Bool → Prop) → Prop} {b : Env → Kn → Prop} (hc : ∀ env P P', (∀ t, P t → P' t) → c env P → c env P') (hb : ∀ env k k', Kn.Le k k' → b env k → b env k') :
    ∀ (n : Nat) (env : Env) (k k' : Kn), Kn.Le k k' → wWhile c b n env k → wWhile c b n env k'
  | 0, _, _, _, _, x => False.elim x
  | n + 1, env, k, k', h, x => hc env _ _ (fun t q => by
    by_cases ht : t = true
    · rw [if_pos ht] at q ⊢
      exact hb env ⟨fun env' => wWhile c b n env' k, k.rt⟩ ⟨fun env' => wWhile c b n env' k', k'.rt⟩ ⟨fun env' q => wWhile_mono hc hb n env' k k' h q, h.rt⟩ q
    · rw [if_neg ht] at q ⊢
      exact h.nx _ q) x
section
variable {F : Nat → List D → (D → Prop) → Prop} {cg : Nat → D} (hF : ∀ j ds Q Q', (∀ d, Q d → Q' d) → F j ds Q → F j ds Q')
include hF
mutual
theorem wE_mono : ∀ (e : E) (env : Env) (Q Q' : T → Prop), (∀ t, Q t → Q' t) → wE F cg e env Q → wE F cg e env Q'
  | .var i, env, Q, Q', h, x => by
    unfold wE at x ⊢
    split at x
    · exact h _ x
    · exact False.elim x
  | .non, _, _, _, h, x => h _ x
  | .bl _, _, _, _, h, x => h _ x
  | .int _, _, _, _, h, x => h _ x
  | .str _, _, _, _, h, x => h _ x
  | .glob _ _, _, _, _, h, x => globW_mono (fun _ q => h _ q) x
  | .gin _ _ _ a, env, _, _, h, x => wOp_mono (wE_mono a env) (fun _ q => ginW_mono (fun _ q => h _ q) q) x
  | .gix _ _ a, env, _, _, h, x => wOp_mono (wE_mono a env) (fun _ q => gixW_mono (fun _ q => h _ q) q) x
  | .fnv _ _, _, _, _, h, x => h _ x
  | .tup es, env, _, _, h, x => wV_mono es env _ _ (fun _ q => ⟨q.1, h _ q.2⟩) x
  | .lst es, env, _, _, h, x => wV_mono es env _ _ (fun _ q => ⟨q.1, h _ q.2⟩) x
  | .dict0, _, _, _, h, x => h _ x
  | .dict ps, env, _, _, h, x => wPs_mono ps env _ _ (fun _ q => ⟨q.1, h _ q.2⟩) x
  | .rev a, env, _, _, h, x => wOp_mono (wE_mono a env) (fun d q => by
    cases d with
    | lst i => exact h _ q
    | tup i => exact h _ q
    | _ => exact False.elim q) x
  | .sset a, env, _, _, h, x => wOp_mono (wE_mono a env) (fun d q => by
    revert q
    cases d.items with
    | none => exact fun q => q
    | some xs => exact fun ⟨q1, ts, q2, q4, q3⟩ => ⟨q1, ts, q2, q4, fun ys y1 y2 y3 => h _ (q3 ys y1 y2 y3)⟩) x
  | .lset a, env, _, _, h, x => wOp_mono (wE_mono a env) (fun d q => by
    revert q
    cases d.items with
    | none => exact fun q => q
    | some xs => exact fun ⟨q1, ts, q2, q3⟩ => ⟨q1, ts, q2, fun ys y1 y2 => h _ (q3 ys y1 y2)⟩) x
  | .dget a e .none, env, Q, Q', h, x => by
    unfold wE at x ⊢
    refine wOp_mono (wE_mono a env) (fun d q => ?_) x
    cases d with
    | dct kvs =>
      refine wOp_mono (wE_mono e env) (fun y q => ?_) q
      revert q
      cases D.key y with
      | none => exact fun q => q
      | some key => exact fun q => h _ q
    | _ => exact False.elim q
  | .dget a e (.some e2), env, Q, Q', h, x => by
    unfold wE at x ⊢
    refine wOp_mono (wE_mono a env) (fun d q => ?_) x
    cases d with
    | dct kvs =>
      refine wOp_mono (wE_mono e env) (fun y q => ?_) q
      revert q
      cases D.key y with
      | none => exact fun q => q
      | some key => exact fun q => wE_mono e2 env _ _ (fun t q => h _ q) q
    | _ => exact False.elim q
  | .listr it, env, _, _, h, x => wI_mono it env _ _ (fun _ q => ⟨q.1, h _ q.2⟩) x
  | .bin op a b, env, _, _, h, x => wOp_mono (wE_mono a env) (fun _ q => wOp_mono (wE_mono b env) (fun _ q => wBin_mono h _ _ _ q) q) x
  | .neg a, env, _, _, h, x => wOp_mono (wE_mono a env) (fun d q => by
    cases d with
    | int i => exact h _ q
    | _ => exact False.elim q) x
  | .cmp op a b, env, _, _, h, x => wOp_mono (wE_mono a env) (fun _ q => wOp_mono (wE_mono b env) (fun _ q => wCmp_mono (fun _ q => h _ q) _ _ _ q) q) x
  | .chain op op' a b c, env, _, _, h, x => wOp_mono (wE_mono a env) (fun _ q => wOp_mono (wE_mono b env) (fun _ q => wCmp_mono (fun t q => by
    by_cases ht : t = true
    · rw [if_pos ht] at q ⊢
      exact wOp_mono (wE_mono c env) (fun _ q => wCmp_mono (fun _ q => h _ q) _ _ _ q) q
    · rw [if_neg ht] at q ⊢
      exact h _ q) _ _ _ q) q) x
  | .conj es, env, _, _, h, x => wAnd_mono es env _ _ h x
  | .disj es, env, _, _, h, x => wOr_mono es env _ _ h x
  | .not a, env, _, _, h, x => wE_mono a env _ _ (isB.mono fun _ q => h _ q) x
  | .ite c a b, env, _, _, h, x => wE_mono c env _ _ (isB.mono fun t q => by
    by_cases ht : t = true
    · rw [if_pos ht] at q ⊢
      exact wE_mono a env _ _ h q
    · rw [if_neg ht] at q ⊢
      exact wE_mono b env _ _ h q) x
  | .ix a i, env, _, _, h, x => wOp_mono (wE_mono a env) (fun _ q => wOp_mono (wE_mono i env) (fun _ q => wIx_mono (fun _ q => h _ q) _ _ q) q) x
  | .cut a lo hi, env, _, _, h, x => wOp_mono (wE_mono a env) (fun _ q => wP_mono lo env _ _ (fun _ q => wP_mono hi env _ _ (fun _ q => wCut_mono h _ _ _ q) q) q) x
  | .call _ j es, env, _, _, h, x => wV_mono es env _ _ (fun _ q => hF _ _ _ _ (fun _ q => h _ q) q) x
  | .callb _ j es, env, _, _, h, x => wOs_mono es env _ _ (fun _ q => hF _ _ _ _ (fun _ q => ⟨q.1, h _ q.2⟩) q) x
  | .calld _ j es _, env, _, _, h, x => wV_mono es env _ _ (fun _ q => hF _ _ _ _ (fun _ q => h _ q) q) x
  | .callv i es, env, _, _, h, x => by
    unfold wE at x ⊢
    split at x
    · exact wV_mono es env _ _ (fun _ q => hF _ _ _ _ (fun _ q => h _ q) q) x
    · exact False.elim x
  | .bi b es, env, _, _, h, x => wOs_mono es env _ _ (fun _ q => wBi_mono h _ _ q) x
  | .mt m a es, env, _, _, h, x => wOp_mono (wE_mono a env) (fun _ q => ⟨q.1, wOs_mono es env _ _ (fun _ q => wMt_mono h _ _ _ q) q.2⟩) x
  | .isinst a t, env, _, _, h, x => wOp_mono (wE_mono a env) (fun d q => by
    revert q
    cases wTy t d with
    | some b => exact fun q => h _ q
    | none => exact fun q => q) x
  | .dictof a, env, _, _, h, x => wOp_mono (wE_mono a env) (fun _ q => wDict_mono h q) x
  | .litems a, env, _, _, h, x => wOp_mono (wE_mono a env) (fun _ q => wItems_mono h q) x
  | .tpkof a, env, _, _, h, x => wOp_mono (wE_mono a env) (fun d q => by cases d <;> first | exact h _ q | exact q.elim) x
  | .tp a, env, _, _, h, x => wOp_mono (wE_mono a env) (fun d q => by cases d <;> first | exact h _ q | exact q.elim) x
  | .fld c a y, env, _, _, h, x => wOp_mono (wE_mono a env) (fun d q => by
    cases d with
    | obj c' ks =>
      obtain ⟨q1, q2⟩ := q
      refine ⟨q1, ?_⟩
      revert q2
      cases kget ks (.inr (mkS y)) with
      | none => exact fun q => q
      | some d => exact fun q => h _ q
    | _ => exact q.elim) x
  | .meth c a m j es, env, _, _, h, x => wE_mono a env _ _ (fun t q => by
    cases t with
    | v d =>
      cases d with
      | obj c' ks => exact ⟨q.1, wV_mono es env _ _ (fun ds q => hF _ _ _ _ (fun d q => h _ q) q) q.2⟩
      | _ => exact q.elim
    | _ => exact q.elim) x
  | .mk _ c j es, env, _, _, h, x => wV_mono es env _ _ (fun ds q => hF _ _ _ _ (fun d q => by cases d <;> first | exact ⟨q.1, h _ q.2⟩ | exact q.elim) q) x
  | .lc elt tg it cond own, env, _, _, h, x => wI_mono it env _ _ (fun ds q => ⟨q.1, wLc_mono (fun d P P' hP q => by
    revert q
    cases wTg tg d (wipeE env (own.map (·.2))) with
    | some env' => exact fun q => wCs_mono cond env' _ _ (fun t q => by
        by_cases ht : t = true
        · rw [if_pos ht] at q ⊢
          exact wE_mono elt env' _ _ (fun _ q => hP _ q) q
        · rw [if_neg ht] at q ⊢
          exact hP _ q) q
    | none => exact fun q => q) ds [] _ _ (fun _ q => h _ q) q.2⟩) x
theorem wAnd_mono : ∀ (es : Es) (env : Env) (Q Q' : T → Prop), (∀ t, Q t → Q' t) → wAnd F cg es env Q → wAnd F cg es env Q'
  | .nil, _, _, _, _, x => False.elim x
  | .cons a .nil, env, _, _, h, x => wE_mono a env _ _ h x
  | .cons a (.cons b r), env, _, _, h, x => wE_mono a env _ _ (isB.mono fun t q => by
    by_cases ht : t = true
    · rw [if_pos ht] at q ⊢
      exact wAnd_mono (.cons b r) env _ _ h q
    · rw [if_neg ht] at q ⊢
      exact h _ q) x
theorem wOr_mono : ∀ (es : Es) (env : Env) (Q Q' : T → Prop), (∀ t, Q t → Q' t) → wOr F cg es env Q → wOr F cg es env Q'
  | .nil, _, _, _, _, x => False.elim x
  | .cons a .nil, env, _, _, h, x => wE_mono a env _ _ h x
  | .cons a (.cons b r), env, _, _, h, x => wE_mono a env _ _ (isB.mono fun t q => by
    by_cases ht : t = true
    · rw [if_pos ht] at q ⊢
      exact h _ q
    · rw [if_neg ht] at q ⊢
      exact wOr_mono (.cons b r) env _ _ h q) x
theorem wP_mono : ∀ (e : Eo) (env : Env) (Q Q' : Option Int → Prop), (∀ t, Q t → Q' t) → wP F cg e env Q → wP F cg e env Q'
  | .none, _, _, _, h, x => h _ x
  | .some e, env, Q, Q', h, x => by
    unfold wP at x ⊢
    refine wOp_mono (wE_mono e env) (fun d q => ?_) x
    cases d with
    | int i => exact h _ q
    | _ => exact False.elim q
theorem wPs_mono : ∀ (ps : Ps) (env : Env) (Q Q' : List (Key × D) → Prop), (∀ t, Q t → Q' t) → wPs F cg ps env Q → wPs F cg ps env Q'
  | .nil, _, _, _, h, x => h _ x
  | .cons e a r, env, _, _, h, x => wOp_mono (wE_mono e env) (fun y q => by
    revert q
    cases D.key y with
    | none => exact fun q => q
    | some key => exact fun q => wE_mono a env _ _ (fun t q => wPs_mono r env _ _ (fun _ q => h _ q) q) q) x
theorem wV_mono : ∀ (es : Es) (env : Env) (Q Q' : List D → Prop), (∀ t, Q t → Q' t) → wV F cg es env Q → wV F cg es env Q'
  | .nil, _, _, _, h, x => h _ x
  | .cons e r, env, _, _, h, x => wE_mono e env _ _ (fun _ q => wV_mono r env _ _ (fun _ q => h _ q) q) x
theorem wOs_mono : ∀ (es : Es) (env : Env) (Q Q' : List D → Prop), (∀ t, Q t → Q' t) → wOs F cg es env Q → wOs F cg es env Q'
  | .nil, _, _, _, h, x => h _ x
  | .cons e r, env, _, _, h, x => wOp_mono (wE_mono e env) (fun _ q => wOs_mono r env _ _ (fun _ q => h _ q) q) x
theorem wCs_mono : ∀ (es : Es) (env : Env) (Q Q' : Bool → Prop), (∀ t, Q t → Q' t) → wCs F cg es env Q → wCs F cg es env Q'
  | .nil, _, _, _, h, x => h _ x
  | .cons e .nil, env, _, _, h, x => wE_mono e env _ _ (isB.mono h) x
  | .cons _ (.cons _ _), _, _, _, _, x => False.elim x
theorem wI_mono : ∀ (it : I) (env : Env) (Q Q' : List D → Prop), (∀ t, Q t → Q' t) → wI F cg it env Q → wI F cg it env Q'
  | .of e, env, _, _, h, x => by
    unfold wI at x ⊢
    refine wOp_mono (wE_mono e env) (fun d q => ?_) x
    revert q
    cases walked d with
    | some b => exact fun q => h _ q
    | none => exact fun q => q
  | .range1 e, env, _, _, h, x => by
    unfold wI at x ⊢
    refine wOp_mono (wE_mono e env) (fun d q => ?_) x
    cases d with
    | int i => exact ⟨q.1, h _ q.2⟩
    | _ => exact False.elim q
  | .range2 a b, env, _, _, h, x => by
    unfold wI at x ⊢
    refine wOp_mono (wE_mono a env) (fun _ q => wOp_mono (wE_mono b env) (fun _ q => ?_) q) x
    split at q
    · exact ⟨q.1, h _ q.2⟩
    · exact False.elim q
  | .range3 a b c, env, _, _, h, x => by
    unfold wI at x ⊢
    refine wOp_mono (wE_mono a env) (fun _ q => wOp_mono (wE_mono b env) (fun _ q => wOp_mono (wE_mono c env) (fun _ q => ?_) q) q) x
    split at q
    · obtain ⟨n, q1, q2⟩ := q
      exact ⟨n, q1, h _ q2⟩
    · exact False.elim q
  | .zip a b, env, _, _, h, x => by
    unfold wI at x ⊢
    refine wOp_mono (wE_mono a env) (fun _ q => wOp_mono (wE_mono b env) (fun _ q => ?_) q) x
    split at q
    · exact h _ q
    · exact h _ q
    · exact h _ q
    · exact False.elim q
  | .enum a, env, _, _, h, x => by
    unfold wI at x ⊢
    refine wOp_mono (wE_mono a env) (fun _ q => ?_) x
    split at q
    · exact h _ q
    · exact h _ q
    · exact False.elim q
end
mutual
theorem wS_mono : ∀ (s : S) (env : Env) (k k' : Kn), Kn.Le k k' → wS F cg s env k → wS F cg s env k'
  | .asg i e, env, _, _, h, x => wE_mono hF e env _ _ (fun _ q => h.nx _ q) x
  | .unp is e, env, _, _, h, x => wE_mono hF e env _ _ (fun t q => by
    revert q
    cases wTg (.tup is) t.d env with
    | some b => exact fun q => h.nx _ q
    | none => exact fun q => q) x
  | .ret e, env, _, _, h, x => wOp_mono (wE_mono hF e env) (fun _ q => h.rt _ q) x
  | .retn, _, _, _, h, x => h.rt _ x
  | .ifs c a b, env, _, _, h, x => wE_mono hF c env _ _ (isB.mono fun t q => by
    by_cases ht : t = true
    · rw [if_pos ht] at q ⊢
      exact wSs_mono a env _ _ h q
    · rw [if_neg ht] at q ⊢
      exact wSs_mono b env _ _ h q) x
  | .fors tg it body, env, _, _, h, x => ⟨x.1, wI_mono hF it env _ _ (fun ds q => wFor_mono (fun d env k k' hk q => by
    revert q
    cases wTg tg d env with
    | some env' => exact fun q => wSs_mono body env' _ _ hk q
    | none => exact fun q => q) ds env _ _ h q) x.2⟩
  | .whiles c body, env, _, _, h, x => by
    obtain ⟨n, x⟩ := x
    exact ⟨n, wWhile_mono (fun env P P' hP q => wE_mono hF c env _ _ (isB.mono hP) q) (fun env k k' hk q => wSs_mono body env k k' hk q) n env _ _ h x⟩
  | .append i e, env, _, _, h, x => by
    unfold wS at x ⊢
    split at x
    · exact ⟨x.1, wE_mono hF e env _ _ (fun t q => h.nx _ q) x.2⟩
    · exact False.elim x
  | .extend i e, env, _, _, h, x => by
    unfold wS at x ⊢
    split at x
    · refine wOp_mono (wE_mono hF e env) (fun d q => ?_) x
      cases d with
      | lst i => exact ⟨q.1, h.nx _ q.2⟩
      | _ => exact False.elim q
    · exact False.elim x
  | .aug i op e, env, _, _, h, x => by
    unfold wS at x ⊢
    split at x
    · refine ⟨x.1, wOp_mono (wE_mono hF e env) (fun d q => ?_) x.2⟩
      cases d with
      | int i => exact h.nx _ q
      | _ => exact False.elim q
    · exact False.elim x
  | .pop tg i e, env, _, _, h, x => by
    unfold wS at x ⊢
    split at x
    · refine wP_mono hF e env _ _ (fun o q => ?_) x
      revert q
      cases popAt _ o with
      | none => exact fun q => q
      | some p =>
        dsimp only
        cases wTg tg p.1 _ with
        | none => exact fun q => q
        | some env' => exact fun q => h.nx _ q
    · exact False.elim x
  | .lput i ke e, env, _, _, h, x => by
    unfold wS at x ⊢
    split at x
    · refine wE_mono hF e env _ _ (fun t q => wOp_mono (wE_mono hF ke env) (fun d q => ?_) q) x
      cases d with
      | int n =>
        revert q
        dsimp only
        cases ixN _ n with
        | none => exact fun q => q
        | some j => exact fun q => h.nx _ q
      | _ => exact False.elim q
    · exact False.elim x
  | .dupd i e, env, _, _, h, x => by
    unfold wS at x ⊢
    split at x
    · refine wE_mono hF e env _ _ (fun t q => ?_) x
      split at q
      · exact ⟨q.1, h.nx _ q.2⟩
      · exact False.elim q
    · exact False.elim x
  | .dput i ke e, env, _, _, h, x => by
    unfold wS at x ⊢
    split at x
    · refine ⟨x.1, wE_mono hF e env _ _ (fun t q => wOp_mono (wE_mono hF ke env) (fun kd q => ?_) q) x.2⟩
      split at q
      · exact h.nx _ q
      · exact False.elim q
    · refine ⟨x.1, wE_mono hF e env _ _ (fun t q => wOp_mono (wE_mono hF ke env) (fun kd q => ?_) q) x.2⟩
      split at q
      · exact h.nx _ q
      · exact False.elim q
    · exact False.elim x
  | .par i j es, env, _, _, h, x => wV_mono hF es env _ _ (fun ds q => by
    split at q
    · exact h.nx _ q
    · exact False.elim q) x
  | .freeze i, env, _, _, h, x => by
    unfold wS at x ⊢
    split at x
    · exact h.nx _ x
    · exact False.elim x
  | .lock i, env, _, _, h, x => by
    unfold wS at x ⊢
    split at x
    · exact h.nx _ x
    · exact False.elim x
  | .apop i j e, env, _, _, h, x => by
    unfold wS at x ⊢
    split at x
    · rename_i ds es' _ _
      refine ⟨x.1, wOp_mono (wE_mono hF e env) (fun y q => ?_) x.2⟩
      cases y with
      | int n =>
        obtain ⟨q1, q2⟩ := q
        refine ⟨q1, ?_⟩
        revert q2
        cases es'[n.toNat]? with
        | none => exact fun q => q
        | some d => exact fun q => ⟨q.1, h.nx _ q.2⟩
      | _ => exact q.elim
    · exact False.elim x
  | .sfld i c y e, env, _, _, h, x => by
    unfold wS at x ⊢
    split at x
    · exact ⟨x.1, wE_mono hF e env _ _ (fun _ q => h.nx _ q) x.2⟩
    · exact False.elim x
  | .pass, _, _, _, h, x => h.nx _ x
  | .expr e, env, _, _, h, x => wE_mono hF e env _ _ (fun _ q => h.nx _ q) x
  | .lend _ j _ i es, env, _, _, h, x => by
    unfold wS at x ⊢
    split at x
    · refine wV_mono hF es env _ _ (fun _ q => hF _ _ _ _ (fun d q => ?_) q) x
      cases d <;> first | exact h.nx _ q | exact False.elim q
    · refine wV_mono hF es env _ _ (fun _ q => hF _ _ _ _ (fun d q => ?_) q) x
      cases d <;> first | exact h.nx _ q | exact False.elim q
    · exact False.elim x
theorem wSs_mono : ∀ (s : Ss) (env : Env) (k k' : Kn), Kn.Le k k' → wSs F cg s env k → wSs F cg s env k'
  | .nil, _, _, _, h, x => h.nx _ x
  | .cons s ss, env, k, k', h, x => wS_mono s env ⟨fun env' => wSs F cg ss env' k, k.rt⟩ ⟨fun env' => wSs F cg ss env' k', k'.rt⟩ ⟨fun env' q => wSs_mono ss env' _ _ h q, h.rt⟩ x
  | .skip c ss, env, k, k', h, x => wE_mono hF c env _ _ (isB.mono fun t q => by
    by_cases ht : t = true
    · rw [if_pos ht] at q ⊢
      exact h.nx _ q
    · rw [if_neg ht] at q ⊢
      exact wSs_mono ss env _ _ h q) x
end
end
end LC

namespace LC
open PySem L2
def T.own : T → Bool
  | .v _ => false
  | _ => true
def Fresh (H : Hp) : T → V → Prop
  | .v _, _ => True
  | _, .ref a => H a = none
  | _, _ => True
structure EnvOk (G : Gx) (Z : Zt) (H : Hp) (σ : St) (env : Env) : Prop where
  len : σ.length = env.length
  get : ∀ i t, slot env i = some t → ∃ v, σ[i]? = some (some v) ∧ RepT G Z H t v
def kT (G : Gx) (Z : Zt) (H : Hp) (Q : VK) : T → Prop := fun t => ∀ Z' H' v, Ext G Z H Z' H' → RepT G Z' H' t v → Fresh H t v → Q v H'
def kD (G : Gx) (Z : Zt) (H : Hp) (Q : VK) : D → Prop := fun d => ∀ Z' H' v, Ext G Z H Z' H' → RepD G Z' H' d v → Q v H'
def tE (G : Gx) (f : Env → (T → Prop) → Prop) : TE := fun σ H Q => ∃ Z env, ZOk G Z H ∧ EnvOk G Z H σ env ∧ f env (kT G Z H Q)
def tO (G : Gx) (f : Env → (D → Prop) → Prop) : TE := fun σ H Q => ∃ Z env, ZOk G Z H ∧ EnvOk G Z H σ env ∧ f env (kD G Z H Q)
section
variable {G : Gx} {Z Z' Z1 Z2 : Zt} {H H' H1 H2 : Hp} {σ : St} {env : Env} {Q : VK}
theorem EnvOk.ext (x : Ext G Z H Z' H') (e : EnvOk G Z H σ env) : EnvOk G Z' H' σ env := ⟨e.len, fun i t h => let ⟨v, h1, h2⟩ := e.get i t h; ⟨v, h1, x.repT h2⟩⟩
theorem Fresh.back (x : Ext G Z H Z' H') (ok : ZOk G Z H) {t : T} {v : V} (f : Fresh H' t v) : Fresh H t v := by
  cases t with
  | v d => exact True.intro
  | ol ds =>
    cases v with
    | ref a => exact x.free ok f
    | _ => exact True.intro
  | od ds =>
    cases v with
    | ref a => exact x.free ok f
    | _ => exact True.intro
  | op ds =>
    cases v with
    | ref a => exact x.free ok f
    | _ => exact True.intro
  | ob c ds =>
    cases v with
    | ref a => exact x.free ok f
    | _ => exact True.intro
theorem kT.ext (x : Ext G Z H Z' H') (ok : ZOk G Z H) {t : T} (k : kT G Z H Q t) : kT G Z' H' Q t := fun _ _ v y r f => k _ _ v (x.trans ok y) r (f.back x ok)
theorem kD.ext (x : Ext G Z H Z' H') (ok : ZOk G Z H) {t : D} (k : kD G Z H Q t) : kD G Z' H' Q t := fun _ _ v y r => k _ _ v (x.trans ok y) r
theorem kT.d (ok : ZOk G Z H) {d : D} {v : V} (k : kT G Z H Q (.v d)) (r : RepF G Z d v) : Q v H := k _ _ v (.refl ok) (.v r) True.intro
theorem kT.ol (ok : ZOk G Z H) {ds : List D} {vs : List V} {p : Addr} (k : kT G Z H Q (.ol ds)) (hn : H p = none) (r : RepL G Z ds vs) : Q (.ref p) (upd H p (.lst vs)) :=
  k _ _ _ (.own ok hn) (.ol (ok.freeF hn) (ok.ndOf hn) upd_same r) hn
theorem kT.od (ok : ZOk G Z H) {ds : List (Key × D)} {vs : List (Key × V)} {p : Addr} (k : kT G Z H Q (.od ds)) (hn : H p = none) (r : RepK G Z ds vs) : Q (.ref p) (upd H p (.dK vs)) :=
  k _ _ _ (.own ok hn) (.od (ok.freeF hn) (ok.ndOf hn) upd_same r) hn
theorem kT.tup (ok : ZOk G Z H) {ds : List D} {vs : List V} {p : Addr} (k : kT G Z H Q (.v (.tup ds))) (hn : H p = none) (r : RepL G Z ds vs) : Q (.ref p) (upd H p (.tup vs)) :=
  k _ _ _ (.lay ok hn) (.v (.tup (.inl (.inl upd_same)) (r.mono (Ext.lay ok hn).fr fun _ e => e))) True.intro
theorem frz {Z0 : Zt} {H0 : Hp} (x : Ext G Z0 H0 Z H) (ok0 : ZOk G Z0 H0) {t : T} {v : V} (r : RepT G Z H t v) (f : Fresh H0 t v) :
    ∃ Z2, Ext G Z0 H0 Z2 H ∧ RepF G Z2 t.d v ∧ (∀ b o, Z.F b = some o → Z2.F b = some o) ∧ Z2.dk = Z.dk ∧ ∀ b, Z2.F b ≠ none → Z.F b ≠ none ∨ (t.own = true ∧ v = .ref b) := by
  cases r with
  | v r => exact ⟨Z, x, r, fun _ _ e => e, rfl, fun b h => .inl h⟩
  | @ol a ds vs hF hn hH r =>
    have up : ∀ b o, Z.F b = some o → upd Z.F a (.lst vs) b = some o := fun b o e => by
      by_cases hb : b = a
      · subst hb; rw [hF] at e; cases e
      · rw [upd_ne hb]; exact e
    exact ⟨⟨upd Z.F a (.lst vs), Z.dk⟩, x.freeze ok0 hH f hn, .lst upd_same (r.mono (Z' := ⟨upd Z.F a (.lst vs), Z.dk⟩) up fun _ e => e), up, rfl, fun b h => by
      by_cases hb : b = a
      · exact .inr ⟨rfl, by rw [hb]⟩
      · exact .inl (fun z => h (by show upd Z.F a _ b = none; rw [upd_ne hb]; exact z))⟩
  | @od a ds vs hF hn hH r =>
    have up : ∀ b o, Z.F b = some o → upd Z.F a (.dK vs) b = some o := fun b o e => by
      by_cases hb : b = a
      · subst hb; rw [hF] at e; cases e
      · rw [upd_ne hb]; exact e
    exact ⟨⟨upd Z.F a (.dK vs), Z.dk⟩, x.freeze ok0 hH f hn, .dct upd_same (r.mono (Z' := ⟨upd Z.F a (.dK vs), Z.dk⟩) up fun _ e => e), up, rfl, fun b h => by
      by_cases hb : b = a
      · exact .inr ⟨rfl, by rw [hb]⟩
      · exact .inl (fun z => h (by show upd Z.F a _ b = none; rw [upd_ne hb]; exact z))⟩
  | @op a ds vs hp hF hn hH r =>
    have up : ∀ b o, Z.F b = some o → upd Z.F a (.dK vs) b = some o := fun b o e => by
      by_cases hb : b = a
      · subst hb; rw [hF] at e; cases e
      · rw [upd_ne hb]; exact e
    exact ⟨⟨upd Z.F a (.dK vs), Z.dk⟩, x.freeze ok0 hH f hn, .dct upd_same (r.mono (Z' := ⟨upd Z.F a (.dK vs), Z.dk⟩) up fun _ e => e), up, rfl, fun b h => by
      by_cases hb : b = a
      · exact .inr ⟨rfl, by rw [hb]⟩
      · exact .inl (fun z => h (by show upd Z.F a _ b = none; rw [upd_ne hb]; exact z))⟩
  | @ob a C dx c ks fs hp hF hn hH hc r =>
    have up : ∀ b o, Z.F b = some o → upd Z.F a (.ins C dx fs) b = some o := fun b o e => by
      by_cases hb : b = a
      · subst hb; rw [hF] at e; cases e
      · rw [upd_ne hb]; exact e
    exact ⟨⟨upd Z.F a (.ins C dx fs), Z.dk⟩, x.freeze ok0 hH f hn, .obj upd_same hc (r.mono (Z' := ⟨upd Z.F a (.ins C dx fs), Z.dk⟩) up fun _ e => e), up, rfl, fun b h => by
      by_cases hb : b = a
      · exact .inr ⟨rfl, by rw [hb]⟩
      · exact .inl (fun z => h (by show upd Z.F a _ b = none; rw [upd_ne hb]; exact z))⟩
end
theorem PE.weak {X : Cx} {e : Expr} {t t' : TE} (h : PE X e t) (w : ∀ σ H Q, t' σ H Q → t σ H Q) : PE X e t' := ⟨fun pins s σ H Q I q => h.run pins s σ H Q I (w σ H Q q)⟩
theorem PT.weak {X : Cx} {e : Expr} {t t' : TT} (h : PT X e t) (w : ∀ σ H Q, t' σ H Q → t σ H Q) : PT X e t' := ⟨fun pins s σ H Q I q => h.run pins s σ H Q I (w σ H Q q)⟩
theorem PA.weak {X : Cx} {e : List Expr} {t t' : TA} (h : PA X e t) (w : ∀ σ H Q, t' σ H Q → t σ H Q) : PA X e t' := ⟨fun pos pins s σ H Q I q => h.run pos pins s σ H Q I (w σ H Q q)⟩
theorem PS.weak {X : Cx} {e : Stmt} {t t' : TS} (h : PS X e t) (w : ∀ D σ H, t' D σ H → t D σ H) : PS X e t' := ⟨fun pins s σ H D I q => h.run pins s σ H D I (w D σ H q)⟩
theorem PSs.weak {X : Cx} {e : List Stmt} {t t' : TS} (h : PSs X e t) (w : ∀ D σ H, t' D σ H → t D σ H) : PSs X e t' := ⟨fun pins s σ H D I q => h.run pins s σ H D I (w D σ H q)⟩
theorem PI.weak {X : Cx} {tg e : Expr} {t t' : TI} (h : PI X tg e t) (w : ∀ σ H R, t' σ H R → t σ H R) : PI X tg e t' := ⟨fun pins s σ H R I q => h.run pins s σ H R I (w σ H R q)⟩
theorem PO.weak {X : Cx} {e : Option Expr} {t t' : TO} (h : PO X e t) (w : ∀ σ H R, t' σ H R → t σ H R) : PO X e t' := ⟨fun pins s σ H R I q => h.run pins s σ H R I (w σ H R q)⟩
def rD (G : Gx) (g : D → D → (T → Prop) → Prop) : R2 := fun x y H Q => ∃ Z d e, ZOk G Z H ∧ RepD G Z H d x ∧ RepD G Z H e y ∧ g d e (kT G Z H Q)
theorem two {G : Gx} {a b : Env → (D → Prop) → Prop} {g : D → D → (T → Prop) → Prop} {σ : St} {H : Hp} {Q : VK}
    (ma : ∀ env P P', (∀ d, P d → P' d) → a env P → a env P') (mb : ∀ env P P', (∀ d, P d → P' d) → b env P → b env P') (mg : ∀ d e P P', (∀ t, P t → P' t) → g d e P → g d e P')
    (h : tE G (fun env P => a env fun x => b env fun y => g x y P) σ H Q) : tOp (rD G g) (tO G a) (tO G b) σ H Q := by
  obtain ⟨Z, env, ok, eo, h⟩ := h
  refine ⟨Z, env, ok, eo, ma env _ _ (fun d h Z1 H1 v1 x1 r1 => ?_) h⟩
  refine ⟨Z1, env, x1.ok, eo.ext x1, mb env _ _ (fun e h Z2 H2 v2 x2 r2 => ?_) h⟩
  exact ⟨Z2, d, e, x2.ok, x2.repD r1, r2, mg _ _ _ _ (fun t k => k.ext (x1.trans ok x2) ok) h⟩
theorem OpR.weak {X : Cx} {f : Value → Value → Sem Value} {r r' : R2} (h : OpR X f r) (w : ∀ x y H Q, r' x y H Q → r x y H Q) : OpR X f r' := fun pins s σ H x y v u Q I rx ry q => h pins s σ H x y v u Q I rx ry (w _ _ _ _ q)
section
variable {X : Cx} {G : Gx}
theorem mkS_app (a b : List Nat) : mkS a ++ mkS b = mkS (a ++ b) := by
  show (⟨a.toArray ++ b.toArray⟩ : Str) = ⟨(a ++ b).toArray⟩
  simp
theorem mkS_len (a : List Nat) : (mkS a).length = a.length := by
  show a.toArray.size = a.length
  simp
theorem mkS_list (a : List Nat) : (mkS a).cps.toList = a := by
  show a.toArray.toList = a
  simp
theorem StrG.app {a b : List Nat} (ha : StrG a) (hb : StrG b) (h : a.length + b.length ≤ 16777216) : StrG (a ++ b) :=
  ⟨by rw [List.length_append]; exact h, fun c hc => (List.mem_append.mp hc).elim (ha.cps c) (hb.cps c)⟩
theorem StrG.one {c : Nat} {x : List Nat} (h : StrG x) (hc : c ∈ x) : StrG [c] := ⟨by show 1 ≤ sizeLine; decide, fun d hd => by rw [List.mem_singleton.mp hd]; exact h.cps c hc⟩
theorem szl : sizeLine = 16777216 := by decide
theorem op_add_D (hK : G.K = X.K) : OpR X (binaryOp .Add) (rD G (wBin .add)) := by
  intro pins s σ H x y v u Q I rx ry h
  obtain ⟨Z, d, e, ok, rd, re, h⟩ := h
  unfold wBin at h
  split at h
  all_goals first | (rename_i hop; cases hop; done) | skip
  · have e1 := rd.int; have e2 := re.int
    subst e1 e2
    exact op_add pins s σ H _ _ v u Q I rx ry ⟨_, _, rfl, rfl, kT.d ok h (.int _)⟩
  · obtain ⟨e1, g1⟩ := rd.str; obtain ⟨e2, g2⟩ := re.str
    subst e1 e2
    refine op_add_str pins s σ H _ _ v u Q I rx ry ⟨_, _, rfl, rfl, by rw [mkS_len, mkS_len]; exact h.1, ?_⟩
    rw [mkS_app]
    exact kT.d ok h.2 (.str (g1.app g2 h.1))
  · obtain ⟨p, vs, e1, f1, s1, l1⟩ := rd.tup ok; obtain ⟨q, ws, e2, f2, s2, l2⟩ := re.tup ok
    subst e1 e2
    rw [hK] at f1 s1 f2 s2
    refine op_catA pins s σ H _ _ v u Q I rx ry ⟨p, q, vs, ws, rfl, rfl, s1, s2, by rw [← l1.length, ← l2.length]; exact h.1, fun z => ?_, fun _ z => ?_, fun _ _ r hr => kT.tup ok h.2 hr (l1.append l2)⟩
    · subst z
      cases l1
      exact kT.d ok h.2 (.tup (hK ▸ f2) l2)
    · subst z
      cases l2
      have h2 := h.2
      rw [List.append_nil] at h2
      exact kT.d ok h2 (.tup (hK ▸ f1) l1)
  · obtain ⟨p, vs, e1, s1, l1⟩ := rd.lst ok; obtain ⟨q, ws, e2, s2, l2⟩ := re.lst ok
    subst e1 e2
    exact op_cat pins s σ H _ _ v u Q I rx ry ⟨p, q, vs, ws, rfl, rfl, s1, s2, by rw [← l1.length, ← l2.length]; exact h.1, fun r hr => kT.ol ok h.2 hr (l1.append l2)⟩
  · exact h.elim
theorem op_sub_D : OpR X (binaryOp .Sub) (rD G (wBin .sub)) := by
  intro pins s σ H x y v u Q I rx ry h
  obtain ⟨Z, d, e, ok, rd, re, h⟩ := h
  unfold wBin at h
  split at h
  all_goals first | (rename_i hop; cases hop; done) | skip
  · have e1 := rd.int; have e2 := re.int
    subst e1 e2
    exact op_sub pins s σ H _ _ v u Q I rx ry ⟨_, _, rfl, rfl, kT.d ok h (.int _)⟩
  · exact h.elim
theorem rep_flat {G : Gx} {Z : Zt} {ds : List D} {vs : List V} (h : RepL G Z ds vs) : ∀ n : Nat, RepL G Z (List.replicate n ds).flatten (List.replicate n vs).flatten
  | 0 => .nil
  | n + 1 => by
    rw [List.replicate_succ, List.replicate_succ, List.flatten_cons, List.flatten_cons]
    exact h.append (rep_flat h n)
theorem op_mul_D : OpR X (binaryOp .Mult) (rD G (wBin .mul)) := by
  intro pins s σ H x y v u Q I rx ry h
  obtain ⟨Z, d, e, ok, rd, re, h⟩ := h
  unfold wBin at h
  split at h
  all_goals first | (rename_i hop; cases hop; done) | skip
  · have e1 := rd.int; have e2 := re.int
    subst e1 e2
    exact op_mul pins s σ H _ _ v u Q I rx ry ⟨_, _, rfl, rfl, h.1, kT.d ok h.2 (.int _)⟩
  · obtain ⟨p, vs, e1, s1, l1⟩ := rd.lst ok
    have e2 := re.int
    subst e1 e2
    exact op_rep pins s σ H _ _ v u Q I rx ry ⟨p, _, vs, rfl, rfl, s1, by omega, by omega, by rw [← l1.length]; exact h.1.2.2, fun r hr => kT.ol ok h.2 hr (rep_flat l1 _)⟩
  · exact h.elim
theorem op_pow_D : OpR X (binaryOp .Pow) (rD G (wBin .pow)) := by
  intro pins s σ H x y v u Q I rx ry h
  obtain ⟨Z, d, e, ok, rd, re, h⟩ := h
  unfold wBin at h
  split at h
  all_goals first | (rename_i hop; cases hop; done) | skip
  · have e1 := rd.int; have e2 := re.int
    subst e1 e2
    exact op_pow pins s σ H _ _ v u Q I rx ry ⟨_, _, rfl, rfl, h.1, kT.d ok h.2 (.int _)⟩
  · exact h.elim
theorem op_shl_D : OpR X (binaryOp .LShift) (rD G (wBin .shl)) := by
  intro pins s σ H x y v u Q I rx ry h
  obtain ⟨Z, d, e, ok, rd, re, h⟩ := h
  unfold wBin at h
  split at h
  all_goals first | (rename_i hop; cases hop; done) | skip
  · have e1 := rd.int; have e2 := re.int
    subst e1 e2
    exact op_shl pins s σ H _ _ v u Q I rx ry ⟨_, _, rfl, rfl, h.1, kT.d ok h.2 (.int _)⟩
  · exact h.elim
theorem op_mod_D : OpR X (binaryOp .Mod) (rD G (wBin .mod)) := by
  intro pins s σ H x y v u Q I rx ry h
  obtain ⟨Z, d, e, ok, rd, re, h⟩ := h
  unfold wBin at h
  split at h
  all_goals first | (rename_i hop; cases hop; done) | skip
  · have e1 := rd.int; have e2 := re.int
    subst e1 e2
    exact op_mod pins s σ H _ _ v u Q I rx ry ⟨_, _, rfl, rfl, h.1, kT.d ok h.2 (.int _)⟩
  · exact h.elim
theorem op_fdiv_D : OpR X (binaryOp .FloorDiv) (rD G (wBin .fdiv)) := by
  intro pins s σ H x y v u Q I rx ry h
  obtain ⟨Z, d, e, ok, rd, re, h⟩ := h
  unfold wBin at h
  split at h
  all_goals first | (rename_i hop; cases hop; done) | skip
  · have e1 := rd.int; have e2 := re.int
    subst e1 e2
    exact op_fdiv pins s σ H _ _ v u Q I rx ry ⟨_, _, rfl, rfl, h.1, kT.d ok h.2 (.int _)⟩
  · exact h.elim
def gB (g : D → D → (Bool → Prop) → Prop) : D → D → (T → Prop) → Prop := fun x y P => g x y fun t => P (.v (.bl t))
mutual
def D.py : D → PyData
  | .non => .none
  | .bl b => .bool b
  | .int i => .int i
  | .str x => .str (mkS x)
  | .tup xs => .tuple (D.pyL xs)
  | .lst xs => .list (D.pyL xs)
  | _ => .none
def D.pyL : List D → List PyData
  | [] => []
  | x :: xs => D.py x :: D.pyL xs
end
theorem canS {x : List Nat} (g : StrG x) : PyData.strOk (mkS x) = true := by
  show x.toArray.all (fun n => decide (n < 0x110000)) = true
  rw [← Array.all_toList]
  rw [List.all_eq_true]
  intro c hc
  exact decide_eq_true (g.cps c (by simpa using hc))
mutual
theorem dp_of {Z : Zt} {H : Hp} (ok : ZOk G Z H) : ∀ (n : Nat) (d : D) (v : V), D.cmpb n d = true → RepF G Z d v → Dp G.K H v d.py ∧ d.py.canLay0 = true ∧ d.py.depth ≤ n
  | _, .non, _, _, .non => ⟨.non, by simp [D.py, PyData.canLay0], by simp [D.py, PyData.depth]⟩
  | _, .bl b, _, _, .bl _ => ⟨.bl b, by simp [D.py, PyData.canLay0], by simp [D.py, PyData.depth]⟩
  | _, .int i, _, _, .int _ => ⟨.int i, by simp [D.py, PyData.canLay0], by simp [D.py, PyData.depth]⟩
  | _, .str x, _, _, .str g => ⟨.str _, by simp only [D.py, PyData.canLay0]; exact canS g, by simp [D.py, PyData.depth]⟩
  | n + 1, .tup xs, _, h, .tup s r => by
    have h' : D.cmpbL n xs = true := by simpa [D.cmpb] using h
    obtain ⟨h1, h2, h3⟩ := dpL_of ok n xs _ h' r
    refine ⟨.tup (sqT_mono ok.le s) h1, by simp only [D.py, PyData.canLay0]; exact h2, by simp only [D.py, PyData.depth]; omega⟩
  | n + 1, .lst xs, _, h, .lst s r => by
    have h' : D.cmpbL n xs = true := by simpa [D.cmpb] using h
    obtain ⟨h1, h2, h3⟩ := dpL_of ok n xs _ h' r
    refine ⟨.lst (.inl (.inl (ok.le _ _ s))) h1, by simp only [D.py, PyData.canLay0]; exact h2, by simp only [D.py, PyData.depth]; omega⟩
  | 0, .tup xs, _, h, _ => by simp [D.cmpb] at h
  | 0, .lst xs, _, h, _ => by simp [D.cmpb] at h
  | _, .dct xs, _, h, _ => by simp [D.cmpb] at h
  | _, .lck xs, _, h, _ => by simp [D.cmpb] at h
  | _, .tpk xs, _, h, _ => by simp [D.cmpb] at h
  | _, .obj c xs, _, h, _ => by simp [D.cmpb] at h
  | _, .fn xs, _, h, _ => by simp [D.cmpb] at h
  | _, .deck, _, h, _ => by simp [D.cmpb] at h
  | _, .script, _, h, _ => by simp [D.cmpb] at h
theorem dpL_of {Z : Zt} {H : Hp} (ok : ZOk G Z H) : ∀ (n : Nat) (d : List D) (v : List V), D.cmpbL n d = true → RepL G Z d v → DpAll G.K H v (D.pyL d) ∧ PyData.canLayAll0 (D.pyL d) = true ∧ PyData.depthAll (D.pyL d) ≤ n
  | _, [], _, _, .nil => ⟨.nil, by simp [D.pyL, PyData.canLayAll0], by simp [D.pyL, PyData.depthAll]⟩
  | n, x :: xs, _, h, .cons r t => by
    have h' : D.cmpb n x = true ∧ D.cmpbL n xs = true := by simpa [D.cmpbL] using h
    obtain ⟨a1, a2, a3⟩ := dp_of ok n x _ h'.1 r
    obtain ⟨b1, b2, b3⟩ := dpL_of ok n xs _ h'.2 t
    refine ⟨.cons a1 b1, by simp only [D.pyL, PyData.canLayAll0, a2, b2]; rfl, by simp only [D.pyL, PyData.depthAll]; omega⟩
end
theorem dpD_of {Z : Zt} {H : Hp} (ok : ZOk G Z H) (n : Nat) (d : D) (v : V) (h : D.cmpb n d = true) (r : RepD G Z H d v) : Dp G.K H v d.py ∧ d.py.canLay0 = true ∧ d.py.depth ≤ n := by
  obtain ⟨t, e, q⟩ := r
  cases q with
  | v q => cases e; exact dp_of ok n _ v h q
  | @ol a ds vs hF hn hH r =>
    cases e
    cases n with
    | zero => simp [T.d, D.cmpb] at h
    | succ n =>
      have h' : D.cmpbL n ds = true := by simpa [T.d, D.cmpb] using h
      obtain ⟨h1, h2, h3⟩ := dpL_of ok n ds _ h' r
      exact ⟨.lst (.inl (.inl hH)) h1, by simp only [T.d, D.py, PyData.canLay0]; exact h2, by simp only [T.d, D.py, PyData.depth]; omega⟩
  | od => cases e; simp [T.d, D.cmpb] at h
  | op => cases e; simp [T.d, D.cmpb] at h
  | ob => cases e; simp [T.d, D.cmpb] at h
theorem mkS_beq (x y : List Nat) : (mkS x == mkS y) = (x == y) := by
  rw [Bool.eq_iff_iff, beq_iff_eq, beq_iff_eq, mkS_eq]
mutual
theorem py_eqv : ∀ (n m : Nat) (d e : D), D.cmpb n d = true → D.cmpb m e = true → PyData.eqv d.py e.py = D.eqv d e
  | n, m, .tup xs, .tup ys, h1, h2 => by
    simp only [D.py, PyData.eqv, D.eqv]
    cases n with
    | zero => simp [D.cmpb] at h1
    | succ n =>
      cases m with
      | zero => simp [D.cmpb] at h2
      | succ m => exact py_eqvL n m xs ys (by simpa [D.cmpb] using h1) (by simpa [D.cmpb] using h2)
  | n, m, .lst xs, .lst ys, h1, h2 => by
    simp only [D.py, PyData.eqv, D.eqv]
    cases n with
    | zero => simp [D.cmpb] at h1
    | succ n =>
      cases m with
      | zero => simp [D.cmpb] at h2
      | succ m => exact py_eqvL n m xs ys (by simpa [D.cmpb] using h1) (by simpa [D.cmpb] using h2)
  | n, m, .non, e, h1, h2 => by cases e <;> simp_all [D.py, PyData.eqv, D.eqv, D.cmpb]
  | n, m, .bl b, e, h1, h2 => by cases e <;> simp_all [D.py, PyData.eqv, D.eqv, D.cmpb]
  | n, m, .int b, e, h1, h2 => by cases e <;> simp_all [D.py, PyData.eqv, D.eqv, D.cmpb]
  | n, m, .str b, e, h1, h2 => by cases e <;> simp_all [D.py, PyData.eqv, D.eqv, D.cmpb, mkS_beq]
  | n, m, .dct b, e, h1, h2 => by simp [D.cmpb] at h1
  | n, m, .lck b, e, h1, h2 => by simp [D.cmpb] at h1
  | n, m, .tpk b, e, h1, h2 => by simp [D.cmpb] at h1
  | n, m, .obj c b, e, h1, h2 => by simp [D.cmpb] at h1
  | n, m, .fn b, e, h1, h2 => by simp [D.cmpb] at h1
  | n, m, .deck, e, h1, h2 => by simp [D.cmpb] at h1
  | n, m, .script, e, h1, h2 => by simp [D.cmpb] at h1
  | n, m, .tup xs, .non, h1, h2 => by simp [D.py, PyData.eqv, D.eqv]
  | n, m, .tup xs, .bl _, h1, h2 => by simp [D.py, PyData.eqv, D.eqv]
  | n, m, .tup xs, .int _, h1, h2 => by simp [D.py, PyData.eqv, D.eqv]
  | n, m, .tup xs, .str _, h1, h2 => by simp [D.py, PyData.eqv, D.eqv]
  | n, m, .tup xs, .lst _, h1, h2 => by simp [D.py, PyData.eqv, D.eqv]
  | n, m, .tup xs, .dct _, h1, h2 => by simp [D.cmpb] at h2
  | n, m, .tup xs, .lck _, h1, h2 => by simp [D.cmpb] at h2
  | n, m, .tup xs, .tpk _, h1, h2 => by simp [D.cmpb] at h2
  | n, m, .tup xs, .obj _ _, h1, h2 => by simp [D.cmpb] at h2
  | n, m, .tup xs, .fn _, h1, h2 => by simp [D.cmpb] at h2
  | n, m, .tup xs, .deck, h1, h2 => by simp [D.cmpb] at h2
  | n, m, .tup xs, .script, h1, h2 => by simp [D.cmpb] at h2
  | n, m, .lst xs, .non, h1, h2 => by simp [D.py, PyData.eqv, D.eqv]
  | n, m, .lst xs, .bl _, h1, h2 => by simp [D.py, PyData.eqv, D.eqv]
  | n, m, .lst xs, .int _, h1, h2 => by simp [D.py, PyData.eqv, D.eqv]
  | n, m, .lst xs, .str _, h1, h2 => by simp [D.py, PyData.eqv, D.eqv]
  | n, m, .lst xs, .tup _, h1, h2 => by simp [D.py, PyData.eqv, D.eqv]
  | n, m, .lst xs, .dct _, h1, h2 => by simp [D.cmpb] at h2
  | n, m, .lst xs, .lck _, h1, h2 => by simp [D.cmpb] at h2
  | n, m, .lst xs, .tpk _, h1, h2 => by simp [D.cmpb] at h2
  | n, m, .lst xs, .obj _ _, h1, h2 => by simp [D.cmpb] at h2
  | n, m, .lst xs, .fn _, h1, h2 => by simp [D.cmpb] at h2
  | n, m, .lst xs, .deck, h1, h2 => by simp [D.cmpb] at h2
  | n, m, .lst xs, .script, h1, h2 => by simp [D.cmpb] at h2
theorem py_eqvL : ∀ (n m : Nat) (d e : List D), D.cmpbL n d = true → D.cmpbL m e = true → PyData.eqvAll (D.pyL d) (D.pyL e) = D.eqvL d e
  | _, _, [], [], _, _ => by simp [D.pyL, PyData.eqvAll, D.eqvL]
  | _, _, [], _ :: _, _, _ => by simp [D.pyL, PyData.eqvAll, D.eqvL]
  | _, _, _ :: _, [], _, _ => by simp [D.pyL, PyData.eqvAll, D.eqvL]
  | n, m, x :: xs, y :: ys, h1, h2 => by
    have h1' : D.cmpb n x = true ∧ D.cmpbL n xs = true := by simpa [D.cmpbL] using h1
    have h2' : D.cmpb m y = true ∧ D.cmpbL m ys = true := by simpa [D.cmpbL] using h2
    simp only [D.pyL, PyData.eqvAll, D.eqvL]
    rw [py_eqv n m x y h1'.1 h2'.1, py_eqvL n m xs ys h1'.2 h2'.2]
end
theorem flat_cmpb {d : D} (n : Nat) (h : d.flat = true) : d.cmpb n = true := by
  cases d <;> simp_all [D.flat, D.cmpb]
theorem cmpOk_of {d e : D} (h : D.cmpOk d e = true) : (d.cmpb 60 = true ∧ e.cmpb 60 = true) ∨ ∃ xs, d = .tup xs ∧ e = .tup [] := by
  unfold D.cmpOk at h
  rcases Bool.or_eq_true_iff.mp h with h | h
  · rcases Bool.or_eq_true_iff.mp h with h | h
    · have h' := Bool.and_eq_true_iff.mp h
      exact .inl ⟨flat_cmpb _ h'.1, flat_cmpb _ h'.2⟩
    · exact .inl (Bool.and_eq_true_iff.mp h)
  · unfold D.emp at h
    split at h
    · exact .inr ⟨_, rfl, rfl⟩
    · cases h
theorem emp_eqv (xs : List D) (n : Nat) (hn : n = xs.length) : ((List.range (min n 0)).all (fun _ => true) && n == 0) = D.eqv (.tup xs) (.tup []) := by
  subst hn
  cases xs with
  | nil => simp [D.eqv, D.eqvL]
  | cons x r => simp [D.eqv, D.eqvL]
theorem op_eq_D (hK : G.K = X.K) (hu : X.A.units + 64 < cLine) : OpR X (compareOp .Eq) (rD G (gB (wCmp .eq))) := by
  intro pins s σ H x y v u Q I rx ry h
  obtain ⟨Z, d, e, ok, rd, re, h⟩ := h
  simp only [gB, wCmp] at h
  obtain ⟨h1, h2⟩ := h
  rcases cmpOk_of h1 with ⟨c1, c2⟩ | ⟨xs, rfl, rfl⟩
  · obtain ⟨a1, a2, a3⟩ := dpD_of ok 60 d x c1 rd
    obtain ⟨b1, b2, b3⟩ := dpD_of ok 60 e y c2 re
    rw [hK] at a1 b1
    refine op_eqD hu pins s σ H x y v u Q I rx ry ⟨d.py, e.py, a1, b1, ?_, ?_, ?_⟩
    · simp only [SeqAt.shaped, a2, Bool.true_and]; exact decide_eq_true (by omega)
    · simp only [SeqAt.shaped, b2, Bool.true_and]; exact decide_eq_true (by omega)
    · rw [py_eqv 60 60 d e c1 c2]
      exact kT.d ok h2 (.bl _)
  · obtain ⟨a, vs, rfl, _, s1, l1⟩ := rd.tup ok
    obtain ⟨b, ws, rfl, _, s2, l2⟩ := re.tup ok
    cases l2
    cases rx
    cases ry
    obtain ⟨its, rv, p1, _⟩ := I.tuple (hK ▸ s1)
    obtain ⟨its2, rv2, p2, _⟩ := I.tuple (hK ▸ s2)
    cases rv2
    have hn : its.toArray.size = xs.length := by
      have q1 := rv.length
      have q2 := l1.length
      simp
      omega
    have q := SeqAt.RcAt.tuples (A := X.A) (e := fun _ => true) (show s.heap.IsTuple a its.toArray from p1) (show s.heap.IsTuple b ([] : List Value).toArray from p2) (by omega) (fun j _ hj => absurd hj (Nat.not_lt_zero _)) X.prog X.w
    have em := emp_eqv xs _ hn
    refine q X.xe _ ?_
    rw [show ((List.range (min its.toArray.size ([] : List Value).toArray.size)).all (fun _ => true) && its.toArray.size == ([] : List Value).toArray.size) = D.eqv (.tup xs) (.tup []) from em]
    exact ⟨.bl _, H, I, rfl, kT.d ok h2 (.bl _)⟩
theorem op_ne_D (hK : G.K = X.K) (hu : X.A.units + 64 < cLine) : OpR X (compareOp .NotEq) (rD G (gB (wCmp .ne))) := by
  intro pins s σ H x y v u Q I rx ry h
  obtain ⟨Z, d, e, ok, rd, re, h⟩ := h
  simp only [gB, wCmp] at h
  obtain ⟨h1, h2⟩ := h
  rcases cmpOk_of h1 with ⟨c1, c2⟩ | ⟨xs, rfl, rfl⟩
  · obtain ⟨a1, a2, a3⟩ := dpD_of ok 60 d x c1 rd
    obtain ⟨b1, b2, b3⟩ := dpD_of ok 60 e y c2 re
    rw [hK] at a1 b1
    refine op_neD hu pins s σ H x y v u Q I rx ry ⟨d.py, e.py, a1, b1, ?_, ?_, ?_⟩
    · simp only [SeqAt.shaped, a2, Bool.true_and]; exact decide_eq_true (by omega)
    · simp only [SeqAt.shaped, b2, Bool.true_and]; exact decide_eq_true (by omega)
    · rw [py_eqv 60 60 d e c1 c2]
      exact kT.d ok h2 (.bl _)
  · obtain ⟨a, vs, rfl, _, s1, l1⟩ := rd.tup ok
    obtain ⟨b, ws, rfl, _, s2, l2⟩ := re.tup ok
    cases l2
    cases rx
    cases ry
    obtain ⟨its, rv, p1, _⟩ := I.tuple (hK ▸ s1)
    obtain ⟨its2, rv2, p2, _⟩ := I.tuple (hK ▸ s2)
    cases rv2
    have hn : its.toArray.size = xs.length := by
      have q1 := rv.length
      have q2 := l1.length
      simp
      omega
    have q := SeqAt.RcNeAt.tuples (A := X.A) (e := fun _ => true) (show s.heap.IsTuple a its.toArray from p1) (show s.heap.IsTuple b ([] : List Value).toArray from p2) (by omega) (fun j _ hj => absurd hj (Nat.not_lt_zero _)) X.prog X.w
    have em := emp_eqv xs _ hn
    refine q X.xe _ ?_
    rw [show ((List.range (min its.toArray.size ([] : List Value).toArray.size)).all (fun _ => true) && its.toArray.size == ([] : List Value).toArray.size) = D.eqv (.tup xs) (.tup []) from em]
    exact ⟨.bl _, H, I, rfl, kT.d ok h2 (.bl _)⟩
theorem dec_not_lt {a b : List Nat} : decide (a ≤ b) = !decide (b < a) := by
  rw [Bool.eq_iff_iff]
  simp [List.not_lt]
theorem op_lt_D : OpR X (compareOp .Lt) (rD G (gB (wCmp .lt))) := by
  intro pins s σ H x y v u Q I rx ry h
  obtain ⟨Z, d, e, ok, rd, re, h⟩ := h
  unfold gB wCmp at h
  split at h
  all_goals first | (rename_i hop; cases hop; done) | skip
  · have e1 := rd.int; have e2 := re.int
    subst e1 e2
    exact op_lt pins s σ H _ _ v u Q I rx ry ⟨_, _, rfl, rfl, kT.d ok h (.bl _)⟩
  · obtain ⟨e1, g1⟩ := rd.str; obtain ⟨e2, g2⟩ := re.str
    subst e1 e2
    refine op_lt_str pins s σ H _ _ v u Q I rx ry ⟨_, _, rfl, rfl, ?_⟩
    rw [mkS_list, mkS_list]
    exact kT.d ok h (.bl _)
  · exact h.elim
theorem op_le_D : OpR X (compareOp .LtE) (rD G (gB (wCmp .le))) := by
  intro pins s σ H x y v u Q I rx ry h
  obtain ⟨Z, d, e, ok, rd, re, h⟩ := h
  unfold gB wCmp at h
  split at h
  all_goals first | (rename_i hop; cases hop; done) | skip
  · have e1 := rd.int; have e2 := re.int
    subst e1 e2
    exact op_le pins s σ H _ _ v u Q I rx ry ⟨_, _, rfl, rfl, kT.d ok h (.bl _)⟩
  · obtain ⟨e1, g1⟩ := rd.str; obtain ⟨e2, g2⟩ := re.str
    subst e1 e2
    refine op_le_str pins s σ H _ _ v u Q I rx ry ⟨_, _, rfl, rfl, ?_⟩
    rw [mkS_list, mkS_list, ← dec_not_lt]
    exact kT.d ok h (.bl _)
  · exact h.elim
theorem op_gt_D : OpR X (compareOp .Gt) (rD G (gB (wCmp .gt))) := by
  intro pins s σ H x y v u Q I rx ry h
  obtain ⟨Z, d, e, ok, rd, re, h⟩ := h
  unfold gB wCmp at h
  split at h
  all_goals first | (rename_i hop; cases hop; done) | skip
  · have e1 := rd.int; have e2 := re.int
    subst e1 e2
    exact op_gt pins s σ H _ _ v u Q I rx ry ⟨_, _, rfl, rfl, kT.d ok h (.bl _)⟩
  · obtain ⟨e1, g1⟩ := rd.str; obtain ⟨e2, g2⟩ := re.str
    subst e1 e2
    refine op_gt_str pins s σ H _ _ v u Q I rx ry ⟨_, _, rfl, rfl, ?_⟩
    rw [mkS_list, mkS_list]
    exact kT.d ok h (.bl _)
  · exact h.elim
theorem op_ge_D : OpR X (compareOp .GtE) (rD G (gB (wCmp .ge))) := by
  intro pins s σ H x y v u Q I rx ry h
  obtain ⟨Z, d, e, ok, rd, re, h⟩ := h
  unfold gB wCmp at h
  split at h
  all_goals first | (rename_i hop; cases hop; done) | skip
  · have e1 := rd.int; have e2 := re.int
    subst e1 e2
    exact op_ge pins s σ H _ _ v u Q I rx ry ⟨_, _, rfl, rfl, kT.d ok h (.bl _)⟩
  · obtain ⟨e1, g1⟩ := rd.str; obtain ⟨e2, g2⟩ := re.str
    subst e1 e2
    refine op_ge_str pins s σ H _ _ v u Q I rx ry ⟨_, _, rfl, rfl, ?_⟩
    rw [mkS_list, mkS_list, ← dec_not_lt]
    exact kT.d ok h (.bl _)
  · exact h.elim
theorem flat_V {Z : Zt} {d : D} {v : V} (h : d.flat = true) (r : RepF G Z d v) : flatV v = true := by
  cases r <;> first | rfl | (simp [D.flat] at h)
theorem flat_VD {Z : Zt} {H : Hp} {d : D} {v : V} (h : d.flat = true) (r : RepD G Z H d v) : flatV v = true ∧ RepF G Z d v := by
  obtain ⟨t, e, q⟩ := r
  cases q with
  | v q => cases e; exact ⟨flat_V h q, q⟩
  | ol => cases e; simp [T.d, D.flat] at h
  | od => cases e; simp [T.d, D.flat] at h
  | op => cases e; simp [T.d, D.flat] at h
  | ob => cases e; simp [T.d, D.flat] at h
theorem eqV_flat {Z : Zt} {d e : D} {v w : V} (h : d.flat = true) (h' : e.flat = true) (r : RepF G Z d v) (r' : RepF G Z e w) : eqV v w = D.eqv d e := by
  cases r <;> first | (simp [D.flat] at h; done) | (cases r' <;> first | (simp [D.flat] at h'; done) | (simp [eqV, D.eqv, mkS_beq]; done))
theorem any_flat {Z : Zt} {d : D} {v : V} (h : d.flat = true) (r : RepF G Z d v) : ∀ {ys : List D} {ws : List V}, ys.all D.flat = true → RepL G Z ys ws → ws.all flatV = true ∧ inV v ws = ys.any (D.eqv · d)
  | _, _, _, .nil => ⟨rfl, rfl⟩
  | y :: ys, w :: ws, ha, .cons q t => by
    have ha' : y.flat = true ∧ ys.all D.flat = true := by simpa using ha
    obtain ⟨h1, h2⟩ := any_flat h r ha'.2 t
    refine ⟨?_, ?_⟩
    · rw [List.all_cons, h1, flat_V ha'.1 q]; rfl
    · show (eqV w v || inV v ws) = _
      rw [h2, eqV_flat ha'.1 h q r]; rfl
theorem repK_val {Z : Zt} {k : Key} : ∀ {ds : List (Key × D)} {vs : List (Key × V)}, RepK G Z ds vs → (kget ds k = none ∧ valV vs k = none) ∨ ∃ d v, kget ds k = some d ∧ valV vs k = some v ∧ RepF G Z d v
  | _, _, .nil => .inl ⟨rfl, rfl⟩
  | _, _, @RepK.cons _ _ k' d ds v vs _ r t => by
    unfold kget valV
    by_cases h : k' = k
    · simp only [List.find?_cons, h, decide_true]
      exact .inr ⟨d, v, rfl, rfl, r⟩
    · simp only [List.find?_cons, h, decide_false]
      exact repK_val t
theorem repK_some {Z : Zt} {k : Key} {ds : List (Key × D)} {vs : List (Key × V)} (h : RepK G Z ds vs) : (valV vs k).isSome = (kget ds k).isSome := by
  rcases repK_val (k := k) h with ⟨z1, z2⟩ | ⟨_, _, z1, z2, _⟩
  · rw [z1, z2]; rfl
  · rw [z1, z2]; rfl
theorem key_rep {Z : Zt} {H : Hp} {d : D} {k : Key} {v : V} (h : d.key = some k) (r : RepD G Z H d v) : v = kV k ∧ KeyG k := by
  cases d with
  | int i =>
    cases h
    exact ⟨r.int, trivial⟩
  | str x =>
    cases h
    obtain ⟨e, g⟩ := r.str
    exact ⟨e, x, rfl, g⟩
  | _ => cases h
theorem inOk_of {a : D} {ys : List D} (h : D.inOk a ys = true) : a.cmpb 59 = true ∧ D.cmpbL 59 ys = true := by
  unfold D.inOk at h
  rcases Bool.or_eq_true_iff.mp h with h | h
  · have h' := Bool.and_eq_true_iff.mp h
    refine ⟨flat_cmpb _ h'.1, ?_⟩
    have : ∀ {l : List D}, l.all D.flat = true → D.cmpbL 59 l = true := by
      intro l
      induction l with
      | nil => intro _; rfl
      | cons x l ih =>
        intro h
        rw [List.all_cons, Bool.and_eq_true] at h
        show (D.cmpb 59 x && D.cmpbL 59 l) = true
        rw [flat_cmpb 59 h.1, ih h.2]
        rfl
    exact this h'.2
  · exact Bool.and_eq_true_iff.mp h
theorem py_any {d : D} (hd : d.cmpb 59 = true) : ∀ {ys : List D}, D.cmpbL 59 ys = true → ((D.pyL ys).any fun z => PyData.eqv z d.py) = ys.any (D.eqv · d)
  | [], _ => rfl
  | y :: ys, h => by
    have h' : D.cmpb 59 y = true ∧ D.cmpbL 59 ys = true := by simpa [D.cmpbL] using h
    show (PyData.eqv y.py d.py || (D.pyL ys).any _) = (D.eqv y d || ys.any _)
    rw [py_eqv 59 59 y d h'.1 hd, py_any hd h'.2]
theorem in_deep {Z : Zt} {H : Hp} (hK : G.K = X.K) (hu : X.A.units + 65 < cLine) (neg : Bool) {pins : List (Addr × Obj)} {s : Shared} {σ : St} {x y : V} {v u : Value} {Q : VK} {a : D} {ys : List D} (tup : Bool) (I : L2.Inv X pins σ H s) (rx : RelV x v) (ry : RelV y u) (ok : ZOk G Z H) (rd : RepD G Z H a x) (re : RepD G Z H (if tup = true then .tup ys else .lst ys) y) (h : D.inOk a ys = true) (q : Q (.bl (if neg = true then !ys.any (D.eqv · a) else ys.any (D.eqv · a))) H) :
    wpAny (model X.prog X.w) X.A (compareOp (if neg = true then .NotIn else .In) v u) (EP X pins σ Q) X.xe s := by
  obtain ⟨c1, c2⟩ := inOk_of h
  obtain ⟨a1, a2, a3⟩ := dpD_of ok 59 a x c1 rd
  have sd : SeqAt.shaped a.py = true := by
    simp only [SeqAt.shaped, a2, Bool.true_and]
    exact decide_eq_true (by omega)
  obtain ⟨b1, b2, b3⟩ := dpD_of ok 60 _ y (by
    cases tup
    · show D.cmpb 60 (.lst ys) = true
      rw [D.cmpb]
      exact c2
    · show D.cmpb 60 (.tup ys) = true
      rw [D.cmpb]
      exact c2) re
  rw [hK] at a1 b1
  obtain ⟨as, r1⟩ := Dp.reads I _ x v a1 rx
  obtain ⟨bs, r2⟩ := Dp.reads I _ y u b1 ry
  cases tup
  · have e : (if false = true then D.tup ys else D.lst ys).py = .list (D.pyL ys) := by simp [D.py]
    rw [e] at r2 b2
    have cl : PyData.canLayAll0 (D.pyL ys) = true := by simpa [PyData.canLay0] using b2
    cases neg
    · exact SeqAt.in_list_reads r2 r1 cl a2 (PyProof.Rows.room_in_shaped sd hu) ⟨.bl _, H, I, rfl, by rw [py_any c1 c2]; exact q⟩
    · exact SeqAt.notIn_list_reads r2 r1 cl a2 (PyProof.Rows.room_in_shaped sd hu) ⟨.bl _, H, I, rfl, by rw [py_any c1 c2]; exact q⟩
  · have e : (if true = true then D.tup ys else D.lst ys).py = .tuple (D.pyL ys) := by simp [D.py]
    rw [e] at r2 b2
    have cl : PyData.canLayAll0 (D.pyL ys) = true := by simpa [PyData.canLay0] using b2
    cases neg
    · exact SeqAt.in_tuple_reads r2 r1 cl a2 (PyProof.Rows.room_in_shaped sd hu) ⟨.bl _, H, I, rfl, by rw [py_any c1 c2]; exact q⟩
    · exact SeqAt.notIn_tuple_reads r2 r1 cl a2 (PyProof.Rows.room_in_shaped sd hu) ⟨.bl _, H, I, rfl, by rw [py_any c1 c2]; exact q⟩
theorem op_in_D (hK : G.K = X.K) (hu : X.A.units + 1 < cLine) (hu5 : X.A.units + 65 < cLine) : OpR X (compareOp .In) (rD G (gB (wCmp .isin))) := by
  intro pins s σ H x y v u Q I rx ry h
  obtain ⟨Z, d, e, ok, rd, re, h⟩ := h
  unfold gB wCmp at h
  split at h
  all_goals first | (rename_i hop; cases hop; done) | skip
  · obtain ⟨e1, g1⟩ := rd.str; obtain ⟨e2, g2⟩ := re.str
    subst e1 e2
    refine op_in_sign pins s σ H _ _ v u Q I rx ry ⟨_, _, rfl, rfl, ?_⟩
    rw [mkS_list]
    have : ∀ (c : Nat) (y : List Nat), decide (c ∈ y) = y.contains c := fun c y => by simp
    rw [this]
    exact kT.d ok h (.bl _)
  · obtain ⟨hf, h⟩ := h
    exact in_deep hK hu5 false true I rx ry ok rd re hf (kT.d ok h (.bl _))
  · obtain ⟨p, vs, e1, s1, l1⟩ := re.dct ok
    subst e1
    split at h
    rotate_left
    · exact h.elim
    · rename_i key hk
      obtain ⟨ew, gk⟩ := key_rep hk rd
      subst ew
      cases ry
      refine d_in hu I (DGet.k (k := key) s1) rx fun s3 I3 => ⟨.bl (valV vs key).isSome, H, I3, rfl, ?_⟩
      have e2 := repK_some (k := key) l1
      rw [e2]
      exact kT.d ok h (.bl _)
  · obtain ⟨hf, h⟩ := h
    exact in_deep hK hu5 false false I rx ry ok rd re hf (kT.d ok h (.bl _))
  · exact h.elim
theorem op_notin_D (hK : G.K = X.K) (hu : X.A.units + 1 < cLine) (hu5 : X.A.units + 65 < cLine) : OpR X (compareOp .NotIn) (rD G (gB (wCmp .notin))) := by
  intro pins s σ H x y v u Q I rx ry h
  obtain ⟨Z, d, e, ok, rd, re, h⟩ := h
  unfold gB wCmp at h
  split at h
  all_goals first | (rename_i hop; cases hop; done) | skip
  · obtain ⟨e1, g1⟩ := rd.str; obtain ⟨e2, g2⟩ := re.str
    subst e1 e2
    refine op_notIn_sign pins s σ H _ _ v u Q I rx ry ⟨_, _, rfl, rfl, ?_⟩
    rw [mkS_list]
    have : ∀ (c : Nat) (y : List Nat), decide (c ∈ y) = y.contains c := fun c y => by simp
    rw [this]
    exact kT.d ok h (.bl _)
  · obtain ⟨hf, h⟩ := h
    exact in_deep hK hu5 true true I rx ry ok rd re hf (kT.d ok h (.bl _))
  · obtain ⟨p, vs, e1, s1, l1⟩ := re.dct ok
    subst e1
    split at h
    rotate_left
    · exact h.elim
    · rename_i key hk
      obtain ⟨ew, gk⟩ := key_rep hk rd
      subst ew
      cases ry
      refine d_notIn hu I (DGet.k (k := key) s1) rx fun s3 I3 => ⟨.bl (!(valV vs key).isSome), H, I3, rfl, ?_⟩
      have e2 := repK_some (k := key) l1
      rw [e2]
      exact kT.d ok h (.bl _)
  · obtain ⟨hf, h⟩ := h
    exact in_deep hK hu5 true false I rx ry ok rd re hf (kT.d ok h (.bl _))
  · exact h.elim
theorem nonD {Z : Zt} {H : Hp} {d : D} {v : V} (r : RepD G Z H d v) : decide (v = .non) = d.isNon := by
  obtain ⟨t, e, q⟩ := r
  cases q with
  | v q => cases e; cases q <;> simp [T.d, D.isNon]
  | ol => cases e; simp [T.d, D.isNon]
  | od => cases e; simp [T.d, D.isNon]
  | op => cases e; simp [T.d, D.isNon]
  | ob => cases e; simp [T.d, D.isNon]
theorem op_is_D : OpR X (compareOp .Is) (rD G (gB (wCmp .is))) := by
  intro pins s σ H x y v u Q I rx ry h
  obtain ⟨Z, d, e, ok, rd, re, h⟩ := h
  unfold gB wCmp at h
  split at h
  all_goals first | (rename_i hop; cases hop; done) | skip
  · have e2 := re.non
    subst e2
    refine op_isN pins s σ H _ _ v u Q I rx ry ⟨rfl, ?_⟩
    rw [nonD rd]
    exact kT.d ok h (.bl _)
  · have e1 := rd.bl; have e2 := re.bl
    subst e1 e2
    refine op_isBl pins s σ H _ _ v u Q I rx ry ⟨_, _, rfl, rfl, ?_⟩
    rw [← Bool.beq_eq_decide_eq]
    exact kT.d ok h (.bl _)
  · exact h.elim
theorem op_isnot_D : OpR X (compareOp .IsNot) (rD G (gB (wCmp .isnot))) := by
  intro pins s σ H x y v u Q I rx ry h
  obtain ⟨Z, d, e, ok, rd, re, h⟩ := h
  unfold gB wCmp at h
  split at h
  all_goals first | (rename_i hop; cases hop; done) | skip
  · have e2 := re.non
    subst e2
    refine op_notN pins s σ H _ _ v u Q I rx ry ⟨rfl, ?_⟩
    rw [nonD rd]
    exact kT.d ok h (.bl _)
  · have e1 := rd.bl; have e2 := re.bl
    subst e1 e2
    refine op_notBl pins s σ H _ _ v u Q I rx ry ⟨_, _, rfl, rfl, ?_⟩
    rw [← Bool.beq_eq_decide_eq]
    exact kT.d ok h (.bl _)
  · exact h.elim
end
end LC

namespace LC
open PySem L2
section
variable {X : Cx} {G : Gx}
inductive RepDs (G : Gx) (Z : Zt) (H : Hp) : List D → List V → Prop
  | nil : RepDs G Z H [] []
  | cons {d : D} {ds : List D} {v : V} {vs : List V} : RepD G Z H d v → RepDs G Z H ds vs → RepDs G Z H (d :: ds) (v :: vs)
theorem RepDs.ext {Z Z' : Zt} {H H' : Hp} (x : Ext G Z H Z' H') : ∀ {ds : List D} {vs : List V}, RepDs G Z H ds vs → RepDs G Z' H' ds vs
  | _, _, .nil => .nil
  | _, _, .cons r t => .cons (x.repD r) (RepDs.ext x t)
def rDs (G : Gx) (g : List D → (T → Prop) → Prop) : List V → Hp → VK → Prop := fun vs H Q => ∃ Z ds, ZOk G Z H ∧ RepDs G Z H ds vs ∧ g ds (kT G Z H Q)
def Ty.nm : Ty → String
  | .str => "str" | .int => "int" | .bool => "bool" | .tuple => "tuple" | .list => "list"
def D.tyn : D → Option String
  | .non => some "NoneType" | .bl _ => some "bool" | .int _ => some "int" | .str _ => some "str" | .tup _ => some "tuple" | .lst _ => some "list" | .dct _ => some "dict"
  | _ => none
theorem kit_all (t : Ty) (d : D) (b : Bool) (h : wTy t d = some b) : ∃ n, d.tyn = some n ∧ kitB n t.nm = some b := by
  cases d with
  | non => cases t <;> (cases h; exact ⟨_, rfl, by decide +kernel⟩)
  | bl _ => cases t <;> (cases h; exact ⟨_, rfl, by decide +kernel⟩)
  | int _ => cases t <;> (cases h; exact ⟨_, rfl, by decide +kernel⟩)
  | str _ => cases t <;> (cases h; exact ⟨_, rfl, by decide +kernel⟩)
  | tup _ => cases t <;> (cases h; exact ⟨_, rfl, by decide +kernel⟩)
  | lst _ => cases t <;> (cases h; exact ⟨_, rfl, by decide +kernel⟩)
  | dct _ => cases t <;> (cases h; exact ⟨_, rfl, by decide +kernel⟩)
  | lck _ => cases t <;> cases h
  | tpk _ => cases t <;> cases h
  | obj _ _ => cases t <;> cases h
  | fn _ => cases t <;> cases h
  | deck => cases t <;> cases h
  | script => cases t <;> cases h
theorem tyX_of {Z : Zt} {H : Hp} (ok : ZOk G Z H) {d : D} {v : V} {n : String} (r : RepD G Z H d v) (h : d.tyn = some n) : TyX G.K H v (.type n) := by
  obtain ⟨t, e, q⟩ := r
  cases q with
  | v q =>
    cases e
    cases q with
    | non => cases h; exact .base .non
    | bl b => cases h; exact .base (.bl b)
    | int i => cases h; exact .base (.int i)
    | str g => cases h; exact .base (.str _)
    | tup s r =>
      cases h
      rcases s with (s | ⟨o, s⟩) | ⟨o, its, m, s, c, _⟩
      · exact .base (.tup (ok.le _ _ s))
      · exact .fTuple (ok.le _ _ s)
      · exact .kTuple s c
    | lst s r => cases h; exact .base (.lst (ok.le _ _ s))
    | dct s r => cases h; exact .base (.dK (ok.le _ _ s))
    | lck s r => cases h
    | tpk s h1 h2 r => cases h
    | obj s h1 r => cases h
    | fn => cases h
    | deck => cases h
    | script => cases h
  | ol _ _ hH _ => cases e; cases h; exact .base (.lst hH)
  | od _ _ hH _ => cases e; cases h; exact .base (.dK hH)
  | op _ _ _ hH _ => cases e; cases h; exact .base (.dK hH)
  | ob => cases e; cases h
theorem call_isi_D (hK : G.K = X.K) {t : Ty} : CallR X (.builtin "isinstance") (fun vs H Q => ∃ Z d v b, ZOk G Z H ∧ vs = [v, .ty t.nm] ∧ RepD G Z H d v ∧ wTy t d = some b ∧ Q (.bl b) H) := by
  intro pins s σ H xs us Q I r h
  obtain ⟨Z, d, v, b, ok, rfl, rd, hb, q⟩ := h
  obtain ⟨n, h1, h2⟩ := kit_all t d b hb
  have ty := tyX_of ok rd h1
  rw [hK] at ty
  exact call_isi pins s σ H _ us Q I r ⟨v, .ty t.nm, .type n, .type t.nm, b, rfl, .ty _, ty, kit_ty h2, q⟩
theorem RepL.atI {Z : Zt} {ds : List D} {vs : List V} {i : Int} {d : D} (r : RepL G Z ds vs) (h : L2.atI ds i = some d) : ∃ v, L2.atI vs i = some v ∧ RepF G Z d v := by
  unfold L2.atI at h ⊢
  rw [← r.length]
  cases e : ixN ds.length i with
  | none => rw [e] at h; cases h
  | some j =>
    rw [e] at h
    exact r.getD h
theorem atI_mem {α : Type} {xs : List α} {i : Int} {c : α} (h : L2.atI xs i = some c) : c ∈ xs := by
  unfold L2.atI at h
  cases e : ixN xs.length i with
  | none => rw [e] at h; cases h
  | some j => rw [e] at h; exact List.mem_of_getElem? h
def gIx : D → D → (T → Prop) → Prop := fun x y P => wIx x y fun d => P (.v d)
theorem ix_D (hK : G.K = X.K) (hu : X.A.units + 1 < cLine) : IxR X (rD G gIx) := by
  intro value slice pins s σ H x y v u Q I rx ry h hs
  obtain ⟨Z, d, e, ok, rd, re, h⟩ := h
  unfold gIx wIx at h
  split at h
  · obtain ⟨e1, g1⟩ := rd.str; have e2 := re.int
    subst e1 e2
    split at h
    · rename_i c hc
      exact ix_str value slice pins s σ H _ _ v u Q I rx ry ⟨_, _, c, rfl, rfl, by rw [mkS_len]; exact g1.len, by rw [mkS_list]; exact hc, kT.d ok h (.str (g1.one (atI_mem hc)))⟩ hs
    · exact h.elim
  · obtain ⟨p, vs, e1, f1, s1, l1⟩ := rd.tup ok; have e2 := re.int
    subst e1 e2
    rw [hK] at s1
    split at h
    · rename_i c hc
      obtain ⟨w, h1, h2⟩ := l1.atI hc
      exact ix_tup value slice pins s σ H _ _ v u Q I rx ry ⟨_, _, _, w, rfl, rfl, s1, h1, kT.d ok h h2⟩ hs
    · exact h.elim
  · obtain ⟨p, vs, e1, s1, l1⟩ := rd.lst ok; have e2 := re.int
    subst e1 e2
    split at h
    · rename_i c hc
      obtain ⟨w, h1, h2⟩ := l1.atI hc
      exact ix_list value slice pins s σ H _ _ v u Q I rx ry ⟨_, _, _, w, rfl, rfl, .inl (.inl s1), h1, kT.d ok h h2⟩ hs
    · exact h.elim
  · obtain ⟨p, vs, e1, s1, l1⟩ := rd.dct ok
    subst e1
    split at h
    rotate_left
    · exact h.elim
    · rename_i key hk
      obtain ⟨ew, gk⟩ := key_rep hk re
      subst ew
      rcases repK_val (k := key) l1 with ⟨z1, z2⟩ | ⟨d', w, z1, z2, r⟩
      · rw [z1] at h
        exact h.elim
      · rw [z1] at h
        cases rx
        have g := DGet.k (k := key) s1
        rw [z2] at g
        exact PyProof.Rows.tail_any (dict_typeIs I g) PySem.F.slot_dict_getitem.lookup (d_getItem hu I g ry fun w' s3 I3 rw' => ⟨w, H, I3, rw', kT.d ok h r⟩) hs
  · obtain ⟨p, o, vs, e1, f1, s1, l1⟩ := rd.lck ok
    subst e1
    split at h
    rotate_left
    · exact h.elim
    · rename_i key hk
      obtain ⟨ew, gk⟩ := key_rep hk re
      subst ew
      rcases repK_val (k := key) l1 with ⟨z1, z2⟩ | ⟨d', w, z1, z2, r⟩
      · rw [z1] at h
        exact h.elim
      · rw [z1] at h
        cases rx
        have g : DGet H p (kV key) (valV vs key) := .inl ⟨vs, key, .inr ⟨o, s1⟩, rfl, rfl⟩
        rw [z2] at g
        exact PyProof.Rows.tail_any (dict_typeIs I g) PySem.F.slot_dict_getitem.lookup (d_getItem hu I g ry fun w' s3 I3 rw' => ⟨w, H, I3, rw', kT.d ok h r⟩) hs
  · exact h.elim
theorem RepL.cut {Z : Zt} {ds : List D} {vs : List V} (lo hi : Option Int) (r : RepL G Z ds vs) : RepL G Z (LC.cut ds lo hi) (cutV vs lo hi) := by
  unfold LC.cut cutV
  rw [r.length]
  exact (r.drop _).take _
theorem cut_mem {α : Type} {xs : List α} {lo hi : Option Int} {c : α} (h : c ∈ cut xs lo hi) : c ∈ xs := List.mem_of_mem_drop (List.mem_of_mem_take h)
theorem cut_len {α : Type} (xs : List α) (lo hi : Option Int) : (cut xs lo hi).length ≤ xs.length := by
  unfold cut
  rw [List.length_take, List.length_drop]
  omega
theorem StrG.cut {x : List Nat} (lo hi : Option Int) (g : StrG x) : StrG (LC.cut x lo hi) := ⟨Nat.le_trans (cut_len x lo hi) g.len, fun c hc => g.cps c (cut_mem hc)⟩
theorem cut_whole {α : Type} {xs : List α} {lo hi : Option Int} (h : HT.sIx xs.length 0 lo = 0 ∧ HT.sIx xs.length xs.length hi = xs.length) : cut xs lo hi = xs := by
  unfold cut
  rw [h.1, h.2]
  simp
theorem wCut_cases {d : D} {lo hi : Option Int} {Q : T → Prop} (h : wCut d lo hi Q) : (∃ x, d = .str x ∧ Q (.v (.str (cut x lo hi)))) ∨ (∃ xs, d = .tup xs ∧ Q (.v (.tup (cut xs lo hi)))) ∨ (∃ xs, d = .lst xs ∧ Q (.ol (cut xs lo hi))) := by
  cases d with
  | str x => exact .inl ⟨x, rfl, h⟩
  | tup x => exact .inr (.inl ⟨x, rfl, h⟩)
  | lst x => exact .inr (.inr ⟨x, rfl, h⟩)
  | _ => exact False.elim h
def rCutD (G : Gx) : V → Option Int → Option Int → Hp → VK → Prop := fun x lo hi H Q => ∃ Z d, ZOk G Z H ∧ RepD G Z H d x ∧ wCut d lo hi (kT G Z H Q)
theorem sl_D (hK : G.K = X.K) : SlR X (rCutD G) := by
  intro pins s σ H x v vl vu lo hi sl Q I rx hs pl pu h
  obtain ⟨Z, d, ok, rd, h⟩ := h
  rcases wCut_cases h with ⟨x, rfl, h⟩ | ⟨xs, rfl, h⟩ | ⟨xs, rfl, h⟩
  · obtain ⟨e1, g1⟩ := rd.str
    subst e1
    refine sl_str pins s σ H _ v vl vu lo hi sl Q I rx hs pl pu ⟨_, rfl, by rw [mkS_len]; exact g1.len, ?_⟩
    have e : ∀ x : List Nat, cutS (mkS x) lo hi = mkS (cut x lo hi) := fun x => by
      unfold cutS
      rw [mkS_len, mkS_list]
      rfl
    rw [e]
    exact kT.d ok h (.str (g1.cut lo hi))
  · obtain ⟨p, vs, e1, f1, s1, l1⟩ := rd.tup ok
    subst e1
    rw [hK] at s1
    refine sl_tupA pins s σ H _ v vl vu lo hi sl Q I rx hs pl pu ⟨p, vs, rfl, s1, fun w => ?_, fun _ q hq => kT.tup ok h hq (l1.cut lo hi)⟩
    rw [← l1.length] at w
    have h' : kT G Z H Q (.v (.tup (cut xs lo hi))) := h
    rw [cut_whole w] at h'
    exact kT.d ok h' (.tup f1 l1)
  · obtain ⟨p, vs, e1, s1, l1⟩ := rd.lst ok
    subst e1
    exact sl_list pins s σ H _ v vl vu lo hi sl Q I rx hs pl pu ⟨p, vs, rfl, .inl (.inl s1), fun q hq => kT.ol ok h hq (l1.cut lo hi)⟩
theorem bools_rep {Z : Zt} : ∀ {ds : List D} {vs : List V} {bs : List Bool}, RepL G Z ds vs → bools ds = some bs → vs = bs.map V.bl
  | _, _, _, .nil, h => by cases h; rfl
  | _, _, _, .cons r t, h => by
    cases r with
    | bl b =>
      simp only [bools, Option.map_eq_some_iff] at h
      obtain ⟨c, h1, rfl⟩ := h
      rw [bools_rep t h1]; rfl
    | _ => simp [bools] at h
theorem texts_rep {Z : Zt} : ∀ {ds : List D} {vs : List V} {ts : List (List Nat)}, RepL G Z ds vs → texts ds = some ts → vs = (ts.map mkS).map V.str ∧ ds = ts.map D.str ∧ ∀ t ∈ ts, StrG t
  | _, _, _, .nil, h => by cases h; exact ⟨rfl, rfl, fun _ z => nomatch z⟩
  | _, _, _, .cons r t, h => by
    cases r with
    | str g =>
      simp only [texts, Option.map_eq_some_iff] at h
      obtain ⟨c, h1, rfl⟩ := h
      obtain ⟨e1, e2, e3⟩ := texts_rep t h1
      rw [e1, e2]
      refine ⟨rfl, rfl, fun z hz => ?_⟩
      rcases List.mem_cons.mp hz with rfl | hz
      · exact g
      · exact e3 z hz
    | _ => simp [texts] at h
theorem repL_texts {Z : Zt} : ∀ (ts : List (List Nat)), (∀ t ∈ ts, StrG t) → RepL G Z (ts.map D.str) ((ts.map mkS).map V.str)
  | [], _ => .nil
  | t :: ts, h => .cons (.str (h t (List.mem_cons_self ..))) (repL_texts ts fun z hz => h z (List.mem_cons_of_mem _ hz))
theorem one_D {Z : Zt} {H : Hp} {d : D} {vs : List V} (r : RepDs G Z H [d] vs) : ∃ v, vs = [v] ∧ RepD G Z H d v := by
  cases r with
  | cons r t => cases t; exact ⟨_, rfl, r⟩
theorem len_D (hK : G.K = X.K) : CallR X (.builtin "len") (rDs G (wBi .len)) := by
  intro pins s σ H xs us Q I r h
  obtain ⟨Z, ds, ok, rd, h⟩ := h
  unfold wBi at h
  split at h
  all_goals first | (rename_i hop; cases hop; done) | skip
  · obtain ⟨v, ev, rd1⟩ := one_D rd
    subst ev
    obtain ⟨e1, g1⟩ := rd1.str
    subst e1
    exact call_len pins s σ H _ us Q I r ⟨_, _, rfl, ⟨by rw [mkS_len]; exact g1.len, (mkS_len _).symm⟩, kT.d ok h (.int _)⟩
  · obtain ⟨v, ev, rd1⟩ := one_D rd
    subst ev
    obtain ⟨p, vs, e1, f1, s1, l1⟩ := rd1.tup ok
    subst e1
    rw [hK] at s1
    refine call_len_seq pins s σ H _ us Q I r ⟨_, _, rfl, .inr s1, ?_⟩
    rw [← l1.length]
    exact kT.d ok h (.int _)
  · obtain ⟨v, ev, rd1⟩ := one_D rd
    subst ev
    obtain ⟨p, vs, e1, s1, l1⟩ := rd1.lst ok
    subst e1
    refine call_len_seq pins s σ H _ us Q I r ⟨_, _, rfl, .inl (.inl (.inl s1)), ?_⟩
    rw [← l1.length]
    exact kT.d ok h (.int _)
  · obtain ⟨v, ev, rd1⟩ := one_D rd
    subst ev
    obtain ⟨p, vs, e1, s1, l1⟩ := rd1.dct ok
    subst e1
    refine call_lenD pins s σ H _ us Q I r ⟨_, _, rfl, s1, ?_⟩
    have : ∀ {ds : List (Key × D)} {vs : List (Key × V)}, RepK G Z ds vs → ds.length = vs.length := by
      intro ds vs r
      induction vs generalizing ds with
      | nil => cases r; rfl
      | cons w ws ih => cases r with | cons _ _ t => rw [List.length_cons, List.length_cons, ih t]
    rw [← this l1]
    exact kT.d ok h (.int _)
  · exact h.elim
theorem all_D (hc : X.calm = true) : CallR X (.builtin "all") (rDs G (wBi .all)) := by
  intro pins s σ H xs us Q I r h
  obtain ⟨Z, ds, ok, rd, h⟩ := h
  unfold wBi at h
  split at h
  all_goals first | (rename_i hop; cases hop; done) | skip
  · obtain ⟨v, ev, rd1⟩ := one_D rd
    subst ev
    obtain ⟨p, vs, e1, s1, l1⟩ := rd1.lst ok
    subst e1
    obtain ⟨bs, hb, h⟩ := h
    have e := bools_rep l1 hb
    subst e
    exact cr_all hc pins s σ H _ us Q I r ⟨_, _, rfl, .inl (.inl s1), kT.d ok h (.bl _)⟩
  · exact h.elim
theorem any_D (hc : X.calm = true) : CallR X (.builtin "any") (rDs G (wBi .any)) := by
  intro pins s σ H xs us Q I r h
  obtain ⟨Z, ds, ok, rd, h⟩ := h
  unfold wBi at h
  split at h
  all_goals first | (rename_i hop; cases hop; done) | skip
  · obtain ⟨v, ev, rd1⟩ := one_D rd
    subst ev
    obtain ⟨p, vs, e1, s1, l1⟩ := rd1.lst ok
    subst e1
    obtain ⟨bs, hb, h⟩ := h
    have e := bools_rep l1 hb
    subst e
    exact cr_any hc pins s σ H _ us Q I r ⟨_, _, rfl, .inl (.inl s1), kT.d ok h (.bl _)⟩
  · exact h.elim
theorem keys_rep {Z : Zt} : ∀ {ds : List (Key × D)} {vs : List (Key × V)}, RepK G Z ds vs → RepL G Z (ds.map fun p => keyD p.1) (vs.map fun p => kV p.1) ∧ ds.map (·.1) = vs.map (·.1) ∧ ∀ p ∈ ds, KeyG p.1 := by
  intro ds vs r
  induction vs generalizing ds with
  | nil =>
    cases r
    exact ⟨.nil, rfl, fun _ z => nomatch z⟩
  | cons w ws ih =>
    cases r with
    | @cons k _ _ _ _ g r t =>
      obtain ⟨h1, h2, h3⟩ := ih t
      refine ⟨.cons ?_ h1, by rw [List.map_cons, List.map_cons, h2], fun p hp => ?_⟩
      · cases k with
        | inl i => exact .int i
        | inr s =>
          obtain ⟨x, e, gx⟩ := g
          subst e
          show RepF G Z (.str (mkS x).cps.toList) (.str (mkS x))
          rw [mkS_list]
          exact .str gx
      · rcases List.mem_cons.mp hp with e | hp
        · rw [e]
          exact g
        · exact h3 p hp
theorem keys_text {ds : List (Key × D)} {ts : List (List Nat)} (hg : ∀ p ∈ ds, KeyG p.1) (h : texts (ds.map fun p => keyD p.1) = some ts) : ds.map (·.1) = (ts.map mkS).map Sum.inr := by
  induction ds generalizing ts with
  | nil =>
    cases h
    rfl
  | cons p r ih =>
    obtain ⟨k, d⟩ := p
    have gk := hg _ List.mem_cons_self
    cases k with
    | inl i => cases h
    | inr s =>
      obtain ⟨x, e, gx⟩ := gk
      have e' : s = mkS x := e
      subst e'
      have h' : (texts (r.map fun p => keyD p.1)).map ((mkS x).cps.toList :: ·) = some ts := h
      rw [mkS_list] at h'
      cases q : texts (r.map fun p => keyD p.1) with
      | none => rw [q] at h'; cases h'
      | some ts' =>
        rw [q] at h'
        cases h'
        rw [List.map_cons, ih (fun p hp => hg p (List.mem_cons_of_mem _ hp)) q]
        rfl
theorem perm_mk {ys : List Str} {ts : List (List Nat)} (h : ys.Perm (ts.map mkS)) : ∃ zs : List (List Nat), ys = zs.map mkS ∧ zs.Perm ts := by
  refine ⟨ys.map fun s => s.cps.toList, ?_, ?_⟩
  · have : ∀ s ∈ ys, mkS s.cps.toList = s := fun s hs => by
      obtain ⟨t, _, e⟩ := List.mem_map.mp (h.mem_iff.mp hs)
      rw [← e, mkS_list]
    rw [List.map_map]
    conv => lhs; rw [← List.map_id ys]
    exact List.map_congr_left fun s hs => (this s hs).symm
  · have h2 := h.map fun s => s.cps.toList
    rw [List.map_map] at h2
    have e : (ts.map ((fun s => s.cps.toList) ∘ mkS)) = ts := by
      conv => rhs; rw [← List.map_id ts]
      exact List.map_congr_left fun t _ => mkS_list t
    rw [e] at h2
    exact h2
theorem sorted_D (hK : G.K = X.K) (hc : X.calm = true) : CallR X (.builtin "sorted") (rDs G (wBi .sorted)) := by
  intro pins s σ H xs us Q I r h
  obtain ⟨Z, ds, ok, rd, h⟩ := h
  unfold wBi at h
  split at h
  all_goals first | (rename_i hop; cases hop; done) | skip
  · obtain ⟨v, ev, rd1⟩ := one_D rd
    subst ev
    obtain ⟨p, vs, e1, s1, l1⟩ := rd1.lst ok
    subst e1
    obtain ⟨h64, ts, ht, q⟩ := h
    obtain ⟨ev, ed, gs⟩ := texts_rep l1 ht
    refine cr_sortedS pins s σ H _ us Q I r ⟨p, ts.map mkS, rfl, ?_, ?_, fun ys q0 hp hs hn => ?_⟩
    · rw [← ev]
      exact .inl (.inl s1)
    · rw [List.length_map]
      rw [ed, List.length_map] at h64
      exact h64
    · obtain ⟨zs, e2, hz⟩ := perm_mk hp
      subst e2
      exact kT.ol ok (q zs hz hs) hn (repL_texts zs fun t ht => gs t (hz.mem_iff.mp ht))
  · obtain ⟨v, ev, rd1⟩ := one_D rd
    subst ev
    obtain ⟨p, vs, e1, s1, l1⟩ := rd1.dct ok
    subst e1
    obtain ⟨h64, ts, ht, q⟩ := h
    obtain ⟨k1, k2, k3⟩ := keys_rep l1
    obtain ⟨_, _, gs⟩ := texts_rep k1 ht
    have e3 := keys_text k3 ht
    refine call_sortedD hc pins s σ H _ us Q I r ⟨p, vs, ts.map mkS, rfl, .inl s1, by rw [← k2, e3], ?_, fun ys q0 hp hs hn => ?_⟩
    · have e4 := congrArg List.length e3
      rw [List.length_map, List.length_map] at e4
      rw [← e4]
      exact h64
    · obtain ⟨zs, e2, hz⟩ := perm_mk hp
      subst e2
      exact kT.ol ok (q zs hz hs) hn (repL_texts zs fun t ht => gs t (hz.mem_iff.mp ht))
  · exact h.elim
theorem zip_rep {Z : Zt} : ∀ {ps : List (List Nat × Int)} {vs : List V}, RepL G Z (ps.map fun p => D.tup [.str p.1, .int p.2]) vs → ∃ zs : List ((List Nat × Int) × V), zs.map (·.1) = ps ∧ zs.map (·.2) = vs ∧ ∀ z ∈ zs, RepF G Z (.tup [.str z.1.1, .int z.1.2]) z.2
  | [], _, .nil => ⟨[], rfl, rfl, fun _ z => nomatch z⟩
  | p :: ps, _, .cons (v := v) r t => by
    obtain ⟨zs, h1, h2, h3⟩ := zip_rep t
    refine ⟨(p, v) :: zs, by rw [← h1]; rfl, by rw [← h2]; rfl, fun z hz => ?_⟩
    rcases List.mem_cons.mp hz with e | hz
    · rw [e]; exact r
    · exact h3 z hz
theorem rep_zip {Z : Zt} : ∀ (zs : List ((List Nat × Int) × V)), (∀ z ∈ zs, RepF G Z (.tup [.str z.1.1, .int z.1.2]) z.2) → RepL G Z ((zs.map (·.1)).map fun p => D.tup [.str p.1, .int p.2]) (zs.map (·.2))
  | [], _ => .nil
  | z :: zs, h => .cons (h z List.mem_cons_self) (rep_zip zs fun y hy => h y (List.mem_cons_of_mem _ hy))
theorem sortedp_D (hK : G.K = X.K) : CallR X (.builtin "sorted") (rDs G (wBi .sortedp)) := by
  intro pins s σ H xs us Q I r h
  obtain ⟨Z, ds, ok, rd, h⟩ := h
  unfold wBi at h
  split at h
  all_goals first | (rename_i hop; cases hop; done) | skip
  · obtain ⟨v, ev, rd1⟩ := one_D rd
    subst ev
    obtain ⟨p, vs, e1, s1, l1⟩ := rd1.lst ok
    subst e1
    obtain ⟨ps, e2, q⟩ := h
    rw [e2] at l1
    obtain ⟨zs, z1, z2, z3⟩ := zip_rep l1
    refine cr_sortTI pins s σ H _ us Q I r ⟨_, p, zs, (·.2), fun z => mkS z.1.1, rfl, ?_, fun z hz => ?_, fun ys q0 hp hs hn => ?_⟩
    · rw [z2]
      exact .inl (.inl s1)
    · obtain ⟨a, ws, e3, _, s3, l3⟩ := RepD.tup ok (z3 z hz).toD
      cases l3 with
      | cons r1 l3 =>
        cases l3 with
        | cons r2 l3 =>
          cases l3
          cases r1
          cases r2
          exact ⟨a, _, e3, hK ▸ s3⟩
    · have hp2 : (ys.map (·.1)).Perm ps := by
        rw [← z1]
        exact hp.map _
      have h4 := q (ys.map (·.1)) hp2 (by
        unfold sortedN
        rw [List.map_map, List.map_map]
        exact hs)
      exact kT.ol ok h4 hn (rep_zip ys fun z hz => z3 z (hp.mem_iff.mp hz))
  · exact h.elim
theorem sortedt_D (hK : G.K = X.K) : CallR X (.builtin "sorted") (rDs G (wBi .sortedt)) := by
  intro pins s σ H xs us Q I r h
  obtain ⟨Z, ds, ok, rd, h⟩ := h
  unfold wBi at h
  split at h
  all_goals first | (rename_i hop; cases hop; done) | skip
  · obtain ⟨v, ev, rd1⟩ := one_D rd
    subst ev
    obtain ⟨p, vs, e1, _, s1, l1⟩ := RepD.tup ok rd1
    subst e1
    obtain ⟨ps, e2, q⟩ := h
    rw [e2] at l1
    obtain ⟨zs, z1, z2, z3⟩ := zip_rep l1
    refine cr_sortTT pins s σ H _ us Q I r ⟨_, p, zs, (·.2), fun z => mkS z.1.1, rfl, ?_, fun z hz => ?_, fun ys q0 hp hs hn => ?_⟩
    · rw [z2]
      exact hK ▸ s1
    · obtain ⟨a, ws, e3, _, s3, l3⟩ := RepD.tup ok (z3 z hz).toD
      cases l3 with
      | cons r1 l3 =>
        cases l3 with
        | cons r2 l3 =>
          cases l3
          cases r1
          cases r2
          exact ⟨a, _, e3, hK ▸ s3⟩
    · have hp2 : (ys.map (·.1)).Perm ps := by
        rw [← z1]
        exact hp.map _
      have h4 := q (ys.map (·.1)) hp2 (by
        unfold sortedN
        rw [List.map_map, List.map_map]
        exact hs)
      exact kT.ol ok h4 hn (rep_zip ys fun z hz => z3 z (hp.mem_iff.mp hz))
  · exact h.elim
theorem signs_rep {Z : Zt} : ∀ {x : List Nat}, (∀ c ∈ x, c < 0x110000) → RepL G Z (x.map fun c => D.str [c]) (x.map fun c => V.str (mkS [c]))
  | [], _ => .nil
  | c :: r, h => .cons (.str ⟨Nat.le_trans (show 1 ≤ 16777216 by decide) (by decide), fun z hz => by rw [List.mem_singleton.mp hz]; exact h c List.mem_cons_self⟩) (signs_rep fun z hz => h z (List.mem_cons_of_mem _ hz))
theorem call_list_text (hc : X.calm = true) : CallR X (.type "list") (fun xs H Q => ∃ x : List Nat, xs = [.str (mkS x)] ∧ x.length ≤ sizeLine ∧ ∀ l, H l = none → Q (.ref l) (upd H l (.lst (x.map fun c => V.str (mkS [c]))))) := by
  intro pins s σ H xs us Q I r h
  obtain ⟨x, e, hx, q⟩ := h
  subst e
  obtain ⟨u, eu, rx⟩ := vals1 r
  subst eu
  obtain ⟨t, rfl⟩ := rx
  have hsz : (mkS x).cps.size = x.length := by
    unfold mkS
    simp
  refine PySem.call_list_str (I.ok.hd hc) (mkS x) t (fun h' tk acc' c' hkeep hS hacc => ?_) (by rw [hsz]; exact hx)
  refine ⟨.ref s.heap.objs.size, upd H s.heap.objs.size (.lst (x.map fun c => V.str (mkS [c]))), I.laid hkeep (Nat.le_refl _) (show ObjOk X.prog X.w _ _ _ (.lst (x.map fun c => V.str (mkS [c]))) from ⟨?_, acc'.toList, c', ?_, ?_⟩), rfl, q _ (I.hok.fresh (Nat.le_refl _))⟩
  · rw [List.length_map]; exact hx
  · have el : acc'.toList.length = acc'.size := by simp
    refine vals_of_at (by rw [List.length_map, el, hacc.1, hsz]) fun j y w h1 h2 => ?_
    obtain ⟨c, u, e1, e2⟩ := hacc.2 j w (by rw [← Array.getElem?_toList]; exact h2)
    have e3 : x[j]? = some c := by
      unfold mkS at e1
      simpa using e1
    rw [List.getElem?_map, e3] at h1
    cases h1
    subst e2
    exact ⟨u, rfl⟩
  · rw [Array.toArray_toList]; exact hS
theorem list_D (hK : G.K = X.K) (hc : X.calm = true) : CallR X (.type "list") (rDs G (wBi .list)) := by
  intro pins s σ H xs us Q I r h
  obtain ⟨Z, ds, ok, rd, h⟩ := h
  unfold wBi at h
  split at h
  all_goals first | (rename_i hop; cases hop; done) | skip
  · obtain ⟨v, ev, rd1⟩ := one_D rd
    subst ev
    obtain ⟨p, vs, e1, s1, l1⟩ := rd1.lst ok
    subst e1
    exact call_list_of pins s σ H _ us Q I r ⟨_, _, rfl, .inl (.inl (.inl s1)), fun l hl => kT.ol ok h hl l1⟩
  · obtain ⟨v, ev, rd1⟩ := one_D rd
    subst ev
    obtain ⟨p, vs, e1, f1, s1, l1⟩ := rd1.tup ok
    subst e1
    rw [hK] at s1
    exact call_list_of pins s σ H _ us Q I r ⟨_, _, rfl, .inr s1, fun l hl => kT.ol ok h hl l1⟩
  · obtain ⟨v, ev, rd1⟩ := one_D rd
    subst ev
    obtain ⟨p, vs, e1, s1, l1⟩ := rd1.dct ok
    subst e1
    exact call_list_dK hc pins s σ H _ us Q I r ⟨_, _, rfl, s1, fun l hl => kT.ol ok h hl (keys_rep l1).1⟩
  · obtain ⟨v, ev, rd1⟩ := one_D rd
    subst ev
    obtain ⟨e1, sg⟩ := rd1.str
    subst e1
    exact call_list_text hc pins s σ H _ us Q I r ⟨_, rfl, sg.len, fun l hl => kT.ol ok h hl (signs_rep sg.cps)⟩
  · exact h.elim
theorem tuple_D (hK : G.K = X.K) : CallR X (.type "tuple") (rDs G (wBi .tuple)) := by
  intro pins s σ H xs us Q I r h
  obtain ⟨Z, ds, ok, rd, h⟩ := h
  unfold wBi at h
  split at h
  all_goals first | (rename_i hop; cases hop; done) | skip
  · obtain ⟨v, ev, rd1⟩ := one_D rd
    subst ev
    obtain ⟨p, vs, e1, s1, l1⟩ := rd1.lst ok
    subst e1
    exact call_tuple_of pins s σ H _ us Q I r ⟨_, _, rfl, .inl ⟨.inl (.inl s1), fun l hl => kT.tup ok h hl l1⟩⟩
  · obtain ⟨v, ev, rd1⟩ := one_D rd
    subst ev
    obtain ⟨p, vs, e1, f1, s1, l1⟩ := rd1.tup ok
    subst e1
    refine call_tuple_of pins s σ H _ us Q I r ⟨_, _, rfl, .inr ⟨hK ▸ s1, kT.d ok h (.tup f1 l1)⟩⟩
  · exact h.elim
theorem ints_rep {Z : Zt} : ∀ {ds : List D} {vs : List V} {ns : List Int}, RepL G Z ds vs → intsD ds = some ns → vs = ns.map V.int
  | _, _, _, .nil, h => by cases h; rfl
  | _, _, _, .cons r t, h => by
    cases r with
    | int b =>
      simp only [intsD, Option.map_eq_some_iff] at h
      obtain ⟨c, h1, rfl⟩ := h
      rw [ints_rep t h1]; rfl
    | _ => simp [intsD] at h
theorem two_D {Z : Zt} {H : Hp} {d e : D} {vs : List V} (r : RepDs G Z H [d, e] vs) : ∃ v w, vs = [v, w] ∧ RepD G Z H d v ∧ RepD G Z H e w := by
  cases r with
  | cons r t =>
    cases t with
    | cons r2 t => cases t; exact ⟨_, _, rfl, r, r2⟩
theorem max_D (hc : X.calm = true) : CallR X (.builtin "max") (rDs G (wBi .max)) := by
  intro pins s σ H xs us Q I r h
  obtain ⟨Z, ds, ok, rd, h⟩ := h
  unfold wBi at h
  split at h
  all_goals first | (rename_i hop; cases hop; done) | skip
  · obtain ⟨v, w, ev, r1, r2⟩ := two_D rd
    subst ev
    have e1 := r1.int
    have e2 := r2.int
    subst e1 e2
    exact call_max2 hc pins s σ H _ us Q I r ⟨_, _, rfl, kT.d ok h (.int _)⟩
  · obtain ⟨v, w, ev, r1, r2⟩ := two_D rd
    subst ev
    obtain ⟨e1, g1⟩ := r1.str
    obtain ⟨e2, g2⟩ := r2.str
    subst e1 e2
    refine call_max2S hc pins s σ H _ us Q I r ⟨_, _, rfl, ?_⟩
    rw [mkS_list, mkS_list]
    split
    · rename_i hlt
      rw [if_pos hlt] at h
      exact kT.d ok h (.str ‹_›)
    · rename_i hlt
      rw [if_neg hlt] at h
      exact kT.d ok h (.str ‹_›)
  · obtain ⟨v, ev, rd1⟩ := one_D rd
    subst ev
    obtain ⟨p, vs, e1, s1, l1⟩ := rd1.lst ok
    subst e1
    obtain ⟨ns, hn, h0, h⟩ := h
    have e := ints_rep l1 hn
    subst e
    exact cr_max hc pins s σ H _ us Q I r ⟨_, _, rfl, .inl (.inl s1), h0, fun m h1 h2 => kT.d ok (h m h1 h2) (.int _)⟩
  · exact h.elim
theorem min_D (hc : X.calm = true) : CallR X (.builtin "min") (rDs G (wBi .min)) := by
  intro pins s σ H xs us Q I r h
  obtain ⟨Z, ds, ok, rd, h⟩ := h
  unfold wBi at h
  split at h
  all_goals first | (rename_i hop; cases hop; done) | skip
  · obtain ⟨v, w, ev, r1, r2⟩ := two_D rd
    subst ev
    have e1 := r1.int
    have e2 := r2.int
    subst e1 e2
    exact call_min2 hc pins s σ H _ us Q I r ⟨_, _, rfl, kT.d ok h (.int _)⟩
  · obtain ⟨v, w, ev, r1, r2⟩ := two_D rd
    subst ev
    obtain ⟨e1, g1⟩ := r1.str
    obtain ⟨e2, g2⟩ := r2.str
    subst e1 e2
    refine call_min2S hc pins s σ H _ us Q I r ⟨_, _, rfl, ?_⟩
    rw [mkS_list, mkS_list]
    split
    · rename_i hlt
      rw [if_pos hlt] at h
      exact kT.d ok h (.str ‹_›)
    · rename_i hlt
      rw [if_neg hlt] at h
      exact kT.d ok h (.str ‹_›)
  · obtain ⟨v, ev, rd1⟩ := one_D rd
    subst ev
    obtain ⟨p, vs, e1, s1, l1⟩ := rd1.lst ok
    subst e1
    obtain ⟨ns, hn, h0, h⟩ := h
    have e := ints_rep l1 hn
    subst e
    exact cr_min hc pins s σ H _ us Q I r ⟨_, _, rfl, .inl (.inl s1), h0, fun m h1 h2 => kT.d ok (h m h1 h2) (.int _)⟩
  · exact h.elim
theorem sum_D (hc : X.calm = true) : CallR X (.builtin "sum") (rDs G (wBi .sum)) := by
  intro pins s σ H xs us Q I r h
  obtain ⟨Z, ds, ok, rd, h⟩ := h
  unfold wBi at h
  split at h
  all_goals first | (rename_i hop; cases hop; done) | skip
  · obtain ⟨v, ev, rd1⟩ := one_D rd
    subst ev
    obtain ⟨p, vs, e1, s1, l1⟩ := rd1.lst ok
    subst e1
    obtain ⟨ns, hn, h⟩ := h
    have e := ints_rep l1 hn
    subst e
    exact cr_sum hc pins s σ H _ us Q I r ⟨_, _, rfl, .inl (.inl s1), kT.d ok h (.int _)⟩
  · exact h.elim
theorem mkS_eta (s : Str) : mkS s.cps.toList = s := by
  unfold mkS
  simp
theorem decN_chars (i : Int) : decN i = (toString i).toList.map Char.toNat := by
  unfold decN
  rw [Str.ofString_eq_toList]
theorem toS_len (i : Int) (h : i.natAbs.log2 < 1920) : (toString i).toList.length ≤ 2000 := by
  have hn : i.natAbs < 2 ^ 1920 := Nat.lt_of_lt_of_le Nat.lt_log2_self (Nat.pow_le_pow_right (by decide) h)
  have hd : (Nat.toDigits 10 i.natAbs).length ≤ 1920 := by
    rw [Nat.length_toDigits_le_iff (by decide) (by decide)]
    exact Nat.lt_of_lt_of_le hn (Nat.pow_le_pow_left (by decide) _)
  cases i with
  | ofNat n =>
    show (Nat.repr n).toList.length ≤ 2000
    rw [Nat.toList_repr]
    exact Nat.le_trans hd (by decide)
  | negSucc n =>
    show ("-" ++ (Nat.repr (n + 1))).toList.length ≤ 2000
    rw [String.toList_append, Nat.toList_repr, List.length_append]
    have hd' : (Nat.toDigits 10 (n + 1)).length ≤ 1920 := hd
    have : "-".toList.length = 1 := by decide
    omega
theorem decN_good {i : Int} (h : i.natAbs.log2 < 1920) : StrG (decN i) := by
  rw [decN_chars]
  refine ⟨?_, fun c hc => ?_⟩
  · rw [List.length_map, szl]
    exact Nat.le_trans (toS_len i h) (by decide)
  · obtain ⟨ch, _, e⟩ := List.mem_map.mp hc
    rw [← e]
    have := ch.valid
    rcases this with z | z
    · have z' : ch.toNat < 0xd800 := z
      omega
    · have z' : ch.toNat < 0x110000 := z.2
      exact z'
theorem str_D : CallR X (.type "str") (rDs G (wBi .str)) := by
  intro pins s σ H xs us Q I r h
  obtain ⟨Z, ds, ok, rd, h⟩ := h
  unfold wBi at h
  split at h
  all_goals first | (rename_i hop; cases hop; done) | skip
  · obtain ⟨v, ev, rd1⟩ := one_D rd
    subst ev
    have e1 := rd1.int
    subst e1
    rename_i i _
    refine call_str_int pins s σ H _ us Q I r ⟨i, rfl, h.1, ?_⟩
    have e : (Str.ofString (toString i)) = mkS (decN i) := (mkS_eta _).symm
    rw [e]
    exact kT.d ok h.2 (.str (decN_good h.1))
  · obtain ⟨v, ev, rd1⟩ := one_D rd
    subst ev
    obtain ⟨e1, g1⟩ := rd1.str
    subst e1
    exact SkE.call_str_str pins s σ H _ us Q I r ⟨_, rfl, kT.d ok h (.str g1)⟩
  · exact h.elim
theorem int_D : CallR X (.type "int") (rDs G (wBi .int)) := by
  intro pins s σ H xs us Q I r h
  obtain ⟨Z, ds, ok, rd, h⟩ := h
  unfold wBi at h
  split at h
  all_goals first | (rename_i hop; cases hop; done) | skip
  · obtain ⟨v, ev, rd1⟩ := one_D rd
    subst ev
    have e1 := rd1.bl
    subst e1
    exact call_int1 pins s σ H _ us Q I r (.inr ⟨_, rfl, kT.d ok h (.int _)⟩)
  · obtain ⟨v, ev, rd1⟩ := one_D rd
    subst ev
    have e1 := rd1.int
    subst e1
    exact call_int1 pins s σ H _ us Q I r (.inl ⟨_, rfl, kT.d ok h (.int _)⟩)
  · exact h.elim
theorem join_D : MtR X "str.join" (fun x xs H Q => ∃ Z d ds, ZOk G Z H ∧ RepD G Z H d x ∧ RepDs G Z H ds xs ∧ wMt .join d ds (kT G Z H Q)) := by
  intro pins s σ H x xs v us Q I rx rs h
  obtain ⟨Z, d, ds, ok, rd, re, h⟩ := h
  unfold wMt at h
  split at h
  all_goals first | (rename_i hop; cases hop; done) | skip
  · obtain ⟨e1, g1⟩ := rd.str
    subst e1
    obtain ⟨w, ev, re1⟩ := one_D re
    subst ev
    obtain ⟨p, vs, e1, s1, l1⟩ := re1.lst ok
    subst e1
    obtain ⟨ts, ht, hz, h⟩ := h
    obtain ⟨e1, e2, e3⟩ := texts_rep l1 ht
    subst e1
    rename_i sep _ _
    have ej : Txt.join (mkS sep) (ts.map mkS) = mkS (TL.joinL sep ts) := by
      rw [TL.join_eq]
      refine TL.ext_tl ?_
      rw [TL.tl_join]
      show TL.joinL (mkS sep).cps.toList _ = (mkS _).cps.toList
      rw [mkS_list, mkS_list, List.map_map]
      congr 1
      have : (TL.tl ∘ mkS) = id := by funext z; exact mkS_list z
      rw [this, List.map_id]
    have hlen : (TL.joinL sep ts).length ≤ (ts.map List.length).sum + ts.length * sep.length ∧ ∀ c ∈ TL.joinL sep ts, c < 0x110000 := by
      clear ej h hz ht s1 rs re re1 l1 e2
      induction ts with
      | nil => exact ⟨Nat.zero_le _, fun _ z => nomatch z⟩
      | cons t ts ih =>
        obtain ⟨i1, i2⟩ := ih (fun z hz => e3 z (List.mem_cons_of_mem _ hz))
        cases ts with
        | nil =>
          refine ⟨?_, (e3 t (List.mem_cons_self ..)).cps⟩
          show t.length ≤ _
          simp
        | cons t2 ts =>
          refine ⟨?_, fun c hc => ?_⟩
          · show (t ++ (sep ++ TL.joinL sep (t2 :: ts))).length ≤ _
            rw [List.length_append, List.length_append, List.map_cons, List.sum_cons, List.length_cons]
            have : (ts.length + 1 + 1) * sep.length = (ts.length + 1) * sep.length + sep.length := by rw [Nat.add_mul, Nat.one_mul]
            have e5 : (t2 :: ts).length + 1 = ts.length + 1 + 1 := rfl
            rw [e5, this]
            have e6 : (t2 :: ts).length = ts.length + 1 := rfl
            rw [e6] at i1
            omega
          · have hc' : c ∈ t ++ (sep ++ TL.joinL sep (t2 :: ts)) := hc
            rcases List.mem_append.mp hc' with z | z
            · exact (e3 t (List.mem_cons_self ..)).cps c z
            · rcases List.mem_append.mp z with z | z
              · exact g1.cps c z
              · exact i2 c z
    refine mt_join pins s σ H _ _ v us Q I rx rs ⟨_, p, ts.map mkS, rfl, rfl, .inl (.inl (.inl s1)), ?_, ?_⟩
    · rw [List.map_map, List.length_map, mkS_len]
      have : (Str.length ∘ mkS) = List.length := by funext z; exact mkS_len z
      show (List.map (Str.length ∘ mkS) ts).sum + _ ≤ _
      rw [this]
      exact hz
    · rw [ej]
      exact kT.d ok h (.str ⟨Nat.le_trans hlen.1 (by rw [szl]; exact hz), hlen.2⟩)
  · exact h.elim
theorem spl_all (c : Nat) : ∀ (k : Nat) (acc x : List Nat), ∀ t ∈ TL.spl [c] k acc x, t.length ≤ acc.length + x.length ∧ ∀ z ∈ t, z ∈ acc ∨ z ∈ x := by
  intro k acc x
  induction x generalizing k acc with
  | nil =>
    intro t ht
    rw [TL.spl_nil] at ht
    rw [List.mem_singleton.mp ht]
    exact ⟨Nat.le_refl _, fun z hz => .inl hz⟩
  | cons a x ih =>
    intro t ht
    cases k with
    | zero =>
      unfold TL.spl at ht
      split at ht
      · rcases List.mem_cons.mp ht with rfl | ht
        · exact ⟨Nat.le_add_right _ _, fun z hz => .inl hz⟩
        · obtain ⟨h1, h2⟩ := ih _ _ t ht
          refine ⟨by simp only [List.length_nil, List.length_cons] at h1 ⊢; omega, fun z hz => .inr ?_⟩
          rcases h2 z hz with q | q
          · cases q
          · exact List.mem_cons_of_mem _ q
      · obtain ⟨h1, h2⟩ := ih _ _ t ht
        refine ⟨by simp only [List.length_append, List.length_cons, List.length_nil] at h1 ⊢; omega, fun z hz => ?_⟩
        rcases h2 z hz with q | q
        · rcases List.mem_append.mp q with q | q
          · exact .inl q
          · exact .inr (by rw [List.mem_singleton.mp q]; exact List.mem_cons_self ..)
        · exact .inr (List.mem_cons_of_mem _ q)
    | succ k =>
      unfold TL.spl at ht
      obtain ⟨h1, h2⟩ := ih _ _ t ht
      refine ⟨by simp only [List.length_cons] at h1 ⊢; omega, fun z hz => ?_⟩
      rcases h2 z hz with q | q
      · exact .inl q
      · exact .inr (List.mem_cons_of_mem _ q)
theorem split_D : MtR X "str.split" (fun x xs H Q => ∃ Z d ds, ZOk G Z H ∧ RepD G Z H d x ∧ RepDs G Z H ds xs ∧ wMt .split d ds (kT G Z H Q)) := by
  intro pins s σ H x xs v us Q I rx rs h
  obtain ⟨Z, d, ds, ok, rd, re, h⟩ := h
  unfold wMt at h
  split at h
  all_goals first | (rename_i hop; cases hop; done) | skip
  · obtain ⟨e1, g1⟩ := rd.str
    subst e1
    obtain ⟨w, ev, re1⟩ := one_D re
    subst ev
    obtain ⟨e1, g2⟩ := re1.str
    subst e1
    rename_i x c _
    obtain ⟨⟨hz, hc⟩, h⟩ := h
    have es : (Txt.split (mkS x) (mkS [c])).map TL.tl = TL.spl [c] 0 [] x := by
      have hk : (mkS [c]).cps.all (· < 256) = true := by
        show [c].toArray.all _ = true
        rw [← Array.all_toList]
        simpa using hc
      have := TL.split_spl (mkS x) (mkS [c]) (by show (mkS [c]).cps.toList ≠ []; rw [mkS_list]; simp) (TL.kind_ok hk)
      rw [this]
      show TL.spl (mkS [c]).cps.toList 0 [] (mkS x).cps.toList = _
      rw [mkS_list, mkS_list]
    have es2 : Txt.split (mkS x) (mkS [c]) = (TL.spl [c] 0 [] x).map mkS := by
      rw [← es, List.map_map]
      have : (mkS ∘ TL.tl) = id := by funext z; show mkS z.cps.toList = z; unfold mkS; simp
      rw [this, List.map_id]
    refine mt_split pins s σ H _ _ v us Q I rx rs ⟨_, _, rfl, rfl, by rw [mkS_len]; rfl, by rw [mkS_len]; exact hz, fun p hp => ?_⟩
    rw [es2]
    refine kT.ol ok h hp (repL_texts _ fun t ht => ?_)
    obtain ⟨h1, h2⟩ := spl_all c 0 [] x t ht
    refine ⟨Nat.le_trans h1 (by rw [List.length_nil, Nat.zero_add]; exact g1.len), fun z hz => ?_⟩
    rcases h2 z hz with q | q
    · cases q
    · exact g1.cps z q
  · exact h.elim
theorem upper_D : MtR X "str.upper" (fun x xs H Q => ∃ Z d ds, ZOk G Z H ∧ RepD G Z H d x ∧ RepDs G Z H ds xs ∧ wMt .upper d ds (kT G Z H Q)) := by
  intro pins s σ H x xs v us Q I rx rs h
  obtain ⟨Z, d, ds, ok, rd, re, h⟩ := h
  unfold wMt at h
  split at h
  all_goals first | (rename_i hop; cases hop; done) | skip
  · obtain ⟨e1, g1⟩ := rd.str
    subst e1
    cases re
    rename_i x _
    refine mt_upper pins s σ H _ _ v us Q I rx rs ⟨_, rfl, rfl, by rw [mkS_len]; exact h.1.1, ?_⟩
    have e : Txt.upper (mkS x) = mkS (upN x) := (mkS_eta _).symm
    rw [e]
    exact kT.d ok h.2 (.str ⟨h.1.2.1, h.1.2.2⟩)
  · exact h.elim
theorem index_D : MtR X "str.index" (fun x xs H Q => ∃ Z d ds, ZOk G Z H ∧ RepD G Z H d x ∧ RepDs G Z H ds xs ∧ wMt .index d ds (kT G Z H Q)) := by
  intro pins s σ H x xs v us Q I rx rs h
  obtain ⟨Z, d, ds, ok, rd, re, h⟩ := h
  unfold wMt at h
  split at h
  all_goals first | (rename_i hop; cases hop; done) | skip
  · obtain ⟨e1, g1⟩ := rd.str
    subst e1
    obtain ⟨w, ev, re1⟩ := one_D re
    subst ev
    obtain ⟨e1, g2⟩ := re1.str
    subst e1
    rename_i x y _
    cases ho : occN x y with
    | nil => rw [ho] at h; exact h.elim
    | cons i rest =>
      rw [ho] at h
      refine mt_sindex pins s σ H _ _ v us Q I rx rs ⟨_, _, i, rest, rfl, rfl, ?_, kT.d ok h (.int _)⟩
      rw [mkS_len]
      exact ho
  · exact h.elim
theorem lindex_D (hK : G.K = X.K) : MtR X "list.index" (fun x xs H Q => ∃ Z d ds, ZOk G Z H ∧ RepD G Z H d x ∧ RepDs G Z H ds xs ∧ wMt .lindex d ds (kT G Z H Q)) := by
  intro pins s σ H x xs v us Q I rx rs h
  obtain ⟨Z, d, ds, ok, rd, re, h⟩ := h
  unfold wMt at h
  split at h
  all_goals first | (rename_i hop; cases hop; done) | skip
  · rename_i xs' d' _
    obtain ⟨a, vs, e1, s1, l1⟩ := rd.lst ok
    subst e1
    obtain ⟨w, ev, re1⟩ := one_D re
    subst ev
    obtain ⟨⟨f1, f2⟩, h⟩ := h
    obtain ⟨fw, rw'⟩ := flat_VD f2 re1
    obtain ⟨fa, _⟩ := any_flat f2 rw' f1 l1
    cases ho : List.findIdx? (fun x => D.eqv x d') xs' with
    | none => rw [ho] at h; exact h.elim
    | some j =>
      rw [ho] at h
      obtain ⟨hj, e2, e3⟩ := List.findIdx?_eq_some_iff_getElem.mp ho
      obtain ⟨z, z1, z2⟩ := l1.getD (List.getElem?_eq_getElem hj)
      have fj : ∀ y ∈ xs', y.flat = true := List.all_eq_true.mp f1
      refine mt_index pins s σ H _ _ v us Q I rx rs ⟨a, vs, w, j, z, rfl, rfl, .inl (.inl s1), fw, fa, z1, ?_, fun m z' hm hz' => ?_, kT.d ok h (.int _)⟩
      · rw [eqV_flat (fj _ (List.getElem_mem hj)) f2 z2 rw']
        exact e2
      · obtain ⟨y, y1, y2⟩ := l1.get hz'
        have hmj := e3 m hm
        have hml : m < xs'.length := by omega
        have : y = xs'[m] := by
          rw [List.getElem?_eq_getElem hml] at y1
          exact (Option.some.inj y1).symm
        subst this
        rw [eqV_flat (fj _ (List.getElem_mem hml)) f2 y2 rw']
        simpa using hmj
  · exact h.elim
theorem repL_ints {Z : Zt} : ∀ ys : List Int, RepL G Z (ys.map D.int) (ys.map V.int)
  | [] => .nil
  | y :: r => .cons (.int y) (repL_ints r)
theorem zip_repI {Z : Zt} : ∀ {ps : List (Int × Int)} {vs : List V}, RepL G Z (ps.map fun p => D.tup [.int p.1, .int p.2]) vs → ∃ zs : List ((Int × Int) × V), zs.map (·.1) = ps ∧ zs.map (·.2) = vs ∧ ∀ z ∈ zs, RepF G Z (.tup [.int z.1.1, .int z.1.2]) z.2
  | [], _, .nil => ⟨[], rfl, rfl, fun _ z => nomatch z⟩
  | p :: ps, _, .cons (v := v) r t => by
    obtain ⟨zs, h1, h2, h3⟩ := zip_repI t
    refine ⟨(p, v) :: zs, by rw [← h1]; rfl, by rw [← h2]; rfl, fun z hz => ?_⟩
    rcases List.mem_cons.mp hz with e | hz
    · rw [e]; exact r
    · exact h3 z hz
theorem rep_zipI {Z : Zt} : ∀ (zs : List ((Int × Int) × V)), (∀ z ∈ zs, RepF G Z (.tup [.int z.1.1, .int z.1.2]) z.2) → RepL G Z ((zs.map (·.1)).map fun p => D.tup [.int p.1, .int p.2]) (zs.map (·.2))
  | [], _ => .nil
  | z :: zs, h => .cons (h z List.mem_cons_self) (rep_zipI zs fun y hy => h y (List.mem_cons_of_mem _ hy))
theorem sortedi_D (hK : G.K = X.K) : CallR X (.builtin "sorted") (rDs G (wBi .sortedi)) := by
  intro pins s σ H xs us Q I r h
  obtain ⟨Z, ds, ok, rd, h⟩ := h
  unfold wBi at h
  split at h
  all_goals first | (rename_i hop; cases hop; done) | skip
  · obtain ⟨v, ev, rd1⟩ := one_D rd
    subst ev
    obtain ⟨p, vs, e1, s1, l1⟩ := rd1.lst ok
    subst e1
    obtain ⟨ns, e2, q⟩ := h
    have e3 := ints_rep l1 e2
    subst e3
    refine cr_sortedI pins s σ H _ us Q I r ⟨p, ns, rfl, .inl (.inl s1), fun ys q0 hp hs hn => ?_⟩
    exact kT.ol ok (q ys hp hs) hn (repL_ints ys)
  · exact h.elim
theorem sortedq_D (hK : G.K = X.K) : CallR X (.builtin "sorted") (rDs G (wBi .sortedq)) := by
  intro pins s σ H xs us Q I r h
  obtain ⟨Z, ds, ok, rd, h⟩ := h
  unfold wBi at h
  split at h
  all_goals first | (rename_i hop; cases hop; done) | skip
  · obtain ⟨v, ev, rd1⟩ := one_D rd
    subst ev
    obtain ⟨p, vs, e1, s1, l1⟩ := rd1.lst ok
    subst e1
    obtain ⟨ps, e2, q⟩ := h
    rw [e2] at l1
    obtain ⟨zs, z1, z2, z3⟩ := zip_repI l1
    refine cr_sortII pins s σ H _ us Q I r ⟨_, p, zs, (·.2), fun z => z.1.1, rfl, ?_, fun z hz => ?_, fun ys q0 hp hn => ?_⟩
    · rw [z2]
      exact .inl (.inl s1)
    · obtain ⟨a, ws, e3, _, s3, l3⟩ := RepD.tup ok (z3 z hz).toD
      cases l3 with
      | cons r1 l3 =>
        cases l3 with
        | cons r2 l3 =>
          cases l3
          cases r1
          cases r2
          exact ⟨a, _, e3, hK ▸ s3⟩
    · have hp2 : (ys.map (·.1)).Perm ps := by
        rw [← z1]
        exact hp.map _
      have h4 := q (ys.map (·.1)) hp2
      exact kT.ol ok h4 hn (rep_zipI ys fun z hz => z3 z (hp.mem_iff.mp hz))
  · exact h.elim
end
end LC

namespace HT
open PySem PySem.Spec PyProof.Rows
section
variable {prog : Program} {w : World} {A : Around} {E : Value → Shared → Prop} {s : Shared}
theorem rev_adjust (n : Nat) : Builtin.Slice.sliceAdjust none none (-1) (n : Int) = ((n : Int) - 1, -1) := by
  unfold Builtin.Slice.sliceAdjust
  simp
theorem rev_places (n : Nat) : Builtin.Slice.slicePlaces ((n : Int) - 1) (-1) (-1) = n := by
  unfold Builtin.Slice.slicePlaces
  simp only [show ¬ ((-1 : Int) > 0) by decide, if_false, show (- -1 : Int) = 1 by decide, Int.ediv_one]
  split <;> omega
theorem sliceApplied_rev {sl : Addr} {vs : Value} {n : Nat} {Q : Int × Int × Nat → Shared → Prop} (hs : s.heap.IsSliceOf sl .none .none vs) (pk : IsPart vs (some (-1)))
    (h : Q ((n : Int) - 1, -1, n) s) : wpAny (model prog w) A (Builtin.Slice.sliceApplied (.ref sl) (pure (n : Int))) Q E s := by
  obtain ⟨os, hos, hcs, hds⟩ := id hs
  unfold Builtin.Slice.sliceApplied Builtin.Slice.sliceFields
  refine wpAny_bind (wpAny_bind (wpAny_field hos hds (x := .none) rfl (wpAny_bind (wpAny_field hos hds (x := .none) rfl (wpAny_bind (wpAny_field hos hds (x := vs) rfl (wpAny_pure ?_)))))))
  refine wpAny_bind (slicePart_ pk ?_)
  show wpAny _ _ (if ((-1 : Int) == 0) = true then _ else _) _ _ s
  rw [if_neg (by decide)]
  refine wpAny_bind (slicePart_ .none (wpAny_bind (slicePart_ .none (wpAny_bind (wpAny_pure ?_)))))
  show wpAny _ _ (match Builtin.Slice.sliceAdjust none none (-1) (n : Int) with | (lo, hi) => pure (lo, (-1 : Int), Builtin.Slice.slicePlaces lo hi (-1))) _ _ s
  rw [rev_adjust n]
  show wpAny _ _ (pure ((n : Int) - 1, (-1 : Int), Builtin.Slice.slicePlaces ((n : Int) - 1) (-1) (-1))) _ _ s
  rw [rev_places]
  exact wpAny_pure h
theorem pick_rev (xs : Array Value) : ((List.range xs.size).filterMap fun (m : Nat) => xs[((xs.size : Int) - 1 + (m : Int) * -1).toNat]?).toArray = xs.toList.reverse.toArray := by
  congr 1
  have key : ∀ n, n ≤ xs.size → (List.range n).filterMap (fun (m : Nat) => xs[((xs.size : Int) - 1 + (m : Int) * -1).toNat]?) = xs.toList.reverse.take n := by
    intro n
    induction n with
    | zero => intro _; simp
    | succ n ih =>
      intro hn
      rw [List.range_succ, List.filterMap_append, ih (by omega)]
      have e : ((xs.size : Int) - 1 + (n : Int) * -1).toNat = xs.size - 1 - n := by omega
      have hlt : xs.size - 1 - n < xs.size := by omega
      have hl : n < xs.toList.reverse.length := by simp; omega
      rw [List.take_succ_eq_append_getElem hl]
      congr 1
      simp only [List.filterMap_cons, List.filterMap_nil, e, Array.getElem?_eq_getElem hlt]
      simp
  rw [key _ (Nat.le_refl _), List.take_of_length_le (by simp)]
theorem getItem_tuple_rev {t sl : Addr} {items : Array Value} {vs : Value} {Q : Value → Shared → Prop} (ht : IsTup s.heap t items) (hs : s.heap.IsSliceOf sl .none .none vs) (pk : IsPart vs (some (-1)))
    (h : Q (.ref s.heap.objs.size) { s with heap := s.heap.push { cls := .type "tuple", data := .seq items.toList.reverse.toArray } })
    (hsz : items.size ≤ sizeLine) : wpAny (model prog w) A (getItem (.ref t) (.ref sl)) Q E s := by
  have htake : sizeOk (.seq items.toList.reverse.toArray) := by
    show items.toList.reverse.toArray.size ≤ sizeLine
    simp
    exact hsz
  obtain ⟨os, hos, hcs, hds⟩ := id hs
  have hTs : s.TypeIs (.ref sl) "slice" := ⟨os, hos, hcs⟩
  unfold getItem
  try with_reducible refine wpAny_holding ?_
  first | refine wpAny_bind (wpAny_pure ?_) | skip
  refine wpAny_bind (wpAny_sequenceKey ht.typeIs (by decide) ?_)
  refine wpAny_bind (wpAny_callSpecial?_slot (name := Str.ofString "__getitem__") ht.typeIs PyProof.Rows.slot_tuple_getitem
    (wpAny_call_entry PyProof.Rows.slot_tuple_getitem ht.typeIs entry_tuple_getitem ?_ (args_tuple_getitem _ _)))
  show wpAny _ _ (Builtin.Tuple.tupleItemsOf (.ref t) >>= _) _ _ s
  refine wpAny_bind (tupleItemsOf_ ht ?_)
  refine wpAny_bind (wpAny_typeOf hTs ?_)
  rw [if_pos (by decide)]
  refine wpAny_bind (sliceApplied_rev hs pk ?_)
  have hno : ¬ ((((items.size : Int) - 1) == 0 && (-1 : Int) == 1 && items.size == items.size) = true) := by
    intro q
    rw [Bool.and_eq_true, Bool.and_eq_true] at q
    exact absurd q.1.2 (by decide)
  show wpAny _ _ (if (((items.size : Int) - 1) == 0 && (-1 : Int) == 1 && items.size == items.size) = true then _ else _) _ _ s
  rw [if_neg hno, pick_rev]
  first
    | exact wpAny_bind (m := Builtin.Tuple.tupleExact _) (wpAny_newObj_type (wpAny_pure ⟨_, rfl, wpAny_pure h⟩) htake)
    | exact wpAny_bind (m := Builtin.Tuple.tupleExact _) (wpAny_newObj_type (wpAny_bind (wpAny_pure (wpAny_pure ⟨_, rfl, wpAny_pure h⟩))) htake)
    | exact wpAny_bind (wpAny_bind (m := Builtin.Tuple.tupleExact _) (wpAny_newObj_type (wpAny_pure (wpAny_pure ⟨_, rfl, wpAny_pure h⟩)) htake))
    | exact wpAny_bind (wpAny_bind (m := Builtin.Tuple.tupleExact _) (wpAny_newObj_type (wpAny_pure ⟨_, rfl, wpAny_pure h⟩) htake))
end
end HT
namespace L2
open PySem PySem.Spec PyProof.Rows
section
variable {X : Cx}
def tRevA (K : PySem.W.Frag) (te : TE) : TE := fun σ H Q => te σ H fun x H1 => ∃ a xs, x = .ref a ∧ ((SqL K H1 a xs ∧ ∀ p, H1 p = none → Q (.ref p) (upd H1 p (.lst xs.reverse))) ∨ (SqT K H1 a xs ∧ ∀ p, H1 p = none → Q (.ref p) (upd H1 p (.tup xs.reverse))))
theorem pe_revA {e : Expr} {te : TE} {k : Nat} {p1 p2 p3 pos : Pos} (he : PE X e te) : PE X (.Subscript e (.Slice none none (some (.UnaryOp .USub (.Constant (.int 1) k p1) p2)) p3) pos) (tRevA X.K te) := by
  refine ⟨fun pins s σ H Q I h => ?_⟩
  refine Subscript_ (thn (he.run pins s σ H _ I h) fun v s1 ⟨x, H1, I1, r1, q1⟩ => ?_)
  obtain ⟨a, xs, ex, q⟩ := q1
  subst ex
  cases r1
  have hst : PO X (some (.UnaryOp .USub (.Constant (.int 1) k p1) p2)) (tPart (tUn (rU fun i => .int (-i)) (tC (.int 1)))) := po_some (pe_un un_neg pe_int)
  refine wpAny_Slice (thn (po_none.run pins s1 σ H1 (fun o H2 => o = none ∧ H2 = H1) I1 ⟨rfl, rfl⟩) fun vl s2 ⟨l, H2, I2, pl, el, e2⟩ => ?_)
  subst el e2
  refine thn (po_none.run pins s2 σ H2 (fun o H3 => o = none ∧ H3 = H2) I2 ⟨rfl, rfl⟩) fun vu s3 ⟨u, H3, I3, pu, eu, e3⟩ => ?_
  subst eu e3
  refine thn (hst.run pins s3 σ H3 (fun o H4 => o = some (-1) ∧ H4 = H3) I3 ⟨1, rfl, -1, rfl, rfl, rfl⟩) fun vs s4 ⟨o, H4, I4, ps, eo, e4⟩ => ?_
  subst eo e4
  have I5 : Inv X pins σ H4 { s4 with heap := s4.heap.push { cls := .type "slice", data := .fields #[vl, vu, vs] } } := I4.kept (t' := s4.toks) fun b ob q => Heap.get?_push_of_some _ q
  show wpAny (model X.prog X.w) X.A (subscriptTail e (.Slice none none (some (.UnaryOp .USub (.Constant (.int 1) k p1) p2)) p3) (.ref a) (.ref s4.heap.objs.size)) (EP X pins σ Q) X.xe { s4 with heap := s4.heap.push { cls := .type "slice", data := .fields #[vl, vu, vs] } }
  rcases q with ⟨hx, q⟩ | ⟨hx, q⟩
  · obtain ⟨its, r, ht, hz⟩ := I5.list hx
    have hlen := r.length
    refine tail_any (ops := [.ref a, .ref s4.heap.objs.size]) ht.isList.typeIs (PySem.slot_list_getitem.lookup) ?_ (by with_unfolding_all rfl)
    refine wpAny_getItem_list_slice ht.isList (Heap.IsSliceOf.new _ vl vu vs) pl pu ps (by decide) ?_ (by rw [List.size_toArray]; omega)
    rw [PySem.W.krv_pick]
    refine ⟨.ref _, _, I5.laid (t' := s4.toks) (o := .lst xs.reverse) (fun b ob q => Heap.get?_push_of_some _ q) (Nat.le_refl _) ?_, rfl, q _ (I5.hok.fresh (Nat.le_refl _))⟩
    exact ⟨by rw [List.length_reverse]; exact hz, _, 0, r.reverse, Heap.get?_push_size _ rfl⟩
  · obtain ⟨its, r, ht, hz⟩ := I5.tuple hx
    have hlen := r.length
    refine tail_any (ops := [.ref a, .ref s4.heap.objs.size]) ht.typeIs (PyProof.Rows.slot_tuple_getitem.lookup) ?_ (by with_unfolding_all rfl)
    cases pl
    cases pu
    refine HT.getItem_tuple_rev ht (Heap.IsSliceOf.new _ _ _ vs) ps ?_ (by rw [List.size_toArray]; omega)
    refine ⟨.ref _, _, I5.laid (t' := s4.toks) (o := .tup xs.reverse) (fun b ob q => Heap.get?_push_of_some _ q) (Nat.le_refl _) ?_, rfl, q _ (I5.hok.fresh (Nat.le_refl _))⟩
    refine ⟨by rw [List.length_reverse]; exact hz, _, r.reverse, ⟨_, Heap.get?_push_size _ rfl, rfl, 0, ?_⟩⟩
    simp
end
end L2

namespace LC
open PySem PySem.Spec PyProof.Rows L2
section
variable {X : Cx}
def tSortSet (K : PySem.W.Frag) (ta : TE) : TE := fun σ H Q => ta σ H fun x H1 => ∃ (l : Addr) (xs : List Str), x = V.ref l ∧ (SqL K H1 l (xs.map V.str) ∨ SqT K H1 l (xs.map V.str)) ∧ xs.length < 4000 ∧ (∃ us : List Str, us.length < 64 ∧ ∀ x ∈ xs, x ∈ us) ∧
  ∀ (ys : List Str) (p : Addr), ys.Nodup → (∀ x, x ∈ ys ↔ x ∈ xs) → sortedS ys = true → H1 p = none → Q (.ref p) (upd H1 p (.lst (ys.map V.str)))
def tLenSetT (K : PySem.W.Frag) (ta : TE) : TE := fun σ H Q => ta σ H fun x H1 => ∃ (l : Addr) (xs : List Str), x = V.ref l ∧ (SqL K H1 l (xs.map V.str) ∨ SqT K H1 l (xs.map V.str)) ∧ xs.length < 4000 ∧
  ∀ ys : List Str, ys.Nodup → (∀ x, x ∈ ys ↔ x ∈ xs) → Q (.int ys.length) H1
theorem seq_tx {pins : List (Addr × Obj)} {σ : L2.St} {H : Hp} {s : Shared} {l : Addr} {xs : List Str} (I : L2.Inv X pins σ H s) (h : SqL X.K H l (xs.map V.str) ∨ SqT X.K H l (xs.map V.str)) : ∃ items : Array Value, (s.heap.IsList l items ∨ s.heap.IsTuple l items) ∧ StrsAre items.toList xs := by
  rcases h with h | h
  · obtain ⟨its, r, pl, hz⟩ := I.list h
    exact ⟨its.toArray, .inl pl.isList, by simpa using r.strs⟩
  · obtain ⟨its, r, pl, hz⟩ := I.tuple h
    exact ⟨its.toArray, .inr pl, by simpa using r.strs⟩
theorem nodup_sub {xs ys : List Str} (hn : ys.Nodup) (h : ∀ x ∈ ys, x ∈ xs) : ys.length ≤ xs.length := by
  have key : ∀ (l m : List Str), l.Nodup → (∀ x ∈ l, x ∈ m) → l.length ≤ m.length := by
    intro l
    induction l with
    | nil => intro _ _ _; exact Nat.zero_le _
    | cons x l ih =>
      intro m hn h
      rw [List.nodup_cons] at hn
      have hx := h x List.mem_cons_self
      have := ih (m.erase x) hn.2 fun y hy => (List.mem_erase_of_ne (fun e => hn.1 (by rw [← e]; exact hy))).mpr (h y (List.mem_cons_of_mem _ hy))
      rw [List.length_erase_of_mem hx] at this
      have := List.length_pos_of_mem hx
      rw [List.length_cons]
      omega
  exact key ys xs hn h
theorem nodup_few {xs ys : List Str} (hn : ys.Nodup) (h : ∀ x, x ∈ ys ↔ x ∈ xs) : ys.length ≤ xs.length := by
  have key : ∀ (l m : List Str), l.Nodup → (∀ x ∈ l, x ∈ m) → l.length ≤ m.length := by
    intro l
    induction l with
    | nil => intro _ _ _; exact Nat.zero_le _
    | cons x l ih =>
      intro m hn h
      rw [List.nodup_cons] at hn
      have hx := h x List.mem_cons_self
      have := ih (m.erase x) hn.2 fun y hy => (List.mem_erase_of_ne (fun e => hn.1 (by rw [← e]; exact hy))).mpr (h y (List.mem_cons_of_mem _ hy))
      rw [List.length_erase_of_mem hx] at this
      have := List.length_pos_of_mem hx
      rw [List.length_cons]
      omega
  exact key ys xs hn fun x hx => (h x).mp hx
theorem pe_lenSetT {a : Expr} {ta : TE} {p p2 q pos : Pos} (hc : X.calm = true) (hg : Gl X "len") (hm : X.mg "len" = none) (hg2 : Gl X "set") (hm2 : X.mg "set" = none) (ha : PE X a ta)
    (na : starEach [a] X.env = (false, eval a X.env) :: starEach [] X.env) : PE X (.Call (.Name "len" p) [.Call (.Name "set" p2) [a] [] q] [] pos) (tLenSetT X.K ta) := by
  refine ⟨fun pins s σ H Q I h => ?_⟩
  refine Call_ (ld_blt I hg hm PySem.boot_len (PyProof.Rows.callWith_builtin1 (PyProof.Rows.args_cons ?_ rfl) rfl rfl))
  refine Call_ (ld_blt I hg2 hm2 PyProof.Rows.boot_set ?_)
  refine PyProof.Rows.callWith_type1 (PyProof.Rows.args_cons (thn (ha.run pins s σ H _ I h) fun v s1 ⟨x, H1, I1, r1, q1⟩ => PyProof.Rows.args_nil ?_) na) na rfl
  obtain ⟨l, xs, rfl, hq, hf, q1⟩ := q1
  cases r1
  obtain ⟨items, hl, hs⟩ := seq_tx I1 hq
  refine call_set_tx xs (I1.ok.hd hc) hl hs hf fun h' tk ys o es ep t T m hk => PyProof.Rows.args_nil ?_
  have I2 : L2.Inv X pins σ H1 { s1 with heap := h', toks := tk } := I1.kept hk
  have sz := T.size
  have few := nodup_few T.nd m
  exact call_len_set T.ob T.ex T.da T.fit (by rw [sz]; omega) ⟨.int ys.length, H1, I2.tok _, ⟨_, by rw [sz]⟩, q1 ys T.nd m⟩
theorem strs_of_vals : ∀ (l : List Value), (∀ v ∈ l, ∃ x tk, v = Value.str x tk) → ∃ ks, StrsAre l ks ∧ ks = l.map (fun v => eTx (0, v))
  | [], _ => ⟨[], .nil, rfl⟩
  | v :: l, h => by
    obtain ⟨x, tk, e⟩ := h v List.mem_cons_self
    subst e
    obtain ⟨ks, h1, h2⟩ := strs_of_vals l fun u hu => h u (List.mem_cons_of_mem _ hu)
    exact ⟨x :: ks, .cons _ _ h1, by rw [h2]; rfl⟩
theorem pe_sortSet {a : Expr} {ta : TE} {p p2 q pos : Pos} (hc : X.calm = true) (hg : Gl X "sorted") (hm : X.mg "sorted" = none) (hg2 : Gl X "set") (hm2 : X.mg "set" = none) (ha : PE X a ta)
    (na : starEach [a] X.env = (false, eval a X.env) :: starEach [] X.env) : PE X (.Call (.Name "sorted" p) [.Call (.Name "set" p2) [a] [] q] [] pos) (tSortSet X.K ta) := by
  refine ⟨fun pins s σ H Q I h => ?_⟩
  refine Call_ (ld_blt I hg hm PyProof.Rows.boot_sorted (PyProof.Rows.callWith_builtin1 (PyProof.Rows.args_cons ?_ rfl) rfl rfl))
  refine Call_ (ld_blt I hg2 hm2 PyProof.Rows.boot_set ?_)
  refine PyProof.Rows.callWith_type1 (PyProof.Rows.args_cons (thn (ha.run pins s σ H _ I h) fun v s1 ⟨x, H1, I1, r1, q1⟩ => PyProof.Rows.args_nil ?_) na) na rfl
  obtain ⟨l, xs, rfl, hq, hf, ⟨us, hus, hsub⟩, q1⟩ := q1
  cases r1
  obtain ⟨items, hl, hs⟩ := seq_tx I1 hq
  refine call_set_tx xs (I1.ok.hd hc) hl hs hf fun h' tk ys o es ep t T m hk => PyProof.Rows.args_nil ?_
  have few : ys.length ≤ us.length := nodup_sub T.nd fun x hx => hsub x ((m x).mp hx)
  have sz := T.size
  refine Calls.call_function_entry PyProof.Rows.kind_sorted PyProof.Rows.plain_sorted PyProof.Rows.entry_sorted (PyProof.Rows.args_sorted1 _) ?_
  unfold Builtin.«sorted»
  refine wpAny_bind (m := checkCount "sorted" 1 1 _) (wpAny_pure ?_)
  refine wpAny_bind (collect_set (A := X.A.in1) (I1.ok.hd hc) (s := { s1 with heap := h', toks := tk }) ⟨o, T.ob, T.ex.1, T.da⟩ T.fit T.few T.ris T.led fun s2 vs k1 hz g1 o1 pm => ?_)
  have hvl : vs.length = ys.length := by rw [pm.length_eq, List.length_map, Array.length_toList]; exact sz
  obtain ⟨ks, hS, ek⟩ := strs_of_vals vs fun v hv => by
    obtain ⟨e, he, q⟩ := List.mem_map.mp (pm.mem_iff.mp hv)
    obtain ⟨x, u, h1, _⟩ := T.tx e he
    exact ⟨x, u, by rw [← q]; exact h1⟩
  have pk : ks.Perm ys := by
    have q := pm.map (fun v => eTx (0, v))
    rw [List.map_map] at q
    rw [ek]
    exact q.trans T.pm
  refine wpAny_bind (wpAny_newList ?_ (by rw [hvl, sizeLine_eq]; omega))
  have hoL : (s2.heap.push (seqObj "list" vs.toArray 0)).get? s2.heap.objs.size = some (seqObj "list" vs.toArray 0) := Heap.get?_push_size _ rfl
  refine wpAny_bind (wpAny_holding (wpAny_call_entry PyProof.Rows.slot_list_sort ⟨_, hoL, rfl⟩ PyProof.Rows.entry_list_sort
    (list_sort_treeK strKind_oneLt hoL hS.keysOf (fun v₁ v₂ rest e => keyKind_strs (by rw [← e]; exact hS)) (by rw [hvl]; omega) fun st' hp hs => ⟨_, rfl, ?_⟩) (PyProof.Rows.args_list_sort _)))
  obtain ⟨zs, w1, w2, w3⟩ := sorted_out_str hS hp hs
  obtain ⟨e', he'⟩ := PyProof.Rows.sortedHeap_at (vs := vs) (out := (arrOf st').map (·.2)) hoL
  generalize (arrOf st').map (·.2) = out at w1 he' ⊢
  have pz := w2.trans pk
  have hlen : (zs.map V.str).length ≤ sizeLine := by
    rw [List.length_map, pz.length_eq]
    exact Nat.le_trans (show ys.length ≤ 64 by omega) (by decide)
  have kk : ∀ b u, s1.heap.get? b = some u → (sortedHeap (s2.heap.push (seqObj "list" vs.toArray 0)) s2.heap.objs.size vs out).get? b = some u := fun b u e => by
    have e2 := k1 b u (hk b u e)
    have hb : b < s2.heap.objs.size := Heap.lt_size e2
    rw [PyProof.Rows.sortedHeap_old (Nat.ne_of_lt hb) (by rw [size_push']; exact Nat.lt_succ_of_lt hb)]
    exact Heap.get?_push_of_some _ e2
  have hp0 : s1.heap.objs.size ≤ s2.heap.objs.size := Nat.le_trans (Nat.le_of_lt (Heap.lt_size T.ob)) hz
  have hn0 : H1 s2.heap.objs.size = none := I1.hok.fresh hp0
  have J : L2.Inv X pins σ (upd H1 s2.heap.objs.size (.lst (zs.map V.str))) { s1 with heap := sortedHeap (s2.heap.push (seqObj "list" vs.toArray 0)) s2.heap.objs.size vs out, gens := s2.gens, drawn := s2.drawn, toks := s2.toks } :=
    I1.call (ch := []) (Un.laid kk hp0 hn0) (I1.hok.laid kk hp0 ⟨hlen, out.toList, e', vals_of_strs w1, by rw [Array.toArray_toList]; exact he'⟩) (by rw [g1]; exact I1.bare) (fun _ z => nomatch z)
  have e0 : { s1 with heap := sortedHeap (s2.heap.push (seqObj "list" vs.toArray 0)) s2.heap.objs.size vs out, gens := s2.gens, drawn := s2.drawn, toks := s2.toks } = { s2 with heap := sortedHeap (s2.heap.push (seqObj "list" vs.toArray 0)) s2.heap.objs.size vs out } := by
    cases s2
    cases s1
    cases o1
    rfl
  rw [e0] at J
  exact wpAny_pure ⟨_, rfl, .ref s2.heap.objs.size, _, J, rfl, q1 zs _ (pz.nodup_iff.mpr T.nd) (fun x => by rw [pz.mem_iff, m x]) w3 hn0⟩
end
end LC

namespace LC
open PySem L2
structure CD where
  x : Str
  c : Nat
  j : Nat
  ms : List (List Nat × Nat)
  fs : List (List Nat)
structure Lf where
  l : List (Str × Nat × Nat)
  cl : List CD := []
def CD.hasF (c : Nat) (x : List Nat) (d : CD) : Bool := d.c == c && d.fs.contains x
def CD.hasM (c : Nat) (m : List Nat) (j : Nat) (d : CD) : Bool := d.c == c && d.ms.contains (m, j)
def CD.hasI (x : Str) (c j : Nat) (d : CD) : Bool := d.x == x && d.c == c && d.j == j
structure Cs where
  N : List Str
  fns : List (Str × Nat)
  gls : List (Str × Nat)
  dfs : List (Nat × List D)
  lfs : Lf
def D.same : D → D → Bool
  | .non, .non => true
  | .bl a, .bl b => a == b
  | .int a, .int b => a == b
  | .str a, .str b => a == b
  | _, _ => false
theorem D.same_ok {a b : D} (h : D.same a b = true) : a = b := by
  cases a <;> cases b <;> first | rfl | (cases h; done) | (have e := eq_of_beq h; rw [e])
def D.sames : List D → List D → Bool
  | [], [] => true
  | a :: r, b :: s => D.same a b && D.sames r s
  | _, _ => false
theorem D.sames_ok : ∀ {a b : List D}, D.sames a b = true → a = b
  | [], [], _ => rfl
  | [], _ :: _, h => nomatch h
  | _ :: _, [], h => nomatch h
  | a :: r, b :: s, h => by
    have h' : (D.same a b && D.sames r s) = true := h
    rw [Bool.and_eq_true] at h'
    rw [D.same_ok h'.1, D.sames_ok h'.2]
def visB (sc : Scope) (x : Str) : Bool := match sc.names.lookup x with
  | some .local | some .cell | some .free => true
  | _ => false
def locB (sc : Scope) (x : Str) : Bool := match sc.names.lookup x with
  | some .local | some .cell => true
  | _ => false
def glbB (sc : Scope) (x : Str) : Bool := match sc.names.lookup x with
  | some .globalImplicit => true
  | _ => false
def Bop.py : Bop → Operator
  | .add => .Add | .sub => .Sub | .mul => .Mult | .mod => .Mod | .fdiv => .FloorDiv | .pow => .Pow | .shl => .LShift
def Cop.py : Cop → CmpOp
  | .eq => .Eq | .ne => .NotEq | .lt => .Lt | .le => .LtE | .gt => .Gt | .ge => .GtE | .isin => .In | .notin => .NotIn | .is => .Is | .isnot => .IsNot
def Bi.nm : Bi → Str
  | .len => "len" | .all => "all" | .any => "any" | .list => "list" | .tuple => "tuple" | .sorted => "sorted" | .sortedp => "sorted" | .sortedt => "sorted" | .sortedi => "sorted" | .sortedq => "sorted" | .int => "int" | .max => "max" | .min => "min" | .sum => "sum" | .str => "str"
def Bi.okB : Bi → Bool
  | _ => true
def Mt.nm : Mt → Str
  | .join => "join" | .split => "split" | .upper => "upper" | .index => "index" | .lindex => "index"
def Mt.ar : Mt → Nat
  | .upper => 0
  | _ => 1
def I.pairs : I → Bool
  | .zip _ _ => true
  | .enum _ => true
  | _ => false
def I.rng : I → Bool
  | .range1 _ => true
  | .range2 _ _ => true
  | _ => false
def isTupE : Expr → Bool
  | .Tuple .. => true
  | _ => false
def Ty.st : Ty → Str
  | .str => "str" | .int => "int" | .bool => "bool" | .tuple => "tuple" | .list => "list"
def okN (x : Str) : Bool := !(x == ("__debug__" : Str)) && !(x == ("__classdict__" : Str)) && !(x == ("__name__" : Str)) && !(x == ("super" : Str))
def isTgs (c : Cs) (osc : Scope) : List Nat → List Expr → Bool
  | [], [] => true
  | i :: is, .Name x _ :: es => decide (c.N[i]? = some x) && locB osc x && isTgs c osc is es
  | _, _ => false
def isTg (c : Cs) (osc : Scope) : Tg → Expr → Bool
  | .name i, .Name x _ => decide (c.N[i]? = some x) && locB osc x
  | .tup is, .Tuple es _ _ => isTgs c osc is es
  | _, _ => false
def Tg.slots : Tg → List Nat
  | .name i => [i]
  | .tup is => is
mutual
def tst : E → Bool
  | .conj es => tsts es
  | .disj es => tsts es
  | .not a => tst a
  | .ite _ _ _ => false
  | .tp _ => false
  | _ => true
def tsts : Es → Bool
  | .nil => true
  | .cons e r => tst e && tsts r
end
mutual
def isE (c : Cs) (sc : Scope) : E → Expr → Bool
  | .var i, e => match e with
    | .Name x _ => decide (c.N[i]? = some x) && visB sc x && okN x
    | _ => false
  | .non, e => match e with
    | .Constant .none _ _ => true
    | _ => false
  | .bl b, e => match e with
    | .Constant (.bool b') _ _ => b == b'
    | _ => false
  | .int i, e => match e with
    | .Constant (.int i') _ _ => i == i'
    | _ => false
  | .str x, e => match e with
    | .Constant (.str y) _ _ => decide (y.cps.toList = x) && decide (x.length ≤ 16777216) && x.all (fun k => decide (k < 0x110000))
    | _ => false
  | .glob x j, e => match e with
    | .Name y _ => x == y && c.gls.lookup x == some j && glbB sc x && okN x
    | _ => false
  | .gin n x j a, e => match e with
    | .Compare a' [op'] [.Name y _] _ => (if n then CmpOp.NotIn else CmpOp.In) == op' && x == y && c.gls.lookup x == some j && glbB sc x && okN x && isE c sc a a'
    | _ => false
  | .gix x j a, e => match e with
    | .Subscript (.Name y _) a' _ => x == y && c.gls.lookup x == some j && glbB sc x && okN x && isE c sc a a'
    | _ => false
  | .fnv x j, e => match e with
    | .Name y _ => x == y && c.fns.lookup x == some j && glbB sc x && okN x
    | _ => false
  | .tup es, e => match e with
    | .Tuple es' _ _ => isEs c sc es es'
    | _ => false
  | .lst es, e => match e with
    | .List es' _ => isEs c sc es es'
    | _ => false
  | .dict0, e => match e with
    | .Dict [] [] _ => true
    | _ => false
  | .dict ps, e => match e with
    | .Dict ks vs _ => isPs c sc ps ks vs && !ks.isEmpty && decide (ks.length ≤ 15)
    | _ => false
  | .rev a, e => match e with
    | .Subscript a' (.Slice none none (some (.UnaryOp .USub (.Constant (.int 1) _ _) _)) _) _ => isE c sc a a'
    | _ => false
  | .sset a, e => match e with
    | .Call (.Name y _) [.Call (.Name z _) [a'] [] _] [] _ => y == ("sorted" : Str) && glbB sc y && z == ("set" : Str) && glbB sc z && isE c sc a a'
    | _ => false
  | .lset a, e => match e with
    | .Call (.Name y _) [.Call (.Name z _) [a'] [] _] [] _ => y == ("len" : Str) && glbB sc y && z == ("set" : Str) && glbB sc z && isE c sc a a'
    | _ => false
  | .dget a ke .none, e => match e with
    | .Call (.Attribute a' y apos) [k'] [] pos => y == ("get" : Str) && isE c sc a a' && isE c sc ke k' && apos.endLine == pos.line
    | _ => false
  | .dget a ke (.some d), e => match e with
    | .Call (.Attribute a' y apos) [k', d'] [] pos => y == ("get" : Str) && isE c sc a a' && isE c sc ke k' && isE c sc d d' && apos.endLine == pos.line
    | _ => false
  | .listr it, e => match e with
    | .Call (.Name y _) [it'] [] _ => y == ("list" : Str) && glbB sc y && it.rng && isI c sc it it'
    | _ => false
  | .bin op a b, e => match e with
    | .BinOp a' op' b' _ => op.py == op' && isE c sc a a' && isE c sc b b'
    | _ => false
  | .neg a, e => match e with
    | .UnaryOp .USub a' _ => isE c sc a a'
    | _ => false
  | .cmp op a b, e => match e with
    | .Compare a' [op'] [b'] _ => op.py == op' && isE c sc a a' && isE c sc b b'
    | _ => false
  | .chain op op2 a b d, e => match e with
    | .Compare a' [op', op2'] [b', d'] _ => op.py == op' && op2.py == op2' && isE c sc a a' && isE c sc b b' && isE c sc d d'
    | _ => false
  | .conj es, e => match e with
    | .BoolOp .And es' _ => isEs c sc es es'
    | _ => false
  | .disj es, e => match e with
    | .BoolOp .Or es' _ => isEs c sc es es'
    | _ => false
  | .not a, e => match e with
    | .UnaryOp .Not a' _ => isE c sc a a'
    | _ => false
  | .ite t a b, e => match e with
    | .IfExp t' a' b' _ => tst t && isE c sc t t' && isE c sc a a' && isE c sc b b'
    | _ => false
  | .ix a i, e => match e with
    | .Subscript a' i' _ => isE c sc a a' && isE c sc i i'
    | _ => false
  | .cut a lo hi, e => match e with
    | .Subscript a' (.Slice lo' hi' none _) _ => isE c sc a a' && isEo c sc lo lo' && isEo c sc hi hi'
    | _ => false
  | .call x j es, e => match e with
    | .Call (.Name y _) es' [] _ => x == y && c.fns.lookup x == some j && glbB sc x && okN x && isEs c sc es es'
    | _ => false
  | .callb x j es, e => match e with
    | .Call (.Name y _) es' [] _ => x == y && c.fns.lookup x == some j && glbB sc x && okN x && isEs c sc es es' && !es'.isEmpty
    | _ => false
  | .calld x j es ds, e => match e with
    | .Call (.Name y _) es' [] _ => x == y && c.fns.lookup x == some j && glbB sc x && okN x && isEs c sc es es' && c.dfs.any (fun p => p.1 == j && D.sames p.2 ds) && !es'.isEmpty
    | _ => false
  | .callv i es, e => match e with
    | .Call (.Name y _) es' [] _ => decide (c.N[i]? = some y) && visB sc y && okN y && isEs c sc es es' && !es'.isEmpty
    | _ => false
  | .bi b es, e => match e with
    | .Call (.Name y _) es' [] _ => b.nm == y && b.okB && glbB sc y && isEs c sc es es' && !es'.isEmpty
    | _ => false
  | .mt m a es, e => match e with
    | .Call (.Attribute a' y apos) es' [] pos => m.nm == y && isE c sc a a' && isEs c sc es es' && decide (es'.length = m.ar) && apos.endLine == pos.line
    | _ => false
  | .isinst a t, e => match e with
    | .Call (.Name y _) [a', .Name z _] [] _ => y == ("isinstance" : Str) && glbB sc y && isE c sc a a' && z == t.st && glbB sc z
    | _ => false
  | .dictof a, e => match e with
    | .Call (.Name y _) [a'] [] _ => y == ("dict" : Str) && glbB sc y && isE c sc a a'
    | _ => false
  | .litems a, e => match e with
    | .Call (.Name y _) [.Call (.Attribute a' z apos) [] [] cpos] [] _ => y == ("list" : Str) && glbB sc y && z == ("items" : Str) && isE c sc a a' && apos.endLine == cpos.line
    | _ => false
  | .tpkof a, e => match e with
    | .Call (.Name y _) [a'] [] _ => y == ("tuple" : Str) && glbB sc y && isE c sc a a'
    | _ => false
  | .tp a, e => (match e with
    | .ListComp .. => false
    | _ => true) && isE c sc a e
  | .fld ci a x, e => match e with
    | .Attribute a' y _ => decide (y = mkS x) && c.lfs.cl.any (CD.hasF ci x) && isE c sc a a'
    | _ => false
  | .meth ci a m j es, e => match e with
    | .Call (.Attribute a' y apos) es' [] pos => decide (y = mkS m) && c.lfs.cl.any (CD.hasM ci m j) && isE c sc a a' && isEs c sc es es' && !es'.isEmpty && decide (es'.length < 20) && apos.endLine == pos.line
    | _ => false
  | .mk x ci j es, e => match e with
    | .Call (.Name y _) es' [] _ => x == y && c.lfs.cl.any (CD.hasI x ci j) && glbB sc x && okN x && isEs c sc es es' && !es'.isEmpty
    | _ => false
  | .lc elt tg it cond own, e => match e with
    | .ListComp elt' [⟨tg', it', ifs', 0⟩] scope _ => isI c sc it it' && (!it.pairs || isTupE tg') && blkC c.N sc scope own && isTg c scope tg tg' && (tg.slots.all fun i => (own.map (·.2)).contains i) && tsts cond && isEs c (relS scope sc) cond ifs' && isE c (relS scope sc) elt elt'
    | _ => false
def isEs (c : Cs) (sc : Scope) : Es → List Expr → Bool
  | .nil, es => es.isEmpty
  | .cons e r, es => match es with
    | e' :: r' => isE c sc e e' && isEs c sc r r'
    | _ => false
def isPs (c : Cs) (sc : Scope) : Ps → List (Option Expr) → List Expr → Bool
  | .nil, ks, vs => ks.isEmpty && vs.isEmpty
  | .cons a b r, ks, vs => match ks, vs with
    | some a' :: ks', b' :: vs' => isE c sc a a' && isE c sc b b' && isPs c sc r ks' vs'
    | _, _ => false
def isEo (c : Cs) (sc : Scope) : Eo → Option Expr → Bool
  | .none, e => e.isNone
  | .some e, e' => match e' with
    | some x => isE c sc e x
    | _ => false
def isI (c : Cs) (sc : Scope) : I → Expr → Bool
  | .of e, e' => isE c sc e e'
  | .range1 a, e => match e with
    | .Call (.Name y _) [a'] [] _ => y == ("range" : Str) && glbB sc y && isE c sc a a'
    | _ => false
  | .range2 a b, e => match e with
    | .Call (.Name y _) [a', b'] [] _ => y == ("range" : Str) && glbB sc y && isE c sc a a' && isE c sc b b'
    | _ => false
  | .range3 a b d, e => match e with
    | .Call (.Name y _) [a', b', d'] [] _ => y == ("range" : Str) && glbB sc y && isE c sc a a' && isE c sc b b' && isE c sc d d'
    | _ => false
  | .zip a b, e => match e with
    | .Call (.Name y _) [a', b'] [] _ => y == ("zip" : Str) && glbB sc y && isE c sc a a' && isE c sc b b'
    | _ => false
  | .enum a, e => match e with
    | .Call (.Name y _) [a'] [] _ => y == ("enumerate" : Str) && glbB sc y && isE c sc a a'
    | _ => false
end
def isLent (c : Cs) (sc : Scope) (i : Nat) : Nat → Es → List Expr → Bool
  | 0, es, .Name z _ :: r => decide (c.N[i]? = some z) && visB sc z && okN z && isEs c sc es r
  | p + 1, .cons e r, e' :: r' => isE c sc e e' && isLent c sc i p r r'
  | _, _, _ => false
def isLc : E → Bool
  | .lc .. => true
  | _ => false
def isVar : E → Bool
  | .var _ => true
  | _ => false
def lineOk (sc : Scope) (x : Str) (py : Pos) : Expr → Bool
  | .ListComp elt gs scope pos => (match sc.names.lookup x with | some .cell => true | _ => false) || ((py.line == pos.line) && (match sc.names.lookup x with | some .local => true | _ => false) && !(scope.names.any fun (n, k) => n == x && (k == .local || k == .cell)))
  | _ => true
def locO (sc : Scope) (x : Str) : Bool := match sc.names.lookup x with
  | some .local => true
  | _ => false
mutual
def isS (c : Cs) (sc : Scope) : S → Stmt → Bool
  | .asg i e, s => match s with
    | .Assign [.Name x py] e' _ => decide (c.N[i]? = some x) && locB sc x && isE c sc e e' && lineOk sc x py e'
    | _ => false
  | .unp is e, s => match s with
    | .Assign [.Tuple es _ _] e' _ => isTgs c sc is es && isE c sc e e' && (match e with | .var _ => true | .ix _ _ => true | .gix _ _ _ => true | .call .. => true | .lc .. => true | _ => false)
    | _ => false
  | .ret e, s => match s with
    | .Return (some e') _ => isE c sc e e'
    | _ => false
  | .retn, s => match s with
    | .Return none _ => true
    | _ => false
  | .ifs t a b, s => match s with
    | .If t' a' b' _ => tst t && isE c sc t t' && isSs c sc a a' && isSs c sc b b'
    | _ => false
  | .fors tg it body, s => match s with
    | .For tg' it' body' [] _ => (!it.pairs || isTupE tg') && isTg c sc tg tg' && isI c sc it it' && isBs c sc body body'
    | _ => false
  | .whiles t body, s => match s with
    | .While t' body' [] _ => tst t && isE c sc t t' && isSs c sc body body'
    | _ => false
  | .append i e, s => match s with
    | .Expr (.Call (.Attribute (.Name x _) y apos) [e'] [] pos) _ => decide (c.N[i]? = some x) && visB sc x && okN x && y == ("append" : Str) && isE c sc e e' && apos.endLine == pos.line
    | _ => false
  | .extend i e, s => match s with
    | .Expr (.Call (.Attribute (.Name x _) y apos) [e'] [] pos) _ => decide (c.N[i]? = some x) && visB sc x && okN x && y == ("extend" : Str) && isE c sc e e' && apos.endLine == pos.line
    | _ => false
  | .aug i op e, s => match s with
    | .AugAssign (.Name x _) op' e' _ => decide (c.N[i]? = some x) && locB sc x && op.py == op' && isE c sc e e'
    | _ => false
  | .pop tg i e, s => match s with
    | .Assign [tg'] (.Call (.Attribute (.Name x _) y apos) es' [] pos) _ => isTg c sc tg tg' && decide (c.N[i]? = some x) && visB sc x && okN x && y == ("pop" : Str) && apos.endLine == pos.line && (match e, es' with
      | .none, [] => true
      | .some e, [e'] => isE c sc e e'
      | _, _ => false)
    | _ => false
  | .lput i ke e, s => match s with
    | .Assign [.Subscript (.Name x _) ke' _] e' _ => decide (c.N[i]? = some x) && visB sc x && okN x && isE c sc ke ke' && isE c sc e e' && !isLc e
    | _ => false
  | .dupd i e, s => match s with
    | .Expr (.Call (.Attribute (.Name x _) y apos) [e'] [] pos) _ => decide (c.N[i]? = some x) && visB sc x && okN x && y == ("update" : Str) && isE c sc e e' && apos.endLine == pos.line
    | _ => false
  | .dput i ke e, s => match s with
    | .Assign [.Subscript (.Name x _) ke' _] e' _ => decide (c.N[i]? = some x) && visB sc x && okN x && isE c sc ke ke' && isE c sc e e' && !isLc e
    | _ => false
  | .par i j es, s => match s with
    | .Assign [.Tuple [.Name x px, .Name y py] _ _] (.Tuple [.Name z pz, b] _ _) _ => decide (c.N[i]? = some x) && decide (c.N[j]? = some y) && !(y == x) && (py.line == px.line) && locO sc x && locO sc y && okN z && isEs c sc es [.Name z pz, b]
    | _ => false
  | .freeze _, _ => false
  | .lock _, _ => false
  | .sfld i ci x e, s => match s with
    | .Assign [.Attribute (.Name z _) y _] e' _ => decide (c.N[i]? = some z) && visB sc z && okN z && decide (y = mkS x) && decide (x.length ≤ 16777216) && x.all (fun k => decide (k < 0x110000)) && c.lfs.cl.any (CD.hasF ci x) && isE c sc e e' && !isLc e
    | _ => false
  | .apop i j e, s => match s with
    | .Expr (.Call (.Attribute (.Name x _) y apos) [.Call (.Attribute (.Name z _) w apos2) [e'] [] cpos2] [] pos) _ => decide (c.N[i]? = some x) && visB sc x && okN x && y == ("append" : Str) && apos.endLine == pos.line && decide (c.N[j]? = some z) && visB sc z && okN z && w == ("pop" : Str) && apos2.endLine == cpos2.line && isE c sc e e'
    | _ => false
  | .pass, s => match s with
    | .Pass _ => true
    | _ => false
  | .expr e, s => match s with
    | .Expr e' _ => isE c sc e e' && !isLc e
    | _ => false
  | .lend x j p i es, s => match s with
    | .Expr (.Call (.Name y _) es' [] _) _ => x == y && c.lfs.l.contains (x, j, p) && glbB sc x && okN x && isLent c sc i p es es'
    | _ => false
def isBs (c : Cs) (sc : Scope) : Ss → List Stmt → Bool
  | .nil, ss => ss.isEmpty
  | .skip t r, ss => match ss with
    | .If t' [.Continue _] [] _ :: r' => tst t && isE c sc t t' && isBs c sc r r'
    | _ => false
  | .cons s r, ss => match s with
    | .freeze _ => isBs c sc r ss
    | .lock _ => isBs c sc r ss
    | _ => match ss with
      | s' :: r' => isS c sc s s' && isBs c sc r r'
      | _ => false
def isSs (c : Cs) (sc : Scope) : Ss → List Stmt → Bool
  | .nil, ss => ss.isEmpty
  | .skip _ _, _ => false
  | .cons s r, ss => match s with
    | .freeze _ => isSs c sc r ss
    | .lock _ => isSs c sc r ss
    | _ => match ss with
      | s' :: r' => isS c sc s s' && isSs c sc r r'
      | _ => false
end
end LC

namespace LC
open PySem L2
def spOf (G : Gx) (n : Nat) (f : List D → (D → Prop) → Prop) : Sp := fun vs H Q _ => vs.length = n ∧ ∃ Z ds, ZOk G Z H ∧ RepL G Z ds vs ∧ f ds (fun d => ∀ Z' H' v, Ext G Z H Z' H' → RepF G Z' d v → Q v H')
def spLent (G : Gx) (n p : Nat) (f : List D → (D → Prop) → Prop) : Sp := fun vs H Q _ => vs.length = n ∧ ∃ (a : Addr) (H1 : Hp) (Z : Zt) (kvs : List (Key × D)) (kv : List (Key × V)) (vs' : List V) (ds : List D), vs = vs'.insertIdx p (.ref a) ∧ p ≤ vs'.length ∧ H = upd H1 a (.dK kv) ∧ H1 a = none ∧ ZOk G Z H1 ∧ RepK G Z kvs kv ∧ RepL G Z ds vs' ∧
  f (.dct kvs :: ds) (fun d => match d with
    | .dct kvs' => ∀ Z' H' kv', Ext G Z H1 Z' H' → Z'.F a = none → Z'.nd a → H' a = some (.dK kv') → RepK G Z' kvs' kv' → Q .non H'
    | _ => False)
def spInit (G : Gx) (c n : Nat) (f : List D → (D → Prop) → Prop) : Sp := fun vs H Q _ => vs.length = n ∧ ∃ (a C dx : Addr) (H1 : Hp) (Z : Zt) (vs' : List V) (ds : List D), vs = .ref a :: vs' ∧ G.ca c = some C ∧ H = upd H1 a (.ins C dx []) ∧ H1 a = none ∧ ZOk G Z H1 ∧ RepL G Z ds vs' ∧
  f ds (fun d => match d with
    | .obj c' ks => c' = c ∧ ∀ Z' H' dx' fs, Ext G Z H1 Z' H' → Z'.F a = none → Z'.nd a → H' a = some (.ins C dx' fs) → RepK G Z' ks (kfs fs) → Q .non H'
    | _ => False)
def bltNames : List Str := ["len", "all", "any", "list", "tuple", "sorted", "int", "isinstance", "range", "str", "bool", "max", "min", "sum", "zip", "enumerate", "set", "dict"]
def GlOk (G : Gx) (K : PySem.W.Frag) (w : World) (u : Value) (d : D) : Prop := match d with
  | .dct kvs => ∃ (a : Addr) (es : Array DictEntry) (n : Nat), u = .ref a ∧ KDict K w a es n ∧ ∀ z : List Nat, match kget kvs (.inr (mkS z)) with
    | some d => ∃ u' v, PySem.W.nsIn K a (mkS z) = some (some u') ∧ RelV v u' ∧ ∀ Z, RepF G Z d v
    | none => PySem.W.nsIn K a (mkS z) = some none
  | d => ∃ v, RelV v u ∧ ∀ Z, RepF G Z d v
structure Good (c : Cs) (G : Gx) (F : Nat → List D → (D → Prop) → Prop) (cg : Nat → D) (k : Nat) (sc osc : Scope) (X : Cx) : Prop where
  N : X.N = c.N
  nd : c.N.Nodup
  sc : X.env.scope = sc
  own : ∀ x, locB osc x = true → L2.Loc X.env.scope x ∧ (X.fn x = true ∨ X.env.scope.names.lookup x = some .local)
  K : G.K = X.K
  calm : X.calm = true
  room : Room k X.A
  blt : ∀ b, b ∈ bltNames → X.mg b = none
  gl : ∀ x j, c.gls.lookup x = some j → ∃ u, X.mg x = some u ∧ GlOk G X.K X.w u (cg j)
  fn : ∀ x j, c.fns.lookup x = some j → ∃ f, X.mg x = some (.ref f) ∧ G.fa j = some f
  fo : ∀ j f, G.fa j = some f → ∃ fd ps, FnOk X.prog X.w X.K X.mg X.base CX0 k f fd ps (spOf G ps.length (F j)) ∧ PySem.W.keepIn X.K (.ref f) = true ∧ Binds X.K fd ps [] ∧ (∀ ds Q, F j ds Q → ds.length = ps.length) ∧ ∀ dl, (j, dl) ∈ c.dfs → ∃ dvs us, (∀ Z, RepL G Z dl dvs) ∧ Vals dvs us ∧ Binds X.K fd ps us
  mono : ∀ j ds Q Q', (∀ d, Q d → Q' d) → F j ds Q → F j ds Q'
  lf : ∀ x j p, (x, j, p) ∈ c.lfs.l → ∃ f fd ps, X.mg x = some (.ref f) ∧ FnOk X.prog X.w X.K X.mg X.base CX0 k f fd ps (spLent G ps.length p (F j)) ∧ PySem.W.keepIn X.K (.ref f) = true ∧ Binds X.K fd ps [] ∧ p < ps.length ∧ ∀ d ds Q, F j (d :: ds) Q → ds.length + 1 = ps.length
  cl : ∀ d ∈ c.lfs.cl, ∃ C, G.ca d.c = some C ∧ Cls X.K C ∧ X.mg d.x = some (.ref C) ∧ (∀ x ∈ d.fs, NoAttr X.K C (mkS x)) ∧ (∀ m j, (m, j) ∈ d.ms → ∃ f, Meth X.K C (mkS m) f ∧ G.fa j = some f) ∧
    ∃ fI fd ps, Mk X.K C fI ∧ Binds X.K fd ps [] ∧ ∀ ds Q, F d.j ds Q → ds.length + 1 = ps.length ∧ ∃ k', k' + 1 ≤ k ∧ FnOk X.prog X.w X.K X.mg X.base CX0 k' fI fd ps (spInit G d.c ps.length (F d.j))
def tT (G : Gx) (f : Env → (T → Prop) → Prop) : TT := fun σ H Q => ∃ Z env, ZOk G Z H ∧ EnvOk G Z H σ env ∧ f env (isB fun b => ∀ Z' H', Ext G Z H Z' H' → Q b H')
def tV (G : Gx) (f : Env → (List D → Prop) → Prop) : TA := fun σ H Q => ∃ Z env, ZOk G Z H ∧ EnvOk G Z H σ env ∧ f env (fun ds => ∀ Z' H' vs, Ext G Z H Z' H' → RepL G Z' ds vs → Q vs H')
def tOs (G : Gx) (f : Env → (List D → Prop) → Prop) : TA := fun σ H Q => ∃ Z env, ZOk G Z H ∧ EnvOk G Z H σ env ∧ f env (fun ds => ∀ Z' H' vs, Ext G Z H Z' H' → RepDs G Z' H' ds vs → Q vs H')
def oE (F : Nat → List D → (D → Prop) → Prop) (cg : Nat → D) (e : E) : Env → (D → Prop) → Prop := fun env Q => wOp e (wE F cg e env) env Q
theorem visB_of {sc : Scope} {x : Str} (h : visB sc x = true) : Vis sc x := by
  unfold visB at h
  unfold Vis
  split at h
  · exact .inl (by assumption)
  · exact .inr (.inl (by assumption))
  · exact .inr (.inr (by assumption))
  · cases h
theorem locB_of {sc : Scope} {x : Str} (h : locB sc x = true) : L2.Loc sc x := by
  unfold locB at h
  unfold L2.Loc
  split at h
  · exact .inl (by assumption)
  · exact .inr (by assumption)
  · cases h
theorem glbB_of {sc : Scope} {x : Str} (h : glbB sc x = true) : sc.names.lookup x = some .globalImplicit := by
  unfold glbB at h
  split at h
  · assumption
  · cases h
theorem okN_of {x : Str} (h : okN x = true) : (x == ("__debug__" : Str)) = false ∧ (x == ("__classdict__" : Str)) = false ∧ x ≠ "__name__" ∧ (x == ("super" : Str)) = false := by
  unfold okN at h
  simp only [Bool.and_eq_true, Bool.not_eq_true'] at h
  exact ⟨h.1.1.1, h.1.1.2, fun z => by rw [z] at h; exact absurd h.1.2 (by decide), h.2⟩
section
variable {c : Cs} {G : Gx} {F : Nat → List D → (D → Prop) → Prop} {cg : Nat → D} {k : Nat} {sc osc : Scope} {X : Cx} {pos : Pos} (g : Good c G F cg k sc osc X)
include g
theorem Good.gl_of {x : Str} (h : glbB sc x = true) : Gl X x := by
  unfold Gl PySem.Env.kindOf
  rw [g.sc]
  exact glbB_of h
theorem e_var {i : Nat} {x : Str} (h1 : c.N[i]? = some x) (h2 : visB sc x = true) (h3 : okN x = true) : PE X (.Name x pos) (tE G (wE F cg (.var i))) := by
  obtain ⟨k1, k2, _⟩ := okN_of h3
  refine PE.weak (pe_var (i := i) (by rw [g.N]; exact h1) (by rw [g.sc]; exact visB_of h2) k1 k2) fun σ H Q h => ?_
  obtain ⟨Z, env, ok, eo, h⟩ := h
  unfold wE at h
  split at h
  · rename_i d hd
    obtain ⟨v, e1, r⟩ := eo.get i _ hd
    cases r with
    | v r => exact ⟨v, e1, kT.d ok h r⟩
  · exact h.elim
theorem o_var {i : Nat} {x : Str} (h1 : c.N[i]? = some x) (h2 : visB sc x = true) (h3 : okN x = true) : PE X (.Name x pos) (tO G (oE F cg (.var i))) := by
  obtain ⟨k1, k2, _⟩ := okN_of h3
  refine PE.weak (pe_var (i := i) (by rw [g.N]; exact h1) (by rw [g.sc]; exact visB_of h2) k1 k2) fun σ H Q h => ?_
  obtain ⟨Z, env, ok, eo, h⟩ := h
  unfold oE wOp at h
  simp only at h
  split at h
  · rename_i t ht
    obtain ⟨v, e1, r⟩ := eo.get i _ ht
    exact ⟨v, e1, h _ _ _ (.refl ok) r.toD⟩
  · exact h.elim
omit g in
theorem o_of {e : E} {e' : Expr} (hv : isVar e = false) (h : PE X e' (tE G (wE F cg e))) (mono : ∀ j ds Q Q', (∀ d, Q d → Q' d) → F j ds Q → F j ds Q') : PE X e' (tO G (oE F cg e)) := by
  refine PE.weak h fun σ H Q h => ?_
  obtain ⟨Z, env, ok, eo, h⟩ := h
  refine ⟨Z, env, ok, eo, ?_⟩
  have h' : wE F cg e env (fun t => kD G Z H Q t.d) := by
    unfold oE wOp at h
    cases e <;> first | (cases hv; done) | exact h
  exact wE_mono mono e env _ _ (fun t q Z' H' v x r _ => q Z' H' v x r.toD) h'
omit g in
theorem e_const {e : E} {e' : Expr} {d : D} {v : V} (h : PE X e' (tC v)) (hw : ∀ env Q, wE F cg e env Q = Q (.v d)) (hr : ∀ Z, RepF G Z d v) : PE X e' (tE G (wE F cg e)) := by
  refine PE.weak h fun σ H Q h => ?_
  obtain ⟨Z, env, ok, eo, h⟩ := h
  rw [hw] at h
  exact kT.d ok h (hr Z)
omit g in
theorem e_tup {es : Es} {es' : List Expr} {n : Nat} (h : PA X es' (tV G (wV F cg es))) (mono : ∀ j ds Q Q', (∀ d, Q d → Q' d) → F j ds Q → F j ds Q') : PE X (.Tuple es' n pos) (tE G (wE F cg (.tup es))) := by
  refine PE.weak (pe_tup h) fun σ H Q h => ?_
  obtain ⟨Z, env, ok, eo, h⟩ := h
  unfold wE at h
  refine ⟨Z, env, ok, eo, wV_mono mono es env _ _ (fun ds q Z' H' vs x r => ⟨by rw [← r.length]; exact q.1, fun p hp => ?_⟩) h⟩
  exact kT.tup x.ok (q.2.ext x ok) hp r
omit g in
theorem e_lst {es : Es} {es' : List Expr} (h : PA X es' (tV G (wV F cg es))) (mono : ∀ j ds Q Q', (∀ d, Q d → Q' d) → F j ds Q → F j ds Q') : PE X (.List es' pos) (tE G (wE F cg (.lst es))) := by
  refine PE.weak (pe_lst h) fun σ H Q h => ?_
  obtain ⟨Z, env, ok, eo, h⟩ := h
  unfold wE at h
  refine ⟨Z, env, ok, eo, wV_mono mono es env _ _ (fun ds q Z' H' vs x r => ⟨by rw [← r.length]; exact q.1, fun p hp => ?_⟩) h⟩
  exact kT.ol x.ok (q.2.ext x ok) hp r
omit g in
theorem e_dict0 : PE X (.Dict [] [] pos) (tE G (wE F cg .dict0)) := by
  refine PE.weak pe_dnewK fun σ H Q h => ?_
  obtain ⟨Z, env, ok, eo, h⟩ := h
  intro p hp
  exact kT.od ok h hp .nil
theorem oE_mono (e : E) (env : Env) (P P' : D → Prop) (h : ∀ d, P d → P' d) (x : oE F cg e env P) : oE F cg e env P' := wOp_mono (wE_mono g.mono e env) h x
theorem e_glob {x : Str} {j : Nat} {u : Value} (hx : Gl X x) (h2 : okN x = true) (m1 : X.mg x = some u) (go : GlOk G X.K X.w u (cg j)) : PE X (.Name x pos) (tE G (wE F cg (.glob x j))) := by
  have ew : ∀ env Q, wE F cg (.glob x j) env Q = globW (cg j) fun d => Q (.v d) := fun env Q => by rw [wE]
  cases hd : cg j with
  | dct kvs =>
    rw [hd] at go
    obtain ⟨a, es, n, eu, kd, _⟩ := go
    subst eu
    refine PE.weak (pe_glob (v := .ref a) hx m1 rfl (okN_of h2).1) fun σ H Q h => ?_
    obtain ⟨Z, env, ok, eo, h⟩ := h
    rw [ew, hd] at h
    exact h.elim
  | _ =>
    rw [hd] at go
    obtain ⟨v, r, f⟩ := go
    exact e_const (pe_glob hx m1 r (okN_of h2).1) (fun env Q => by rw [ew, hd]; rfl) f
theorem gin_op {n : Bool} {j : Nat} {u : Value} {a : E} (go : GlOk G X.K X.w u (cg j)) : ∃ (r : R2) (v0 : V), OpR X (compareOp (if n then CmpOp.NotIn else CmpOp.In)) r ∧ RelV v0 u ∧ ∀ (σ : St) (H : Hp) (Z : Zt) (env : Env), ZOk G Z H → EnvOk G Z H σ env → ∀ R : VK, (wOp a (wE F cg a env) env fun d => ginW (cg j) d fun b => ∀ Z' H', Ext G Z H Z' H' → R (.bl (if n then !b else b)) H') → tOp r (tO G (oE F cg a)) (tC v0) σ H R := by
  cases hd : cg j with
  | dct kvs =>
    rw [hd] at go
    obtain ⟨d0, es, m, eu, kd, look⟩ := go
    subst eu
    have key : ∀ (σ : St) (H : Hp) (Z : Zt) (env : Env), ZOk G Z H → ∀ (Q : Bool → Hp → Prop) (R : V → Hp → Prop), (wOp a (wE F cg a env) env fun d => ginW (.dct kvs) d fun b => ∀ Z' H', Ext G Z H Z' H' → Q b H') → (∀ z r v H', v = V.str (mkS z) → PySem.W.nsIn X.K d0 (mkS z) = some r → Q r.isSome H' → R v H') → oE F cg a env (kD G Z H R) := fun σ H Z env ok Q R h hR => by
      refine oE_mono g a env _ _ (fun d q Z1 H1 v1 x1 r1 => ?_) h
      cases d with
      | str z =>
        obtain ⟨ev, _⟩ := r1.str
        have q : ∀ Z' H', Ext G Z H Z' H' → Q (kget kvs (.inr (mkS z))).isSome H' := q
        have l := look z
        cases e : kget kvs (.inr (mkS z)) with
        | none =>
          rw [e] at l q
          exact hR z none v1 H1 ev l (q Z1 H1 x1)
        | some d =>
          rw [e] at l q
          obtain ⟨u', v, l1, _⟩ := l
          exact hR z (some u') v1 H1 ev l1 (q Z1 H1 x1)
      | _ => exact q.elim
    cases n with
    | false => exact ⟨_, .ref d0, op_in_kd kd, rfl, fun σ H Z env ok eo R h => ⟨Z, env, ok, eo, key σ H Z env ok (fun b H' => R (.bl b) H') _ h fun z r v H' ev l q => ⟨mkS z, r, ev, rfl, l, q⟩⟩⟩
    | true => exact ⟨_, .ref d0, op_notIn_kd kd, rfl, fun σ H Z env ok eo R h => ⟨Z, env, ok, eo, key σ H Z env ok (fun b H' => R (.bl (!b)) H') _ h fun z r v H' ev l q => ⟨mkS z, r, ev, rfl, l, q⟩⟩⟩
  | _ =>
    rw [hd] at go
    obtain ⟨v, r, f⟩ := go
    exact ⟨fun _ _ _ _ => False, v, fun _ _ _ _ _ _ _ _ _ _ _ _ h => h.elim, r, fun σ H Z env ok eo R h => ⟨Z, env, ok, eo, oE_mono g a env _ _ (fun d q => q.elim) h⟩⟩
omit g in
theorem mark_name (n : Bool) (x : Str) (p : Pos) : behindInMarks (if n then CmpOp.NotIn else CmpOp.In) (.Name x p) = false := by cases n <;> rfl
theorem e_gin {n : Bool} {x : Str} {j : Nat} {u : Value} {a : E} {a' : Expr} {p : Pos} (hx : Gl X x) (h2 : okN x = true) (m1 : X.mg x = some u) (go : GlOk G X.K X.w u (cg j)) (ha : PE X a' (tO G (oE F cg a))) : PE X (.Compare a' [if n then CmpOp.NotIn else CmpOp.In] [.Name x p] pos) (tE G (wE F cg (.gin n x j a))) := by
  obtain ⟨r, v0, ho, r0, hr⟩ := gin_op g (n := n) (a := a) go
  refine PE.weak (pe_cmpR ho ha (pe_glob (pos := p) hx m1 r0 (okN_of h2).1) (mark_name n x p)) fun σ H Q h => ?_
  obtain ⟨Z, env, ok, eo, h⟩ := h
  rw [wE] at h
  exact hr σ H Z env ok eo Q (wOp_mono (wE_mono g.mono a env) (fun d q => ginW_mono (fun b q Z' H' xx => q Z' H' _ xx (.v (.bl _)) True.intro) q) h)
theorem t_gin {n : Bool} {x : Str} {j : Nat} {u : Value} {a : E} {a' : Expr} {p : Pos} (hx : Gl X x) (h2 : okN x = true) (m1 : X.mg x = some u) (go : GlOk G X.K X.w u (cg j)) (ha : PE X a' (tO G (oE F cg a))) : PT X (.Compare a' [if n then CmpOp.NotIn else CmpOp.In] [.Name x p] pos) (tT G (wE F cg (.gin n x j a))) := by
  obtain ⟨r, v0, ho, r0, hr⟩ := gin_op g (n := n) (a := a) go
  refine PT.weak (pt_cmpR ho ha (pe_glob (pos := p) hx m1 r0 (okN_of h2).1) (mark_name n x p)) fun σ H Q h => ?_
  obtain ⟨Z, env, ok, eo, h⟩ := h
  rw [wE] at h
  exact hr σ H Z env ok eo _ (wOp_mono (wE_mono g.mono a env) (fun d q => ginW_mono (fun b q Z' H' xx => ⟨_, rfl, q Z' H' xx⟩) q) h)
theorem e_gix {x : Str} {j : Nat} {u : Value} {a : E} {a' : Expr} {p : Pos} (hx : Gl X x) (h2 : okN x = true) (m1 : X.mg x = some u) (go : GlOk G X.K X.w u (cg j)) (ha : PE X a' (tO G (oE F cg a))) (hs : PlainIx a') : PE X (.Subscript (.Name x p) a' pos) (tE G (wE F cg (.gix x j a))) := by
  cases hd : cg j with
  | dct kvs =>
    rw [hd] at go
    obtain ⟨d0, es, m, eu, kd, look⟩ := go
    subst eu
    refine PE.weak (pe_ix ix_kdict (pe_glob (v := .ref d0) (pos := p) hx m1 rfl (okN_of h2).1) ha hs) fun σ H Q h => ?_
    obtain ⟨Z, env, ok, eo, h⟩ := h
    rw [wE, hd] at h
    refine ⟨Z, env, ok, eo, oE_mono g a env _ _ (fun d q Z1 H1 v1 x1 r1 => ?_) h⟩
    cases d with
    | str z =>
      obtain ⟨ev, _⟩ := r1.str
      have l := look z
      unfold gixW at q
      dsimp only at q
      cases e : kget kvs (.inr (mkS z)) with
      | none =>
        rw [e] at q
        exact q.elim
      | some d =>
        rw [e] at l q
        obtain ⟨u', v, l1, l2, l3⟩ := l
        exact ⟨d0, mkS z, v, rfl, ev, ⟨es, m, u', kd.at_, kd.lit, l1, l2⟩, q Z1 H1 v x1 (.v (l3 Z1)) True.intro⟩
    | _ => exact q.elim
  | _ =>
    rw [hd] at go
    obtain ⟨v, r, f⟩ := go
    refine PE.weak (pe_ix (r := fun _ _ _ _ => False) (fun _ _ _ _ _ _ _ _ _ _ _ _ _ _ h => h.elim) (pe_glob (pos := p) hx m1 r (okN_of h2).1) ha hs) fun σ H Q h => ?_
    obtain ⟨Z, env, ok, eo, h⟩ := h
    rw [wE, hd] at h
    exact ⟨Z, env, ok, eo, oE_mono g a env _ _ (fun d q => q.elim) h⟩
theorem e_bin {op : Bop} {a b : E} {a' b' : Expr} (ha : PE X a' (tO G (oE F cg a))) (hb : PE X b' (tO G (oE F cg b))) : PE X (.BinOp a' op.py b' pos) (tE G (wE F cg (.bin op a b))) := by
  have ho : OpR X (binaryOp op.py) (rD G (wBin op)) := by
    cases op with
    | add => exact op_add_D g.K
    | sub => exact op_sub_D
    | mul => exact op_mul_D
    | mod => exact op_mod_D
    | fdiv => exact op_fdiv_D
    | pow => exact op_pow_D
    | shl => exact op_shl_D
  exact PE.weak (pe_op ho ha hb) fun σ H Q h => two (oE_mono g a) (oE_mono g b) (fun d e P P' hP q => wBin_mono hP op d e q) h
theorem op_cmp (op : Cop) : OpR X (compareOp op.py) (rD G (gB (wCmp op))) := by
  cases op with
  | eq => exact op_eq_D g.K g.room.units
  | ne => exact op_ne_D g.K g.room.units
  | lt => exact op_lt_D
  | le => exact op_le_D
  | gt => exact op_gt_D
  | ge => exact op_ge_D
  | isin => exact op_in_D g.K (hu_of g.room) (by have := g.room.un; omega)
  | notin => exact op_notin_D g.K (hu_of g.room) (by have := g.room.un; omega)
  | is => exact op_is_D
  | isnot => exact op_isnot_D
theorem e_cmp {op : Cop} {a b : E} {a' b' : Expr} (ha : PE X a' (tO G (oE F cg a))) (hb : PE X b' (tO G (oE F cg b))) (hm : behindInMarks op.py b' = false) : PE X (.Compare a' [op.py] [b'] pos) (tE G (wE F cg (.cmp op a b))) :=
  PE.weak (pe_cmpR (op_cmp g op) ha hb hm) fun σ H Q h => two (oE_mono g a) (oE_mono g b) (fun d e P P' hP q => wCmp_mono (fun t q => hP _ q) op d e q) h
theorem t_cmp {op : Cop} {a b : E} {a' b' : Expr} (ha : PE X a' (tO G (oE F cg a))) (hb : PE X b' (tO G (oE F cg b))) (hm : behindInMarks op.py b' = false) : PT X (.Compare a' [op.py] [b'] pos) (tT G (wE F cg (.cmp op a b))) := by
  refine PT.weak (pt_cmpR (op_cmp g op) ha hb hm) fun σ H Q h => ?_
  obtain ⟨Z, env, ok, eo, h⟩ := h
  refine two (g := gB (wCmp op)) (oE_mono g a) (oE_mono g b) (fun d e P P' hP q => wCmp_mono (fun t q => hP _ q) op d e q) ⟨Z, env, ok, eo, ?_⟩
  refine oE_mono g a env _ _ (fun d q => oE_mono g b env _ _ (fun e q => wCmp_mono (fun t q => ?_) op d e q) q) h
  intro Z' H' v x r _
  cases r with
  | v r => cases r; exact ⟨t, rfl, q Z' H' x⟩
theorem e_chain {op op2 : Cop} {a b d : E} {a' b' d' : Expr} (ha : PE X a' (tO G (oE F cg a))) (hb : PE X b' (tO G (oE F cg b))) (hd : PE X d' (tO G (oE F cg d))) (hm : lastMarks [op.py, op2.py] [b', d'] = false) :
    PE X (.Compare a' [op.py, op2.py] [b', d'] pos) (tE G (wE F cg (.chain op op2 a b d))) := by
  refine PE.weak (pe_chain (op_cmp g op) (op_cmp g op2) ha hb hd hm) fun σ H Q h => ?_
  obtain ⟨Z, env, ok, eo, h⟩ := h
  refine ⟨Z, env, ok, eo, oE_mono g a env _ _ (fun d1 h Z1 H1 v1 x1 r1 => ?_) h⟩
  refine ⟨Z1, env, x1.ok, eo.ext x1, oE_mono g b env _ _ (fun d2 h Z2 H2 v2 x2 r2 => ?_) h⟩
  have x12 := x1.trans ok x2
  refine ⟨Z2, d1, d2, x2.ok, x2.repD r1, r2, wCmp_mono (fun t q => ?_) op d1 d2 h⟩
  intro Z3 H3 v3 x3 r3 _
  have x123 := x12.trans ok x3
  cases r3 with
  | v r3 =>
    cases r3
    refine ⟨t, rfl, ?_⟩
    cases t with
    | false =>
      rw [if_neg (by decide)]
      rw [if_neg (by decide)] at q
      exact kT.d x3.ok (q.ext x123 ok) (.bl _)
    | true =>
      rw [if_pos rfl]
      rw [if_pos rfl] at q
      refine ⟨Z3, env, x3.ok, eo.ext x123, oE_mono g d env _ _ (fun d4 q Z4 H4 v4 x4 r4 => ?_) q⟩
      exact ⟨Z4, d2, d4, x4.ok, (x3.trans x2.ok x4).repD r2, r4, wCmp_mono (fun t q => kT.ext (x123.trans ok x4) ok q) op2 d2 d4 q⟩
theorem t_chain {op op2 : Cop} {a b d : E} {a' b' d' : Expr} (ha : PE X a' (tO G (oE F cg a))) (hb : PE X b' (tO G (oE F cg b))) (hd : PE X d' (tO G (oE F cg d))) (hm : lastMarks [op.py, op2.py] [b', d'] = false) :
    PT X (.Compare a' [op.py, op2.py] [b', d'] pos) (tT G (wE F cg (.chain op op2 a b d))) := by
  refine PT.weak (pt_chain (op_cmp g op) (op_cmp g op2) ha hb hd hm) fun σ H Q h => ?_
  obtain ⟨Z, env, ok, eo, h⟩ := h
  refine ⟨Z, env, ok, eo, oE_mono g a env _ _ (fun d1 h Z1 H1 v1 x1 r1 => ?_) h⟩
  refine ⟨Z1, env, x1.ok, eo.ext x1, oE_mono g b env _ _ (fun d2 h Z2 H2 v2 x2 r2 => ?_) h⟩
  have x12 := x1.trans ok x2
  refine ⟨Z2, d1, d2, x2.ok, x2.repD r1, r2, wCmp_mono (fun t q => ?_) op d1 d2 h⟩
  intro Z3 H3 v3 x3 r3 _
  have x123 := x12.trans ok x3
  cases r3 with
  | v r3 =>
    cases r3
    refine ⟨t, rfl, ?_⟩
    cases t with
    | false =>
      rw [if_neg (by decide)]
      rw [if_neg (by decide)] at q
      exact ⟨false, rfl, q _ _ x123⟩
    | true =>
      rw [if_pos rfl]
      rw [if_pos rfl] at q
      refine ⟨Z3, env, x3.ok, eo.ext x123, oE_mono g d env _ _ (fun d4 q Z4 H4 v4 x4 r4 => ?_) q⟩
      refine ⟨Z4, d2, d4, x4.ok, (x3.trans x2.ok x4).repD r2, r4, wCmp_mono (fun t q => ?_) op2 d2 d4 q⟩
      intro Z5 H5 v5 x5 r5 _
      cases r5 with
      | v r5 => cases r5; exact ⟨t, rfl, q _ _ ((x123.trans ok x4).trans ok x5)⟩
omit g in
theorem t_val {e : E} {e' : Expr} (h : PE X e' (tE G (wE F cg e))) (mono : ∀ j ds Q Q', (∀ d, Q d → Q' d) → F j ds Q → F j ds Q')
    (he : ∀ whole, isTrue e' X.env whole = (do let v ← whole; standAt e'.pos; holding [v] (truthy v))) : PT X e' (tT G (wE F cg e)) := by
  refine PT.weak (pt_val h he) fun σ H Q h => ?_
  obtain ⟨Z, env, ok, eo, h⟩ := h
  refine ⟨Z, env, ok, eo, wE_mono mono e env _ _ (fun t q => ?_) h⟩
  intro Z' H' v x r _
  cases r with
  | v r =>
    cases r with
    | bl b => exact ⟨b, rfl, q _ _ x⟩
    | _ => exact False.elim q
  | _ => exact False.elim q
theorem e_not {a : E} {a' : Expr} (ha : PE X a' (tE G (wE F cg a))) : PE X (.UnaryOp .Not a' pos) (tE G (wE F cg (.not a))) := by
  refine PE.weak (pe_not ha) fun σ H Q h => ?_
  obtain ⟨Z, env, ok, eo, h⟩ := h
  refine ⟨Z, env, ok, eo, wE_mono g.mono a env _ _ (fun t q => ?_) h⟩
  intro Z' H' v x r _
  cases r with
  | v r =>
    cases r with
    | bl b => exact ⟨b, rfl, kT.d x.ok (kT.ext x ok q) (.bl _)⟩
    | _ => exact False.elim q
  | _ => exact False.elim q
theorem t_not {a : E} {a' : Expr} (ha : PT X a' (tT G (wE F cg a))) : PT X (.UnaryOp .Not a' pos) (tT G (wE F cg (.not a))) := by
  refine PT.weak (pt_not ha) fun σ H Q h => ?_
  obtain ⟨Z, env, ok, eo, h⟩ := h
  exact ⟨Z, env, ok, eo, wE_mono g.mono a env _ _ (isB.mono fun b q Z' H' x => q _ _ x) h⟩
theorem e_ite {t a b : E} {t' a' b' : Expr} (ht : PT X t' (tT G (wE F cg t))) (ha : PE X a' (tE G (wE F cg a))) (hb : PE X b' (tE G (wE F cg b))) : PE X (.IfExp t' a' b' pos) (tE G (wE F cg (.ite t a b))) := by
  refine PE.weak (pe_ifExp ht ha hb) fun σ H Q h => ?_
  obtain ⟨Z, env, ok, eo, h⟩ := h
  refine ⟨Z, env, ok, eo, wE_mono g.mono t env _ _ (isB.mono fun b q Z' H' x => ?_) h⟩
  cases b with
  | true =>
    rw [if_pos rfl] at q ⊢
    exact ⟨Z', env, x.ok, eo.ext x, wE_mono g.mono a env _ _ (fun t q => kT.ext x ok q) q⟩
  | false =>
    rw [if_neg (by decide)] at q ⊢
    exact ⟨Z', env, x.ok, eo.ext x, wE_mono g.mono _ env _ _ (fun t q => kT.ext x ok q) q⟩
theorem e_neg {a : E} {a' : Expr} (ha : PE X a' (tO G (oE F cg a))) : PE X (.UnaryOp .USub a' pos) (tE G (wE F cg (.neg a))) := by
  refine PE.weak (pe_un un_neg ha) fun σ H Q h => ?_
  obtain ⟨Z, env, ok, eo, h⟩ := h
  refine ⟨Z, env, ok, eo, oE_mono g a env _ _ (fun d q Z' H' v x r => ?_) h⟩
  cases d with
  | int i =>
    have e := r.int
    subst e
    exact ⟨i, rfl, kT.d x.ok (kT.ext x ok q) (.int _)⟩
  | _ => exact False.elim q
theorem e_ix {a i : E} {a' i' : Expr} (ha : PE X a' (tO G (oE F cg a))) (hi : PE X i' (tO G (oE F cg i))) (hs : PlainIx i') : PE X (.Subscript a' i' pos) (tE G (wE F cg (.ix a i))) :=
  PE.weak (pe_ix (ix_D g.K (hu_of g.room)) ha hi hs) fun σ H Q h => two (oE_mono g a) (oE_mono g i) (fun d e P P' hP q => wIx_mono (fun t q => hP _ q) d e q) h
theorem e_rev {a : E} {a' : Expr} {kk : Nat} {p1 p2 p3 : Pos} (ha : PE X a' (tO G (oE F cg a))) : PE X (.Subscript a' (.Slice none none (some (.UnaryOp .USub (.Constant (.int 1) kk p1) p2)) p3) pos) (tE G (wE F cg (.rev a))) := by
  refine PE.weak (pe_revA ha) fun σ H Q h => ?_
  obtain ⟨Z, env, ok, eo, h⟩ := h
  unfold wE at h
  refine ⟨Z, env, ok, eo, oE_mono g a env _ _ (fun d q Z1 H1 v x1 r1 => ?_) h⟩
  cases d with
  | lst xs =>
    obtain ⟨p, vs, e1, s1, l1⟩ := r1.lst x1.ok
    subst e1
    exact ⟨p, vs, rfl, .inl ⟨.inl (.inl s1), fun q0 hq => kT.ol x1.ok (kT.ext x1 ok q) hq l1.reverse⟩⟩
  | tup xs =>
    obtain ⟨p, vs, e1, f1, s1, l1⟩ := r1.tup x1.ok
    subst e1
    exact ⟨p, vs, rfl, .inr ⟨g.K ▸ s1, fun q0 hq => kT.tup x1.ok (kT.ext x1 ok q) hq l1.reverse⟩⟩
  | _ => exact False.elim q
end
end LC

namespace LC
open PySem L2
section
variable {c : Cs} {G : Gx} {F : Nat → List D → (D → Prop) → Prop} {cg : Nat → D} {k : Nat} {sc osc : Scope} {X : Cx} {pos : Pos} (g : Good c G F cg k sc osc X)
def plainB : Expr → Bool
  | .Starred .. => false
  | .Set .. => false
  | .Slice .. => false
  | .SetComp .. => false
  | .DictComp .. => false
  | .NamedExpr .. => false
  | .Lambda .. => false
  | .GeneratorExp .. => false
  | .Await .. => false
  | .Yield .. => false
  | .YieldFrom .. => false
  | .FormattedValue .. => false
  | .JoinedStr .. => false
  | .Call (.Name id _) [] [] _ => !(id == ("super" : Str))
  | _ => true
theorem plain_star {e : Expr} (h : plainB e = true) (es : List Expr) (env : PySem.Env) : starEach (e :: es) env = (false, eval e env) :: starEach es env := by
  cases e <;> first | rfl | (cases h; done)
theorem plain_fold {e : Expr} (h : plainB e = true) (env : PySem.Env) (x : Value) : foldedSetIterable e env x = pure x := by
  cases e <;> first | rfl | (cases h; done)
theorem plain_ix {e : Expr} (h : plainB e = true) : PlainIx e := fun o i => by
  cases e <;> first | rfl | (cases h; done)
theorem plain_mark {e : Expr} (op : CmpOp) (h : plainB e = true) : behindInMarks op e = false := by
  cases e <;> first | rfl | (cases h; done)
theorem plain_last {e b : Expr} (o1 o2 : CmpOp) (h : plainB e = true) : lastMarks [o1, o2] [b, e] = false := by
  cases e <;> first | rfl | (cases h; done)
theorem plain_base {e : Expr} (h : plainB e = true) (n : Str) (env : PySem.Env) : attributeBase e n env (eval e env) = eval e env := by
  unfold attributeBase
  split
  · rename_i id p pos
    have h' : (!(id == ("super" : Str))) = true := h
    simp only [Bool.not_eq_true'] at h'
    rw [if_pos (by
      simp only [bne, Bool.or_eq_true, Bool.not_eq_true']
      exact .inl (.inl (.inl h')))]
  · rfl
theorem swaps_no {e : Expr} (t : Option Expr) (l : Nat) (env : PySem.Env) (h : plainB e = true) (hl : ∀ a b d p, e ≠ .ListComp a b d p) : swapsWith e t l env = pure false := by
  cases e <;> first | rfl | (cases h; done) | (exact absurd rfl (hl _ _ _ _))
theorem v_nil : PA X [] (tV G (wV F cg .nil)) := PA.weak pa_nil fun σ H Q h => by
  obtain ⟨Z, env, ok, eo, h⟩ := h
  exact h _ _ _ (.refl ok) .nil
theorem os_nil : PA X [] (tOs G (wOs F cg .nil)) := PA.weak pa_nil fun σ H Q h => by
  obtain ⟨Z, env, ok, eo, h⟩ := h
  exact h _ _ _ (.refl ok) .nil
theorem lend {Z : Zt} {H : Hp} (ok : ZOk G Z H) : ∀ {ds : List D} {vs : List V}, RepDs G Z H ds vs → ∃ Zp : Zt, ZOk G Zp H ∧ RepL G Zp ds vs ∧ (∀ b o, Z.F b = some o → Zp.F b = some o) ∧ Zp.dk = Z.dk ∧ ∀ b o, Zp.F b = some o → Z.F b = some o ∨ (Z.F b = none ∧ H b = some o ∧ ((∃ xs, o = .lst xs) ∨ (∃ kvs, o = .dK kvs) ∨ ∃ C dx fs, o = .ins C dx fs))
  | _, _, .nil => ⟨Z, ok, .nil, fun _ _ e => e, rfl, fun _ _ e => .inl e⟩
  | _, _, .cons (d := d) (v := v) r t => by
    obtain ⟨Z1, ok1, rl, fr, dk, back⟩ := lend ok t
    obtain ⟨u, e, q⟩ := r
    have more : ∀ (a : Addr) (o : HO), Z.F a = none → Z.nd a → H a = some o → ((∃ xs, o = .lst xs) ∨ (∃ kvs, o = .dK kvs) ∨ ∃ C dx fs, o = .ins C dx fs) → ZOk G ⟨upd Z1.F a o, Z1.dk⟩ H ∧ (∀ b o', Z1.F b = some o' → upd Z1.F a o b = some o') ∧ ∀ b o', upd Z1.F a o b = some o' → Z.F b = some o' ∨ (Z.F b = none ∧ H b = some o' ∧ ((∃ xs, o' = .lst xs) ∨ (∃ kvs, o' = .dK kvs) ∨ ∃ C dx fs, o' = .ins C dx fs)) := fun a o hF hn hH hk => by
      refine ⟨⟨fun b o' e => ?_, fun x y e => ?_, ok1.dj⟩, fun b o' e => ?_, fun b o' e => ?_⟩
      · have e' : upd Z1.F a o b = some o' := e
        by_cases hb : b = a
        · subst hb; rw [upd_same] at e'; rw [hH]; exact e'
        · rw [upd_ne hb] at e'; exact ok1.le b o' e'
      · obtain ⟨h1, h2, h3⟩ := ok1.dk x y e
        have e' : Z.dk (x, y) := by rw [← dk]; exact e
        obtain ⟨n1, n2⟩ := hn _ e'
        refine ⟨h1, ?_, ?_⟩
        · show upd Z1.F a o x = none
          rw [upd_ne (Ne.symm n1)]; exact h2
        · show upd Z1.F a o y = none
          rw [upd_ne (Ne.symm n2)]; exact h3
      · by_cases hb : b = a
        · subst hb
          have := ok1.le b o' e
          rw [hH] at this; rw [upd_same]; exact this
        · rw [upd_ne hb]; exact e
      · by_cases hb : b = a
        · subst hb
          rw [upd_same] at e
          cases e
          exact .inr ⟨hF, hH, hk⟩
        · rw [upd_ne hb] at e
          exact back b o' e
    cases q with
    | v q =>
      cases e
      exact ⟨Z1, ok1, .cons (q.mono fr fun p h => by rw [dk]; exact h) rl, fr, dk, back⟩
    | @ol a ds vs hF hn hH q =>
      cases e
      obtain ⟨m1, m2, m3⟩ := more a (.lst vs) hF hn hH (.inl ⟨_, rfl⟩)
      have gr : ∀ b o, Z.F b = some o → upd Z1.F a (.lst vs) b = some o := fun b o e => m2 b o (fr b o e)
      refine ⟨⟨upd Z1.F a (.lst vs), Z1.dk⟩, m1, .cons (.lst upd_same (q.mono gr fun p h => by rw [← dk] at h; exact h)) (RepL.mono (Z' := ⟨upd Z1.F a (.lst vs), Z1.dk⟩) m2 (fun _ h => h) rl), gr, dk, m3⟩
    | @od a ds vs hF hn hH q =>
      cases e
      obtain ⟨m1, m2, m3⟩ := more a (.dK vs) hF hn hH (.inr (.inl ⟨_, rfl⟩))
      have gr : ∀ b o, Z.F b = some o → upd Z1.F a (.dK vs) b = some o := fun b o e => m2 b o (fr b o e)
      refine ⟨⟨upd Z1.F a (.dK vs), Z1.dk⟩, m1, .cons (.dct upd_same (q.mono gr fun p h => by rw [← dk] at h; exact h)) (RepL.mono (Z' := ⟨upd Z1.F a (.dK vs), Z1.dk⟩) m2 (fun _ h => h) rl), gr, dk, m3⟩
    | @ob a C dx c ks fs hp hF hn hH hc q =>
      cases e
      obtain ⟨m1, m2, m3⟩ := more a (.ins C dx fs) hF hn hH (.inr (.inr ⟨_, _, _, rfl⟩))
      have gr : ∀ b o, Z.F b = some o → upd Z1.F a (.ins C dx fs) b = some o := fun b o e => m2 b o (fr b o e)
      refine ⟨⟨upd Z1.F a (.ins C dx fs), Z1.dk⟩, m1, .cons (.obj upd_same hc (q.mono gr fun p h => by rw [← dk] at h; exact h)) (RepL.mono (Z' := ⟨upd Z1.F a (.ins C dx fs), Z1.dk⟩) m2 (fun _ h => h) rl), gr, dk, m3⟩
    | @op a ds vs hp hF hn hH q =>
      cases e
      obtain ⟨m1, m2, m3⟩ := more a (.dK vs) hF hn hH (.inr (.inl ⟨_, rfl⟩))
      have gr : ∀ b o, Z.F b = some o → upd Z1.F a (.dK vs) b = some o := fun b o e => m2 b o (fr b o e)
      refine ⟨⟨upd Z1.F a (.dK vs), Z1.dk⟩, m1, .cons (.dct upd_same (q.mono gr fun p h => by rw [← dk] at h; exact h)) (RepL.mono (Z' := ⟨upd Z1.F a (.dK vs), Z1.dk⟩) m2 (fun _ h => h) rl), gr, dk, m3⟩
open Classical in
noncomputable def unlend (Z Zp Z2 : Zt) : Zt := ⟨fun b => if Zp.F b ≠ none ∧ Z.F b = none then none else Z2.F b, Z2.dk⟩
theorem unlend_some {Z Zp Z2 : Zt} {b : Addr} {o : HO} (e : (unlend Z Zp Z2).F b = some o) : Z2.F b = some o ∧ ¬ (Zp.F b ≠ none ∧ Z.F b = none) := by
  unfold unlend at e
  dsimp only at e
  split at e
  · cases e
  · exact ⟨e, by assumption⟩
theorem unlend_of {Z Zp Z2 : Zt} {b : Addr} (n : ¬ (Zp.F b ≠ none ∧ Z.F b = none)) : (unlend Z Zp Z2).F b = Z2.F b := by
  unfold unlend
  dsimp only
  rw [if_neg n]
theorem Ext.unlend {Z Zp Z2 : Zt} {H H2 : Hp} (fr : ∀ b o, Z.F b = some o → Zp.F b = some o) (dk : Zp.dk = Z.dk) (x : Ext G Zp H Z2 H2) : Ext G Z H (LC.unlend Z Zp Z2) H2 := by
  refine ⟨⟨fun b o e => x.ok.le b o (unlend_some e).1, fun a c e => ?_, x.ok.dj⟩, fun b o e => ?_, fun p e => x.dk p (by rw [dk]; exact e), fun b o e n => x.keep b o e (fun p h => n p (by rw [← dk]; exact h)), fun b o e n => ?_, fun p e => ?_⟩
  · obtain ⟨h1, h2, h3⟩ := x.ok.dk a c e
    refine ⟨h1, ?_, ?_⟩
    · cases q : (LC.unlend Z Zp Z2).F a with
      | none => rfl
      | some o => rw [(unlend_some q).1] at h2; cases h2
    · cases q : (LC.unlend Z Zp Z2).F c with
      | none => rfl
      | some o => rw [(unlend_some q).1] at h3; cases h3
  · rw [unlend_of (by rw [e]; exact fun z => nomatch z.2)]
    exact x.fr b o (fr b o e)
  · obtain ⟨e1, e2⟩ := unlend_some e
    have : Zp.F b = none := Classical.byContradiction fun z => e2 ⟨z, n⟩
    exact x.newF b o e1 this
  · rcases x.newD p e with h | h
    · rw [dk] at h; exact .inl h
    · exact .inr h
mutual
theorem RepF.unlend {Z Zp Z2 : Zt} (fr2 : ∀ b o, Zp.F b = some o → Z2.F b = some o) (back : ∀ b o, Zp.F b = some o → Z.F b = some o ∨ (Z.F b = none ∧ ((∃ xs, o = .lst xs) ∨ (∃ kvs, o = .dK kvs) ∨ ∃ C dx fs, o = .ins C dx fs))) : ∀ {d : D} {v : V}, D.pureb d = true → RepF G Z2 d v → RepF G (LC.unlend Z Zp Z2) d v
  | _, _, _, .non => .non
  | _, _, _, .bl b => .bl b
  | _, _, _, .int i => .int i
  | _, _, _, .str x => .str x
  | .tup ds, _, hp, .tup (a := a) (vs := vs) s r => by
    refine .tup ?_ (RepL.unlend fr2 back (by rw [D.pureb] at hp; exact hp) r)
    have keep : ∀ o, Z2.F a = some o → (∀ xs, o ≠ .lst xs) → (∀ xs, o ≠ .dK xs) → (∀ C dx fs, o ≠ .ins C dx fs) → (LC.unlend Z Zp Z2).F a = some o := fun o e n1 n2 n3 => by
      rw [unlend_of, e]
      rintro ⟨h1, h2⟩
      cases q : Zp.F a with
      | none => exact h1 q
      | some o' =>
        have e2 := fr2 a o' q
        rw [e] at e2
        cases e2
        rcases back a o q with h | ⟨_, ⟨xs, h⟩ | ⟨xs, h⟩ | ⟨_, _, _, h⟩⟩
        · rw [h2] at h; cases h
        · exact n1 xs h
        · exact n2 xs h
        · exact n3 _ _ _ h
    rcases s with (s | ⟨o, s⟩) | s
    · exact .inl (.inl (keep _ s (fun _ z => nomatch z) (fun _ z => nomatch z) fun _ _ _ z => nomatch z))
    · exact .inl (.inr ⟨o, keep _ s (fun _ z => nomatch z) (fun _ z => nomatch z) fun _ _ _ z => nomatch z⟩)
    · exact .inr s
  | _, _, hp, .lst _ _ => nomatch hp
  | _, _, hp, .dct _ _ => nomatch hp
  | _, _, hp, .lck _ _ => nomatch hp
  | _, _, hp, .tpk _ _ _ _ => nomatch hp
  | _, _, hp, .obj _ _ _ => nomatch hp
  | _, _, hp, .fn _ => nomatch hp
  | _, _, hp, .deck _ => nomatch hp
  | _, _, hp, .script _ _ => nomatch hp
theorem RepL.unlend {Z Zp Z2 : Zt} (fr2 : ∀ b o, Zp.F b = some o → Z2.F b = some o) (back : ∀ b o, Zp.F b = some o → Z.F b = some o ∨ (Z.F b = none ∧ ((∃ xs, o = .lst xs) ∨ (∃ kvs, o = .dK kvs) ∨ ∃ C dx fs, o = .ins C dx fs))) : ∀ {ds : List D} {vs : List V}, D.pureL ds = true → RepL G Z2 ds vs → RepL G (LC.unlend Z Zp Z2) ds vs
  | _, _, _, .nil => .nil
  | d :: ds, _, hp, .cons r t => by
    rw [D.pureL, Bool.and_eq_true] at hp
    exact .cons (RepF.unlend fr2 back hp.1 r) (RepL.unlend fr2 back hp.2 t)
end
include g
theorem v_cons {e : E} {r : Es} {e' : Expr} {r' : List Expr} (he : PE X e' (tE G (wE F cg e))) (hr : PA X r' (tV G (wV F cg r))) (hp : plainB e' = true) : PA X (e' :: r') (tV G (wV F cg (.cons e r))) := by
  refine PA.weak (pa_cons he hr (plain_star hp _ _)) fun σ H Q h => ?_
  obtain ⟨Z, env, ok, eo, h⟩ := h
  refine ⟨Z, env, ok, eo, wE_mono g.mono e env _ _ (fun t q => ?_) h⟩
  intro Z1 H1 v1 x1 r1 f1
  obtain ⟨Z2, x2, r2, _⟩ := frz x1 ok r1 f1
  refine ⟨Z2, env, x2.ok, eo.ext x2, wV_mono g.mono r env _ _ (fun ds q Z3 H3 vs x3 r3 => ?_) q⟩
  exact q _ _ _ (x2.trans ok x3) (.cons (x3.repF r2) r3)
theorem os_cons {e : E} {r : Es} {e' : Expr} {r' : List Expr} (he : PE X e' (tO G (oE F cg e))) (hr : PA X r' (tOs G (wOs F cg r))) (hp : plainB e' = true) : PA X (e' :: r') (tOs G (wOs F cg (.cons e r))) := by
  refine PA.weak (pa_cons he hr (plain_star hp _ _)) fun σ H Q h => ?_
  obtain ⟨Z, env, ok, eo, h⟩ := h
  refine ⟨Z, env, ok, eo, oE_mono g e env _ _ (fun d q Z1 H1 v1 x1 r1 => ?_) h⟩
  refine ⟨Z1, env, x1.ok, eo.ext x1, wOs_mono g.mono r env _ _ (fun ds q Z3 H3 vs x3 r3 => ?_) q⟩
  exact q _ _ _ (x1.trans ok x3) (.cons (x3.repD r1) r3)
theorem e_and1 {a : E} {a' : Expr} (ha : PE X a' (tE G (wE F cg a))) : PE X (.BoolOp .And [a'] pos) (tE G (wAnd F cg (.cons a .nil))) := PE.weak (pe_one ha) fun σ H Q h => by
  obtain ⟨Z, env, ok, eo, h⟩ := h
  exact ⟨Z, env, ok, eo, h⟩
theorem e_or1 {a : E} {a' : Expr} (ha : PE X a' (tE G (wE F cg a))) : PE X (.BoolOp .Or [a'] pos) (tE G (wOr F cg (.cons a .nil))) := PE.weak (pe_one ha) fun σ H Q h => by
  obtain ⟨Z, env, ok, eo, h⟩ := h
  exact ⟨Z, env, ok, eo, h⟩
theorem e_and {a b : E} {r : Es} {a' b' : Expr} {r' : List Expr} (ha : PE X a' (tE G (wE F cg a))) (hr : PE X (.BoolOp .And (b' :: r') pos) (tE G (wAnd F cg (.cons b r)))) : PE X (.BoolOp .And (a' :: b' :: r') pos) (tE G (wAnd F cg (.cons a (.cons b r)))) := by
  refine PE.weak (pe_and ha hr) fun σ H Q h => ?_
  obtain ⟨Z, env, ok, eo, h⟩ := h
  refine ⟨Z, env, ok, eo, wE_mono g.mono a env _ _ (fun t q => ?_) h⟩
  intro Z1 H1 v1 x1 r1 _
  cases r1 with
  | v r1 =>
    cases r1 with
    | bl z =>
      refine ⟨z, rfl, ?_⟩
      have q : if z = true then wAnd F cg (.cons b r) env (kT G Z H Q) else kT G Z H Q (.v (.bl false)) := q
      cases z with
      | true =>
        rw [if_pos rfl] at q ⊢
        exact ⟨Z1, env, x1.ok, eo.ext x1, wAnd_mono g.mono _ env _ _ (fun t q => kT.ext x1 ok q) q⟩
      | false =>
        rw [if_neg (by decide)] at q ⊢
        exact kT.d x1.ok (kT.ext x1 ok q) (.bl _)
    | _ => exact False.elim q
  | _ => exact False.elim q
theorem e_or {a b : E} {r : Es} {a' b' : Expr} {r' : List Expr} (ha : PE X a' (tE G (wE F cg a))) (hr : PE X (.BoolOp .Or (b' :: r') pos) (tE G (wOr F cg (.cons b r)))) : PE X (.BoolOp .Or (a' :: b' :: r') pos) (tE G (wOr F cg (.cons a (.cons b r)))) := by
  refine PE.weak (pe_or ha hr) fun σ H Q h => ?_
  obtain ⟨Z, env, ok, eo, h⟩ := h
  refine ⟨Z, env, ok, eo, wE_mono g.mono a env _ _ (fun t q => ?_) h⟩
  intro Z1 H1 v1 x1 r1 _
  cases r1 with
  | v r1 =>
    cases r1 with
    | bl z =>
      refine ⟨z, rfl, ?_⟩
      have q : if z = true then kT G Z H Q (.v (.bl true)) else wOr F cg (.cons b r) env (kT G Z H Q) := q
      cases z with
      | true =>
        rw [if_pos rfl] at q ⊢
        exact kT.d x1.ok (kT.ext x1 ok q) (.bl _)
      | false =>
        rw [if_neg (by decide)] at q ⊢
        exact ⟨Z1, env, x1.ok, eo.ext x1, wOr_mono g.mono _ env _ _ (fun t q => kT.ext x1 ok q) q⟩
    | _ => exact False.elim q
  | _ => exact False.elim q
theorem PW.weak' {e : Expr} {t t' : TT} (h : PW X e t) (w : ∀ σ H Q, t' σ H Q → t σ H Q) : PW X e t' := ⟨fun wh pins s σ H Q I q => h.run wh pins s σ H Q I (w σ H Q q)⟩
theorem w_and1 {a : E} {a' : Expr} (ha : PT X a' (tT G (wE F cg a))) : PW X (.BoolOp .And [a'] pos) (tT G (wAnd F cg (.cons a .nil))) := PW.weak' g (pw_and1 ha) fun σ H Q h => h
theorem w_or1 {a : E} {a' : Expr} (ha : PT X a' (tT G (wE F cg a))) : PW X (.BoolOp .Or [a'] pos) (tT G (wOr F cg (.cons a .nil))) := PW.weak' g (pw_or1 ha) fun σ H Q h => h
theorem w_and {a b : E} {r : Es} {a' b' : Expr} {r' : List Expr} (ha : PT X a' (tT G (wE F cg a))) (hr : PW X (.BoolOp .And (b' :: r') pos) (tT G (wAnd F cg (.cons b r)))) : PW X (.BoolOp .And (a' :: b' :: r') pos) (tT G (wAnd F cg (.cons a (.cons b r)))) := by
  refine PW.weak' g (pw_and ha hr) fun σ H Q h => ?_
  obtain ⟨Z, env, ok, eo, h⟩ := h
  refine ⟨Z, env, ok, eo, wE_mono g.mono a env _ _ (isB.mono fun z q Z1 H1 x1 => ?_) h⟩
  cases z with
  | true =>
    rw [if_pos rfl] at q ⊢
    exact ⟨Z1, env, x1.ok, eo.ext x1, wAnd_mono g.mono _ env _ _ (isB.mono fun t q Z2 H2 x2 => q _ _ (x1.trans ok x2)) q⟩
  | false =>
    rw [if_neg (by decide)] at q ⊢
    exact q _ _ x1
theorem w_or {a b : E} {r : Es} {a' b' : Expr} {r' : List Expr} (ha : PT X a' (tT G (wE F cg a))) (hr : PW X (.BoolOp .Or (b' :: r') pos) (tT G (wOr F cg (.cons b r)))) : PW X (.BoolOp .Or (a' :: b' :: r') pos) (tT G (wOr F cg (.cons a (.cons b r)))) := by
  refine PW.weak' g (pw_or ha hr) fun σ H Q h => ?_
  obtain ⟨Z, env, ok, eo, h⟩ := h
  refine ⟨Z, env, ok, eo, wE_mono g.mono a env _ _ (isB.mono fun z q Z1 H1 x1 => ?_) h⟩
  cases z with
  | true =>
    rw [if_pos rfl] at q ⊢
    exact q _ _ x1
  | false =>
    rw [if_neg (by decide)] at q ⊢
    exact ⟨Z1, env, x1.ok, eo.ext x1, wOr_mono g.mono _ env _ _ (isB.mono fun t q Z2 H2 x2 => q _ _ (x1.trans ok x2)) q⟩
def tP (G : Gx) (f : Env → (Option Int → Prop) → Prop) : TO := fun σ H Q => ∃ Z env, ZOk G Z H ∧ EnvOk G Z H σ env ∧ f env (fun o => ∀ Z' H', Ext G Z H Z' H' → Q o H')
omit g in
theorem p_none : PO X none (tP G (wP F cg .none)) := PO.weak po_none fun σ H Q h => by
  obtain ⟨Z, env, ok, eo, h⟩ := h
  exact h _ _ (.refl ok)
theorem p_some {e : E} {e' : Expr} (he : PE X e' (tO G (oE F cg e))) : PO X (some e') (tP G (wP F cg (.some e))) := by
  refine PO.weak (po_some he) fun σ H Q h => ?_
  obtain ⟨Z, env, ok, eo, h⟩ := h
  unfold wP at h
  refine ⟨Z, env, ok, eo, oE_mono g e env _ _ (fun d q Z1 H1 v1 x1 r1 => ?_) h⟩
  cases d with
  | int i =>
    have e := r1.int
    subst e
    exact ⟨i, rfl, q _ _ x1⟩
  | _ => exact False.elim q
theorem e_cut {a : E} {lo hi : Eo} {a' : Expr} {lo' hi' : Option Expr} {p2 : Pos} (ha : PE X a' (tO G (oE F cg a))) (hl : PO X lo' (tP G (wP F cg lo))) (hh : PO X hi' (tP G (wP F cg hi))) : PE X (.Subscript a' (.Slice lo' hi' none p2) pos) (tE G (wE F cg (.cut a lo hi))) := by
  refine PE.weak (pe_slice (sl_D g.K) ha hl hh) fun σ H Q h => ?_
  obtain ⟨Z, env, ok, eo, h⟩ := h
  refine ⟨Z, env, ok, eo, oE_mono g a env _ _ (fun d q Z1 H1 v1 x1 r1 => ?_) h⟩
  refine ⟨Z1, env, x1.ok, eo.ext x1, wP_mono g.mono lo env _ _ (fun l q Z2 H2 x2 => ?_) q⟩
  refine ⟨Z2, env, x2.ok, (eo.ext x1).ext x2, wP_mono g.mono hi env _ _ (fun u q Z3 H3 x3 => ?_) q⟩
  exact ⟨Z3, d, x3.ok, (x2.trans x1.ok x3).repD r1, wCut_mono (fun t q => kT.ext ((x1.trans ok x2).trans ok x3) ok q) _ _ _ q⟩
theorem e_call {x : Str} {j : Nat} {es : Es} {es' : List Expr} {p : Pos} (hx : c.fns.lookup x = some j) (h1 : glbB sc x = true) (h2 : okN x = true) (ha : PA X es' (tV G (wV F cg es))) (hnil : es' = [] → es = .nil) (hp : ∀ e r, es' = e :: r → plainB e = true) (hq : (backTo pos (starEach es'.tail X.env)).any (·.1) = false) :
    PE X (.Call (.Name x p) es' [] pos) (tE G (wE F cg (.call x j es))) := by
  obtain ⟨f, m1, m2⟩ := g.fn x j hx
  obtain ⟨fd, ps, FO, kp, bs, ln, dfl⟩ := g.fo j f m2
  have key : ∀ σ H Q, tE G (wE F cg (.call x j es)) σ H Q → tCall (spOf G ps.length (F j)) [] E0 (tV G (wV F cg es)) σ H Q := fun σ H Q h => by
    obtain ⟨Z, env, ok, eo, h⟩ := h
    unfold wE at h
    refine ⟨Z, env, ok, eo, wV_mono g.mono es env _ _ (fun ds q Z1 H1 vs x1 r1 => ?_) h⟩
    show spOf G ps.length (F j) (vs ++ []) H1 Q E0
    rw [List.append_nil]
    refine ⟨by rw [← r1.length]; exact ln _ _ q, Z1, ds, x1.ok, r1, g.mono _ _ _ _ (fun d q Z2 H2 v x2 r2 => ?_) q⟩
    exact q _ _ v (x1.trans ok x2) (.v r2) True.intro
  cases es' with
  | nil =>
    refine PE.weak (pe_call0 FO g.room (g.gl_of h1) m1 kp bs .nil pass0 (okN_of h2).1) fun σ H Q h => ?_
    have h3 := key σ H Q h
    cases hnil rfl
    obtain ⟨Z, env, ok, eo, h3⟩ := h3
    exact h3 Z H [] (.refl ok) .nil
  | cons e r =>
    exact PE.weak (pe_call FO g.room (g.gl_of h1) m1 kp bs .nil pass0 ha (okN_of h2).1 (plain_star (hp e r rfl) _ _) hq) key
theorem e_callb {x : Str} {j : Nat} {es : Es} {e' : Expr} {es' : List Expr} {p : Pos} (hx : c.fns.lookup x = some j) (h1 : glbB sc x = true) (h2 : okN x = true) (ha : PA X (e' :: es') (tOs G (wOs F cg es))) (hp : plainB e' = true) (hq : (backTo pos (starEach es' X.env)).any (·.1) = false) :
    PE X (.Call (.Name x p) (e' :: es') [] pos) (tE G (wE F cg (.callb x j es))) := by
  obtain ⟨f, m1, m2⟩ := g.fn x j hx
  obtain ⟨fd, ps, FO, kp, bs, ln, dfl⟩ := g.fo j f m2
  refine PE.weak (pe_call FO g.room (g.gl_of h1) m1 kp bs .nil pass0 ha (okN_of h2).1 (plain_star hp _ _) hq) fun σ H Q h => ?_
  obtain ⟨Z, env, ok, eo, h⟩ := h
  unfold wE at h
  refine ⟨Z, env, ok, eo, wOs_mono g.mono es env _ _ (fun ds q Z1 H1 vs x1 r1 => ?_) h⟩
  show spOf G ps.length (F j) (vs ++ []) H1 Q E0
  rw [List.append_nil]
  obtain ⟨Zp, okp, rl, fr, dk, back⟩ := lend x1.ok r1
  refine ⟨by rw [← rl.length]; exact ln _ _ q, Zp, ds, okp, rl, g.mono _ _ _ _ (fun d q Z2 H2 v x2 r2 => ?_) q⟩
  refine q.2 _ _ v (x1.trans ok (x2.unlend fr dk)) (.v (RepF.unlend x2.fr (fun b o e => ?_) q.1 r2)) True.intro
  rcases back b o e with h | ⟨h1, h2, h3⟩
  · exact .inl h
  · exact .inr ⟨h1, h3⟩
theorem e_calld {x : Str} {j : Nat} {es : Es} {dl : List D} {e' : Expr} {es' : List Expr} {p : Pos} (hx : c.fns.lookup x = some j) (h1 : glbB sc x = true) (h2 : okN x = true) (hd : (j, dl) ∈ c.dfs) (ha : PA X (e' :: es') (tV G (wV F cg es))) (hp : plainB e' = true) (hq : (backTo pos (starEach es' X.env)).any (·.1) = false) :
    PE X (.Call (.Name x p) (e' :: es') [] pos) (tE G (wE F cg (.calld x j es dl))) := by
  obtain ⟨f, m1, m2⟩ := g.fn x j hx
  obtain ⟨fd, ps, FO, kp, bs, ln, dfl⟩ := g.fo j f m2
  obtain ⟨dvs, us, rd, vd, bd⟩ := dfl dl hd
  refine PE.weak (pe_call FO g.room (g.gl_of h1) m1 kp bd vd pass0 ha (okN_of h2).1 (plain_star hp _ _) hq) fun σ H Q h => ?_
  obtain ⟨Z, env, ok, eo, h⟩ := h
  unfold wE at h
  refine ⟨Z, env, ok, eo, wV_mono g.mono es env _ _ (fun ds q Z1 H1 vs x1 r1 => ?_) h⟩
  show spOf G ps.length (F j) (vs ++ dvs) H1 Q E0
  have r2 := r1.append (rd Z1)
  refine ⟨by rw [← r2.length]; exact ln _ _ q, Z1, ds ++ dl, x1.ok, r2, g.mono _ _ _ _ (fun d q Z2 H2 v x2 r2 => ?_) q⟩
  exact q _ _ v (x1.trans ok x2) (.v r2) True.intro
theorem e_callv {x : Str} {i : Nat} {es : Es} {e' : Expr} {es' : List Expr} {p : Pos} (hx : c.N[i]? = some x) (h1 : visB sc x = true) (h2 : okN x = true) (ha : PA X (e' :: es') (tV G (wV F cg es))) (hp : plainB e' = true) (hq : (backTo pos (starEach es' X.env)).any (·.1) = false) :
    PE X (.Call (.Name x p) (e' :: es') [] pos) (tE G (wE F cg (.callv i es))) := by
  refine ⟨fun pins s σ H Q I h => ?_⟩
  obtain ⟨Z, env, ok, eo, h⟩ := h
  unfold wE at h
  split at h
  · rename_i j hj
    obtain ⟨v, e1, r⟩ := eo.get i _ hj
    obtain ⟨f, ev, m2⟩ := r.toD.fn
    subst ev
    obtain ⟨fd, ps, FO, kp, bs, ln, dfl⟩ := g.fo j f m2
    refine (pe_callL (i := i) (f := f) (sp := spOf G ps.length (F j)) (dvs := []) (E := E0) FO g.room (by rw [g.N]; exact hx) (by rw [g.sc]; exact visB_of h1) kp bs .nil pass0 ha (okN_of h2).1 (okN_of h2).2.1 (plain_star hp _ _) hq).run pins s σ H Q I ⟨e1, ?_⟩
    refine ⟨Z, env, ok, eo, wV_mono g.mono es env _ _ (fun ds q Z1 H1 vs x1 r1 => ?_) h⟩
    show spOf G ps.length (F j) (vs ++ []) H1 Q E0
    rw [List.append_nil]
    refine ⟨by rw [← r1.length]; exact ln _ _ q, Z1, ds, x1.ok, r1, g.mono _ _ _ _ (fun d q Z2 H2 v x2 r2 => ?_) q⟩
    exact q _ _ v (x1.trans ok x2) (.v r2) True.intro
  · exact h.elim
theorem tCB_of {es : Es} {fD : List D → (T → Prop) → Prop} (mf : ∀ ds P P', (∀ t, P t → P' t) → fD ds P → fD ds P') {σ : St} {H : Hp} {Q : VK} (h : tE G (fun env P => wOs F cg es env fun ds => fD ds P) σ H Q) : tCB (rDs G fD) (tOs G (wOs F cg es)) σ H Q := by
  obtain ⟨Z, env, ok, eo, h⟩ := h
  refine ⟨Z, env, ok, eo, wOs_mono g.mono es env _ _ (fun ds q Z1 H1 vs x1 r1 => ?_) h⟩
  exact ⟨Z1, ds, x1.ok, r1, mf _ _ _ (fun t q => kT.ext x1 ok q) q⟩
theorem e_bi {b : Bi} {es : Es} {e' : Expr} {es' : List Expr} {p : Pos} (h1 : glbB sc b.nm = true) (ha : PA X (e' :: es') (tOs G (wOs F cg es))) (hp : plainB e' = true) (hq : (backTo pos (starEach es' X.env)).any (·.1) = false) :
    PE X (.Call (.Name b.nm p) (e' :: es') [] pos) (tE G (wE F cg (.bi b es))) := by
  have hs := plain_star hp es' X.env
  have hg := g.gl_of h1
  cases b with
  | len => exact PE.weak (pe_callB (len_D g.K) hg (g.blt _ (by decide)) (by decide +kernel) ha (by decide) (by decide) hs hq) fun σ H Q h => tCB_of g (fun ds P P' hP q => wBi_mono hP .len ds q) h
  | all => exact PE.weak (pe_callB (all_D g.calm) hg (g.blt _ (by decide)) (by decide +kernel) ha (by decide) (by decide) hs hq) fun σ H Q h => tCB_of g (fun ds P P' hP q => wBi_mono hP .all ds q) h
  | any => exact PE.weak (pe_callB (any_D g.calm) hg (g.blt _ (by decide)) (by decide +kernel) ha (by decide) (by decide) hs hq) fun σ H Q h => tCB_of g (fun ds P P' hP q => wBi_mono hP .any ds q) h
  | list => exact PE.weak (pe_callTy (list_D g.K g.calm) hg (g.blt _ (by decide)) (by decide +kernel) ha (by decide) (by decide) hs hq) fun σ H Q h => tCB_of g (fun ds P P' hP q => wBi_mono hP .list ds q) h
  | tuple => exact PE.weak (pe_callTy (tuple_D g.K) hg (g.blt _ (by decide)) (by decide +kernel) ha (by decide) (by decide) hs hq) fun σ H Q h => tCB_of g (fun ds P P' hP q => wBi_mono hP .tuple ds q) h
  | int => exact PE.weak (pe_callTy int_D hg (g.blt _ (by decide)) (by decide +kernel) ha (by decide) (by decide) hs hq) fun σ H Q h => tCB_of g (fun ds P P' hP q => wBi_mono hP .int ds q) h
  | sorted => exact PE.weak (pe_callB (sorted_D g.K g.calm) hg (g.blt _ (by decide)) (by decide +kernel) ha (by decide) (by decide) hs hq) fun σ H Q h => tCB_of g (fun ds P P' hP q => wBi_mono hP .sorted ds q) h
  | sortedp => exact PE.weak (pe_callB (sortedp_D g.K) hg (g.blt _ (by decide)) (by decide +kernel) ha (by decide) (by decide) hs hq) fun σ H Q h => tCB_of g (fun ds P P' hP q => wBi_mono hP .sortedp ds q) h
  | sortedt => exact PE.weak (pe_callB (sortedt_D g.K) hg (g.blt _ (by decide)) (by decide +kernel) ha (by decide) (by decide) hs hq) fun σ H Q h => tCB_of g (fun ds P P' hP q => wBi_mono hP .sortedt ds q) h
  | sortedi => exact PE.weak (pe_callB (sortedi_D g.K) hg (g.blt _ (by decide)) (by decide +kernel) ha (by decide) (by decide) hs hq) fun σ H Q h => tCB_of g (fun ds P P' hP q => wBi_mono hP .sortedi ds q) h
  | sortedq => exact PE.weak (pe_callB (sortedq_D g.K) hg (g.blt _ (by decide)) (by decide +kernel) ha (by decide) (by decide) hs hq) fun σ H Q h => tCB_of g (fun ds P P' hP q => wBi_mono hP .sortedq ds q) h
  | max => exact PE.weak (pe_callB (max_D g.calm) hg (g.blt _ (by decide)) (by decide +kernel) ha (by decide) (by decide) hs hq) fun σ H Q h => tCB_of g (fun ds P P' hP q => wBi_mono hP .max ds q) h
  | min => exact PE.weak (pe_callB (min_D g.calm) hg (g.blt _ (by decide)) (by decide +kernel) ha (by decide) (by decide) hs hq) fun σ H Q h => tCB_of g (fun ds P P' hP q => wBi_mono hP .min ds q) h
  | sum => exact PE.weak (pe_callB (sum_D g.calm) hg (g.blt _ (by decide)) (by decide +kernel) ha (by decide) (by decide) hs hq) fun σ H Q h => tCB_of g (fun ds P P' hP q => wBi_mono hP .sum ds q) h
  | str => exact PE.weak (pe_callTy str_D hg (g.blt _ (by decide)) (by decide +kernel) ha (by decide) (by decide) hs hq) fun σ H Q h => tCB_of g (fun ds P P' hP q => wBi_mono hP .str ds q) h
theorem e_isinst {a : E} {t : Ty} {a' : Expr} {p p2 : Pos} (h1 : glbB sc "isinstance" = true) (h2 : glbB sc t.st = true) (ha : PE X a' (tO G (oE F cg a))) (hp : plainB a' = true) :
    PE X (.Call (.Name "isinstance" p) [a', .Name t.st p2] [] pos) (tE G (wE F cg (.isinst a t))) := by
  have hty : PE X (.Name t.st p2) (tC (.ty t.nm)) := by
    have hg := g.gl_of h2
    cases t with
    | str => exact pe_bltn hg (g.blt _ (by decide)) (u := .type "str") (by decide +kernel) rfl
    | int => exact pe_bltn hg (g.blt _ (by decide)) (u := .type "int") (by decide +kernel) rfl
    | bool => exact pe_bltn hg (g.blt _ (by decide)) (u := .type "bool") (by decide +kernel) rfl
    | tuple => exact pe_bltn hg (g.blt _ (by decide)) (u := .type "tuple") (by decide +kernel) rfl
    | list => exact pe_bltn hg (g.blt _ (by decide)) (u := .type "list") (by decide +kernel) rfl
  refine PE.weak (pe_callB (call_isi_D (G := G) (t := t) g.K) (g.gl_of h1) (g.blt _ (by decide)) (by decide +kernel) (pa_cons ha (pa_cons hty pa_nil) (plain_star hp _ _)) (by decide) (by decide) (plain_star hp _ _) rfl) fun σ H Q h => ?_
  obtain ⟨Z, env, ok, eo, h⟩ := h
  refine ⟨Z, env, ok, eo, oE_mono g a env _ _ (fun d q Z1 H1 v x1 r1 => ?_) h⟩
  have q : match wTy t d with | some b => kT G Z H Q (.v (.bl b)) | none => False := q
  show ∃ Z d w b, ZOk G Z H1 ∧ [v, V.ty t.nm] = [w, V.ty t.nm] ∧ _
  cases hw : wTy t d with
  | none => rw [hw] at q; exact q.elim
  | some b =>
    rw [hw] at q
    exact ⟨Z1, d, v, b, x1.ok, rfl, r1, hw, kT.d x1.ok (kT.ext x1 ok q) (.bl _)⟩
def Mt.ty : Mt → String
  | .lindex => "list"
  | _ => "str"
theorem e_mtK {m : Mt} {a : E} {es : Es} : ∀ σ H Q, tE G (wE F cg (.mt m a es)) σ H Q →
      (tO G (oE F cg a)) σ H fun x H1 => tyV X.K m.ty x H1 ∧ (tOs G (wOs F cg es)) σ H1 fun xs H2 => ∃ Z d ds, ZOk G Z H2 ∧ RepD G Z H2 d x ∧ RepDs G Z H2 ds xs ∧ wMt m d ds (kT G Z H2 Q) := fun σ H Q h => by
  obtain ⟨Z, env, ok, eo, h⟩ := h
  unfold wE at h
  refine ⟨Z, env, ok, eo, oE_mono g a env _ _ (fun d q Z1 H1 v1 x1 r1 => ?_) h⟩
  refine ⟨?_, Z1, env, x1.ok, eo.ext x1, wOs_mono g.mono es env _ _ (fun ds q Z2 H2 vs x2 r2 => ?_) q.2⟩
  · have q1 := q.1
    cases m <;> cases d <;> first | (cases q1; done) | (rw [r1.str.1]; rfl) | (obtain ⟨a1, vs1, e1, s1, l1⟩ := r1.lst x1.ok; subst e1; exact .inl ⟨rfl, _, .inl (.inl s1)⟩)
  · exact ⟨Z2, d, ds, x2.ok, x2.repD r1, r2, wMt_mono (fun t q => kT.ext (x1.trans ok x2) ok q) _ _ _ q⟩
theorem e_mt {m : Mt} {a : E} {es : Es} {a' e' : Expr} {apos : Pos} (hm : m.ar = 1) (ha : PE X a' (tO G (oE F cg a))) (he : PA X [e'] (tOs G (wOs F cg es))) (hpa : plainB a' = true) (hp : plainB e' = true) (hl : (apos.endLine == pos.line) = true) :
    PE X (.Call (.Attribute a' m.nm apos) [e'] [] pos) (tE G (wE F cg (.mt m a es))) := by
  have hs := plain_star hp [] X.env
  have key := e_mtK (F := F) (cg := cg) (es := es) (a := a) (m := m) g
  have few : ((backTo pos (starEach [e'] X.env)).all (fun x => !x.1) && (backToKw pos (keywordEach [] X.env)).all (fun x => x.1.isSome)
      && decide ([e'].length + ([] : List Keyword).length + (if ([] : List Keyword).isEmpty then 0 else 1) < 30)) = true := by
    rw [hs]
    rfl
  cases m with
  | join => exact PE.weak (pe_bm PySem.F.plainAttrs_str PySem.F.slot_str_join PySem.F.type_str_join (join_D (G := G)) ha he (plain_base hpa _ _) few hl hs rfl) key
  | split => exact PE.weak (pe_bm PySem.F.plainAttrs_str PySem.F.slot_str_split PySem.F.type_str_split (split_D (G := G)) ha he (plain_base hpa _ _) few hl hs rfl) key
  | index => exact PE.weak (pe_bm PySem.F.plainAttrs_str PySem.F.slot_str_index PySem.F.type_str_index (index_D (G := G)) ha he (plain_base hpa _ _) few hl hs rfl) key
  | lindex => exact PE.weak (pe_bm PySem.F.plainAttrs_list PySem.F.slot_list_index PySem.F.type_list_index (lindex_D (G := G) g.K) ha he (plain_base hpa _ _) few hl hs rfl) key
  | upper => cases hm
theorem e_mt0 {m : Mt} {a : E} {a' : Expr} {apos : Pos} (hm : m.ar = 0) (ha : PE X a' (tO G (oE F cg a))) (hpa : plainB a' = true) (hl : (apos.endLine == pos.line) = true) :
    PE X (.Call (.Attribute a' m.nm apos) [] [] pos) (tE G (wE F cg (.mt m a .nil))) := by
  have key := e_mtK (F := F) (cg := cg) (es := .nil) (a := a) (m := m) g
  cases m with
  | upper =>
    refine PE.weak (pe_bm0 PySem.F.plainAttrs_str PySem.F.slot_str_upper PySem.F.type_str_upper (upper_D (G := G)) ha (plain_base hpa _ _) hl) fun σ H Q h => ?_
    obtain ⟨Z, env, ok, eo, h⟩ := h
    unfold wE at h
    refine ⟨Z, env, ok, eo, oE_mono g a env _ _ (fun d q Z1 H1 v1 x1 r1 => ?_) h⟩
    refine ⟨?_, ?_⟩
    · have q1 := q.1
      cases d <;> first | (cases q1; done) | (rw [r1.str.1]; rfl)
    · exact ⟨Z1, d, [], x1.ok, r1, .nil, wMt_mono (fun t q => kT.ext x1 ok q) _ _ _ q.2⟩
  | _ => cases hm
theorem m1_of {a' e' : Expr} {apos : Pos} {nm : Str} (hpa : plainB a' = true) (hp : plainB e' = true) (hl : (apos.endLine == pos.line) = true) : M1 X a' nm apos e' pos := by
  have hs := plain_star hp [] X.env
  exact ⟨plain_base hpa _ _, by rw [hs]; rfl, hl, by rw [hs]; rfl⟩
theorem m2_of {a' e' d' : Expr} {apos : Pos} {nm : Str} (hpa : plainB a' = true) (hp : plainB e' = true) (hd : plainB d' = true) (hl : (apos.endLine == pos.line) = true) : M2 X a' nm apos e' d' pos := by
  have hs := plain_star hp [d'] X.env
  have hs2 := plain_star hd [] X.env
  exact ⟨plain_base hpa _ _, by rw [hs, hs2]; rfl, hl, by rw [hs, hs2]; rfl⟩
theorem e_dget1 {a ke : E} {a' k' : Expr} {apos : Pos} (ha : PE X a' (tO G (oE F cg a))) (hk : PE X k' (tO G (oE F cg ke))) (hpa : plainB a' = true) (hp : plainB k' = true) (hl : (apos.endLine == pos.line) = true) :
    PE X (.Call (.Attribute a' "get" apos) [k'] [] pos) (tE G (wE F cg (.dget a ke .none))) := by
  refine PE.weak (pe_dget1 (hu_of g.room) ha hk (m1_of g hpa hp hl)) fun σ H Q h => ?_
  obtain ⟨Z, env, ok, eo, h⟩ := h
  unfold wE at h
  refine ⟨Z, env, ok, eo, oE_mono g a env _ _ (fun d q Z1 H1 v x1 r1 => ?_) h⟩
  cases d with
  | dct kvs =>
    obtain ⟨p, vs, e1, s1, l1⟩ := r1.dct x1.ok
    subst e1
    refine ⟨p, rfl, .inl ⟨_, .inl s1⟩, Z1, env, x1.ok, eo.ext x1, oE_mono g ke env _ _ (fun y q Z2 H2 w x2 r2 => ?_) q⟩
    split at q
    · rename_i key hy
      obtain ⟨ew, gk⟩ := key_rep hy r2
      subst ew
      obtain ⟨p2, vs2, e2, s2, l2⟩ := (x2.repD r1).dct x2.ok
      cases e2
      refine ⟨_, DGet.k (k := key) s2, ?_⟩
      rcases repK_val (k := key) l2 with ⟨z1, z2⟩ | ⟨d', w, z1, z2, r⟩
      · rw [z1] at q
        rw [z2]
        exact kT.d x2.ok (kT.ext (x1.trans ok x2) ok q) .non
      · rw [z1] at q
        rw [z2]
        exact kT.d x2.ok (kT.ext (x1.trans ok x2) ok q) r
    · exact False.elim q
  | _ => exact False.elim q
theorem e_dget2 {a ke de : E} {a' k' d' : Expr} {apos : Pos} (ha : PE X a' (tO G (oE F cg a))) (hk : PE X k' (tO G (oE F cg ke))) (hd : PE X d' (tE G (wE F cg de))) (hpa : plainB a' = true) (hp : plainB k' = true) (hpd : plainB d' = true) (hl : (apos.endLine == pos.line) = true) :
    PE X (.Call (.Attribute a' "get" apos) [k', d'] [] pos) (tE G (wE F cg (.dget a ke (.some de)))) := by
  refine PE.weak (pe_dget2 (hu_of g.room) ha hk hd (m2_of g hpa hp hpd hl)) fun σ H Q h => ?_
  obtain ⟨Z, env, ok, eo, h⟩ := h
  unfold wE at h
  refine ⟨Z, env, ok, eo, oE_mono g a env _ _ (fun d q Z1 H1 v x1 r1 => ?_) h⟩
  cases d with
  | dct kvs =>
    obtain ⟨p, vs, e1, s1, l1⟩ := r1.dct x1.ok
    subst e1
    refine ⟨p, rfl, .inl ⟨_, .inl s1⟩, Z1, env, x1.ok, eo.ext x1, oE_mono g ke env _ _ (fun y q Z2 H2 w x2 r2 => ?_) q⟩
    split at q
    · rename_i key hy
      obtain ⟨ew, gk⟩ := key_rep hy r2
      subst ew
      have x12 := x1.trans ok x2
      refine ⟨Z2, env, x2.ok, eo.ext x12, wE_mono g.mono de env _ _ (fun t q => ?_) q⟩
      intro Z3 H3 z x3 r3 f3
      obtain ⟨Z4, x4, r4, _⟩ := frz x3 x2.ok r3 f3
      obtain ⟨p2, vs2, e2, s2, l2⟩ := (x4.repD (x2.repD r1)).dct x4.ok
      cases e2
      refine ⟨_, DGet.k (k := key) s2, ?_⟩
      rcases repK_val (k := key) l2 with ⟨z1, z2⟩ | ⟨d', w, z1, z2, r⟩
      · rw [z1] at q
        rw [z2]
        exact kT.d x4.ok (kT.ext (x12.trans ok x4) ok q) r4
      · rw [z1] at q
        rw [z2]
        exact kT.d x4.ok (kT.ext (x12.trans ok x4) ok q) r
    · exact False.elim q
  | _ => exact False.elim q
theorem items_rep {Z : Zt} {H : Hp} {d : D} {xs : List D} {ts : List (List Nat)} {v : V} (ok : ZOk G Z H) (h : d.items = some xs) (ht : texts xs = some ts) (r : RepD G Z H d v) : ∃ l, v = .ref l ∧ (SqL X.K H l ((ts.map mkS).map V.str) ∨ SqT X.K H l ((ts.map mkS).map V.str)) ∧ xs.length = ts.length ∧ ∀ t ∈ ts, StrG t := by
  cases d with
  | tup ys =>
    cases h
    obtain ⟨p, vs, e1, f1, s1, l1⟩ := r.tup ok
    subst e1
    obtain ⟨e1, e2, e3⟩ := texts_rep l1 ht
    subst e1
    exact ⟨p, rfl, .inr (g.K ▸ s1), by rw [e2, List.length_map], e3⟩
  | lst ys =>
    cases h
    obtain ⟨p, vs, e1, s1, l1⟩ := r.lst ok
    subst e1
    obtain ⟨e1, e2, e3⟩ := texts_rep l1 ht
    subst e1
    exact ⟨p, rfl, .inl (.inl (.inl s1)), by rw [e2, List.length_map], e3⟩
  | _ => cases h
omit g in
theorem strs_back {ys : List Str} {ts : List (List Nat)} (hn : ys.Nodup) (h : ∀ x, x ∈ ys ↔ x ∈ ts.map mkS) : ∃ zs : List (List Nat), ys = zs.map mkS ∧ zs.Nodup ∧ ∀ z, z ∈ zs ↔ z ∈ ts := by
  have e : (ys.map fun s => s.cps.toList).map mkS = ys := by
    rw [List.map_map]
    conv => rhs; rw [← List.map_id ys]
    exact List.map_congr_left fun s _ => mkS_eta s
  refine ⟨ys.map fun s => s.cps.toList, e.symm, ?_, fun z => ?_⟩
  · rw [← e] at hn
    exact List.Pairwise.imp (fun hne e => hne (by rw [e])) (List.pairwise_map.mp hn)
  · rw [List.mem_map]
    constructor
    · rintro ⟨s, hs, rfl⟩
      obtain ⟨t, ht, e⟩ := List.mem_map.mp ((h s).mp hs)
      rw [← e, mkS_list]
      exact ht
    · intro hz
      exact ⟨mkS z, (h _).mpr (List.mem_map.mpr ⟨z, hz, rfl⟩), mkS_list z⟩
theorem e_sset {a : E} {a' : Expr} {p p2 q : Pos} (h1 : glbB sc "sorted" = true) (h2 : glbB sc "set" = true) (ha : PE X a' (tO G (oE F cg a))) (hp : plainB a' = true) : PE X (.Call (.Name "sorted" p) [.Call (.Name "set" p2) [a'] [] q] [] pos) (tE G (wE F cg (.sset a))) := by
  refine PE.weak (pe_sortSet g.calm (g.gl_of h1) (g.blt _ (by decide)) (g.gl_of h2) (g.blt _ (by decide)) ha (plain_star hp _ _)) fun σ H Q h => ?_
  obtain ⟨Z, env, ok, eo, h⟩ := h
  unfold wE at h
  refine ⟨Z, env, ok, eo, oE_mono g a env _ _ (fun d q Z1 H1 v x1 r1 => ?_) h⟩
  cases hi : d.items with
  | none =>
    rw [hi] at q
    exact q.elim
  | some xs =>
    rw [hi] at q
    obtain ⟨h64, ts, ht, ⟨us, hu, hus⟩, q⟩ := q
    obtain ⟨l, ev, sq, el, gs⟩ := items_rep g x1.ok hi ht r1
    subst ev
    refine ⟨l, ts.map mkS, rfl, sq, by rw [List.length_map, ← el]; exact h64, ⟨us.map mkS, by rw [List.length_map]; exact hu, fun x hx => ?_⟩, fun ys p0 hn hm hs hp0 => ?_⟩
    · obtain ⟨t, ht', rfl⟩ := List.mem_map.mp hx
      exact List.mem_map.mpr ⟨t, hus t ht', rfl⟩
    obtain ⟨zs, e, n, m⟩ := strs_back hn hm
    subst e
    exact kT.ol x1.ok (kT.ext x1 ok (q zs n m hs)) hp0 (repL_texts zs fun t ht => gs t ((m t).mp ht))
theorem e_lset {a : E} {a' : Expr} {p p2 q : Pos} (h1 : glbB sc "len" = true) (h2 : glbB sc "set" = true) (ha : PE X a' (tO G (oE F cg a))) (hp : plainB a' = true) : PE X (.Call (.Name "len" p) [.Call (.Name "set" p2) [a'] [] q] [] pos) (tE G (wE F cg (.lset a))) := by
  refine PE.weak (pe_lenSetT g.calm (g.gl_of h1) (g.blt _ (by decide)) (g.gl_of h2) (g.blt _ (by decide)) ha (plain_star hp _ _)) fun σ H Q h => ?_
  obtain ⟨Z, env, ok, eo, h⟩ := h
  unfold wE at h
  refine ⟨Z, env, ok, eo, oE_mono g a env _ _ (fun d q Z1 H1 v x1 r1 => ?_) h⟩
  cases hi : d.items with
  | none =>
    rw [hi] at q
    exact q.elim
  | some xs =>
    rw [hi] at q
    obtain ⟨h64, ts, ht, q⟩ := q
    obtain ⟨l, ev, sq, el, gs⟩ := items_rep g x1.ok hi ht r1
    subst ev
    refine ⟨l, ts.map mkS, rfl, sq, by rw [List.length_map, ← el]; exact h64, fun ys hn hm => ?_⟩
    obtain ⟨zs, e, n, m⟩ := strs_back hn hm
    subst e
    rw [List.length_map]
    exact kT.d x1.ok (kT.ext x1 ok (q zs n m)) (.int _)
end
end LC

namespace LC
open PySem L2
section
variable {G : Gx} {Z Z' : Zt} {H H' : Hp} {σ : St} {env : Env}
theorem slot_set (env : Env) (i j : Nat) (t : Option T) : slot (env.set i t) j = if i = j then (if i < env.length then t else none) else slot env j := by
  unfold slot
  by_cases h : i = j
  · subst h
    rw [if_pos rfl]
    by_cases hl : i < env.length
    · rw [List.getElem?_set_self hl, if_pos hl]; rfl
    · rw [if_neg hl, List.getElem?_eq_none (by rw [List.length_set]; omega)]; rfl
  · rw [if_neg h, List.getElem?_set_ne h]
theorem EnvOk.set {i : Nat} {t : T} {v : V} (e : EnvOk G Z H σ env) (r : RepT G Z H t v) : EnvOk G Z H (σ.set i (some v)) (env.set i (some t)) := by
  refine ⟨by rw [List.length_set, List.length_set]; exact e.len, fun j u h => ?_⟩
  rw [slot_set] at h
  by_cases hj : i = j
  · subst hj
    rw [if_pos rfl] at h
    by_cases hl : i < env.length
    · rw [if_pos hl] at h
      cases h
      exact ⟨v, List.getElem?_set_self (by rw [e.len]; exact hl), r⟩
    · rw [if_neg hl] at h; cases h
  · rw [if_neg hj] at h
    obtain ⟨w, h1, h2⟩ := e.get j u h
    exact ⟨w, by rw [List.getElem?_set_ne hj]; exact h1, h2⟩
theorem EnvOk.clear {i : Nat} (e : EnvOk G Z H σ env) : EnvOk G Z H (σ.set i none) (env.set i none) := by
  refine ⟨by rw [List.length_set, List.length_set]; exact e.len, fun j u h => ?_⟩
  rw [slot_set] at h
  by_cases hj : i = j
  · subst hj
    rw [if_pos rfl] at h
    split at h <;> cases h
  · rw [if_neg hj] at h
    obtain ⟨w, h1, h2⟩ := e.get j u h
    exact ⟨w, by rw [List.getElem?_set_ne hj]; exact h1, h2⟩
theorem EnvOk.wipe (e : EnvOk G Z H σ env) : ∀ vs : List Nat, EnvOk G Z H (L2.wipe σ vs) (wipeE env vs)
  | [] => e
  | v :: vs => (EnvOk.wipe e vs).clear
theorem wipe_get (σ : St) (j : Nat) : ∀ vs : List Nat, (L2.wipe σ vs)[j]? = if j ∈ vs then (if j < σ.length then some none else none) else σ[j]?
  | [] => by simp [L2.wipe]
  | v :: vs => by
    unfold L2.wipe
    by_cases h : v = j
    · subst h
      rw [if_pos (List.mem_cons_self ..)]
      by_cases hl : v < σ.length
      · rw [if_pos hl, List.getElem?_set_self (by rw [wipe_length]; exact hl)]
      · rw [if_neg hl, List.getElem?_eq_none (by rw [List.length_set, wipe_length]; omega)]
    · rw [List.getElem?_set_ne h, wipe_get σ j vs]
      have : (j ∈ v :: vs) = (j ∈ vs) := by
        simp only [List.mem_cons, eq_iff_iff]
        exact ⟨fun z => z.resolve_left fun e => h e.symm, .inr⟩
      simp only [this]
theorem wipe_set {σ : St} {i : Nat} {x : Option V} {vs : List Nat} (h : i ∈ vs) : L2.wipe (σ.set i x) vs = L2.wipe σ vs := by
  refine List.ext_getElem? fun j => ?_
  rw [wipe_get, wipe_get, List.length_set]
  by_cases hj : j ∈ vs
  · rw [if_pos hj, if_pos hj]
  · rw [if_neg hj, if_neg hj, List.getElem?_set_ne (fun e : i = j => hj (by rw [← e]; exact h))]
theorem wipe_wipe (σ : St) (vs : List Nat) : L2.wipe (L2.wipe σ vs) vs = L2.wipe σ vs := by
  refine List.ext_getElem? fun j => ?_
  rw [wipe_get, wipe_length, wipe_get]
  by_cases hj : j ∈ vs
  · rw [if_pos hj, if_pos hj]
  · rw [if_neg hj, if_neg hj]
end
def gNames : List Nat → TGs
  | [] => gNil
  | i :: is => gCons (gName i) (gNames is)
def gOf (K : PySem.W.Frag) : Tg → TG
  | .name i => gName i
  | .tup is => fun v σ H Q => gTup K is.length (gNames is) v σ H Q ∨ gLst K is.length (gNames is) v σ H Q
def setAll (env : Env) (is : List Nat) (ds : List D) : Env := (is.zip ds).foldl (fun e p => e.set p.1 (some (.v p.2))) env
section
variable {c : Cs} {G : Gx} {F : Nat → List D → (D → Prop) → Prop} {cg : Nat → D} {k : Nat} {sc osc : Scope} {X : Cx} {pos : Pos} (g : Good c G F cg k sc osc X)
include g
theorem gs_names : ∀ (is : List Nat) (es : List Expr), isTgs c osc is es = true → PGs X es (gNames is) ∧ (assignEach es X.env).length = is.length ∧ (assignEach es X.env).findIdx? (·.1) = none
  | [], [], _ => ⟨pgs_nil, rfl, rfl⟩
  | i :: is, .Name x p :: es, h => by
    simp only [isTgs, Bool.and_eq_true, decide_eq_true_eq] at h
    obtain ⟨⟨h1, h2⟩, h3⟩ := h
    obtain ⟨p1, p2, p3⟩ := gs_names is es h3
    obtain ⟨o1, o2⟩ := g.own x h2
    refine ⟨pgs_cons (pg_name (by rw [g.N]; exact g.nd) (by rw [g.N]; exact h1) o1 o2) p1 rfl, ?_, ?_⟩
    · show (assignEach es X.env).length + 1 = is.length + 1
      rw [p2]
    · show List.findIdx? (·.1) ((false, assign (.Name x p) X.env) :: assignEach es X.env) = none
      rw [List.findIdx?_cons]
      simp [p3]
  | [], _ :: _, h => by simp [isTgs] at h
  | _ :: _, [], h => by simp [isTgs] at h
  | _ :: _, .BoolOp .. :: _, h => by simp [isTgs] at h
  | _ :: _, .NamedExpr .. :: _, h => by simp [isTgs] at h
  | _ :: _, .BinOp .. :: _, h => by simp [isTgs] at h
  | _ :: _, .UnaryOp .. :: _, h => by simp [isTgs] at h
  | _ :: _, .Lambda .. :: _, h => by simp [isTgs] at h
  | _ :: _, .IfExp .. :: _, h => by simp [isTgs] at h
  | _ :: _, .Dict .. :: _, h => by simp [isTgs] at h
  | _ :: _, .Set .. :: _, h => by simp [isTgs] at h
  | _ :: _, .ListComp .. :: _, h => by simp [isTgs] at h
  | _ :: _, .SetComp .. :: _, h => by simp [isTgs] at h
  | _ :: _, .DictComp .. :: _, h => by simp [isTgs] at h
  | _ :: _, .GeneratorExp .. :: _, h => by simp [isTgs] at h
  | _ :: _, .Await .. :: _, h => by simp [isTgs] at h
  | _ :: _, .Yield .. :: _, h => by simp [isTgs] at h
  | _ :: _, .YieldFrom .. :: _, h => by simp [isTgs] at h
  | _ :: _, .Compare .. :: _, h => by simp [isTgs] at h
  | _ :: _, .Call .. :: _, h => by simp [isTgs] at h
  | _ :: _, .FormattedValue .. :: _, h => by simp [isTgs] at h
  | _ :: _, .JoinedStr .. :: _, h => by simp [isTgs] at h
  | _ :: _, .Constant .. :: _, h => by simp [isTgs] at h
  | _ :: _, .Attribute .. :: _, h => by simp [isTgs] at h
  | _ :: _, .Subscript .. :: _, h => by simp [isTgs] at h
  | _ :: _, .Starred .. :: _, h => by simp [isTgs] at h
  | _ :: _, .List .. :: _, h => by simp [isTgs] at h
  | _ :: _, .Tuple .. :: _, h => by simp [isTgs] at h
  | _ :: _, .Slice .. :: _, h => by simp [isTgs] at h
theorem g_tg {tg : Tg} {tg' : Expr} (h : isTg c osc tg tg' = true) : PG X tg' (gOf X.K tg) := by
  unfold isTg at h
  split at h
  · simp only [Bool.and_eq_true, decide_eq_true_eq] at h
    obtain ⟨o1, o2⟩ := g.own _ h.2
    exact pg_name (by rw [g.N]; exact g.nd) (by rw [g.N]; exact h.1) o1 o2
  · obtain ⟨p1, p2, p3⟩ := gs_names g _ _ h
    refine ⟨fun pins s σ H v u Q I r hw => ?_⟩
    rcases hw with hw | hw
    · exact (pg_tup g.calm p1 p2 p3).run pins s σ H v u Q I r hw
    · exact (pg_lst g.calm p1 p2 p3).run pins s σ H v u Q I r hw
  · cases h
end
theorem gNames_run {G : Gx} {Z : Zt} {H : Hp} {Q : St → Hp → Prop} : ∀ (is : List Nat) (ds : List D) (vs : List V) (σ : St) (env : Env), EnvOk G Z H σ env → RepL G Z ds vs → is.length = ds.length →
    (∀ σ', EnvOk G Z H σ' (setAll env is ds) → (∀ ws : List Nat, (∀ i ∈ is, i ∈ ws) → L2.wipe σ' ws = L2.wipe σ ws) → Q σ' H) → gNames is vs σ H Q
  | [], _, _, σ, env, e, .nil, _, h => ⟨rfl, h σ e fun _ _ => rfl⟩
  | i :: is, _, _, σ, env, e, .cons (d := d) (v := v) r t, hl, h => by
    refine ⟨v, _, rfl, ?_⟩
    refine gNames_run is _ _ (σ.set i (some v)) (env.set i (some (.v d))) (e.set (.v r)) t (by simpa using hl) fun σ' e' hw => h σ' e' fun ws hi => ?_
    rw [hw ws fun j hj => hi j (List.mem_cons_of_mem _ hj), wipe_set (hi i (List.mem_cons_self ..))]
  | [], _, _, _, _, _, .cons _ _, hl, _ => by simp at hl
  | _ :: _, _, _, _, _, _, .nil, hl, _ => by simp at hl
theorem gOf_run {G : Gx} {Z : Zt} {H : Hp} {Q : St → Hp → Prop} {tg : Tg} {d : D} {v : V} {σ : St} {env env' : Env} (ok : ZOk G Z H) (e : EnvOk G Z H σ env) (r : RepF G Z d v) (hw : wTg tg d env = some env')
    (h : ∀ σ', EnvOk G Z H σ' env' → (∀ ws : List Nat, (∀ i ∈ tg.slots, i ∈ ws) → L2.wipe σ' ws = L2.wipe σ ws) → Q σ' H) : gOf G.K tg v σ H Q := by
  unfold wTg at hw
  split at hw
  · cases hw
    exact h _ (e.set (.v r)) fun ws hi => wipe_set (hi _ (List.mem_singleton.mpr rfl))
  · split at hw
    · rename_i is ds hl
      cases hw
      cases r with
      | tup s r =>
        refine .inl ⟨_, _, rfl, sqT_mono ok.le s, by rw [← r.length]; exact hl.symm, ?_⟩
        exact gNames_run is ds _ σ env e r hl fun σ' e' w => h σ' e' w
    · cases hw
  · split at hw
    · rename_i is ds hl
      cases hw
      cases r with
      | lst s r =>
        refine .inr ⟨_, _, rfl, .inl (.inl (ok.le _ _ s)), by rw [← r.length]; exact hl.symm, ?_⟩
        exact gNames_run is ds _ σ env e r hl fun σ' e' w => h σ' e' w
    · cases hw
  · cases hw
structure Later (G : Gx) (Z1 : Zt) (H1 : Hp) (Z' : Zt) (H' : Hp) (B : Addr → Prop) : Prop where
  ok : ZOk G Z' H'
  fr : ∀ b o, Z1.F b = some o → Z'.F b = some o
  dk : ∀ p, Z1.dk p → Z'.dk p
  hold : ∀ b o, B b → H1 b = some o → H' b = some o
def ItOk (G : Gx) (J : It) (Z1 : Zt) (H1 : Hp) (B : Addr → Prop) (ds : List D) : Prop := ∀ i Z' H', Later G Z1 H1 Z' H' B →
  (∀ d, ds[i]? = some d → J.go i H' ∧ ∀ x H2, J.yld i H' x H2 → ∃ Z2, Ext G Z' H' Z2 H2 ∧ RepF G Z2 d x) ∧ (ds.length ≤ i → J.stop i H')
theorem it_list {G : Gx} {X : Cx} (hK : G.K = X.K) {Z1 : Zt} {H1 : Hp} {B : Addr → Prop} {a : Addr} {vs : List V} {ds : List D} (h : H1 a = some (.lst vs)) (hb : B a ∨ Z1.F a = some (.lst vs)) (r : RepL G Z1 ds vs) : ItOk G (Itl X.K a) Z1 H1 B ds := fun i Z' H' L => by
  have hH : H' a = some (.lst vs) := hb.elim (fun z => L.hold _ _ z h) fun z => L.ok.le _ _ (L.fr _ _ z)
  have r' := r.mono L.fr L.dk
  have inj : ∀ xs, SqL X.K H' a xs → xs = vs ∨ ∃ o, X.K.lookup a = some o := fun xs z => by
    rcases z with (z | ⟨o, z⟩) | ⟨o, _, _, z, _⟩
    · rw [hH] at z; cases z; exact .inl rfl
    · rw [hH] at z; cases z
    · exact .inr ⟨o, z⟩
  refine ⟨fun d hd => ?_, fun hl => ⟨vs, .inl (.inl hH), by rw [← r.length]; exact hl⟩⟩
  obtain ⟨v, h1, h2⟩ := r'.getD hd
  refine ⟨⟨vs, v, .inl (.inl hH), h1⟩, fun x H2 y => ?_⟩
  obtain ⟨e1, e2⟩ := y
  subst e1
  have e3 := e2 vs (.inl (.inl hH))
  rw [h1] at e3
  cases e3
  exact ⟨Z', .refl L.ok, h2⟩
theorem it_tup {G : Gx} {X : Cx} (hK : G.K = X.K) {Z1 : Zt} {H1 : Hp} {B : Addr → Prop} {a : Addr} {vs : List V} {ds : List D} (h : SqT G.K Z1.F a vs) (r : RepL G Z1 ds vs) : ItOk G (Itt X.K a) Z1 H1 B ds := fun i Z' H' L => by
  have hH : SqT X.K H' a vs := hK ▸ sqT_mono L.ok.le (sqT_mono L.fr h)
  have r' := r.mono L.fr L.dk
  refine ⟨fun d hd => ?_, fun hl => ⟨vs, hH, by rw [← r.length]; exact hl⟩⟩
  obtain ⟨v, h1, h2⟩ := r'.getD hd
  refine ⟨⟨vs, v, hH, h1⟩, fun x H2 y => ?_⟩
  obtain ⟨e1, e2⟩ := y
  subst e1
  have e3 := e2 vs hH
  rw [h1] at e3
  cases e3
  exact ⟨Z', .refl L.ok, h2⟩
theorem key_back {G : Gx} {Z : Zt} {k : Key} (g : KeyG k) : RepF G Z (keyD k) (kV k) := by
  cases k with
  | inl i => exact .int i
  | inr s =>
    obtain ⟨x, rfl, gx⟩ := g
    have : (keyD (.inr (mkS x))) = .str x := by
      show D.str (mkS x).cps.toList = .str x
      rw [mkS_list]
    rw [this]
    exact .str gx
theorem RepK.len {G : Gx} {Z : Zt} : ∀ {ks : List (Key × D)} {vs : List (Key × V)}, RepK G Z ks vs → ks.length = vs.length
  | _, _, .nil => rfl
  | _, _, .cons _ _ t => by rw [List.length_cons, List.length_cons, RepK.len t]
theorem RepK.at_i {G : Gx} {Z : Zt} : ∀ {ks : List (Key × D)} {vs : List (Key × V)} {i : Nat} {p : Key × D}, RepK G Z ks vs → ks[i]? = some p → KeyG p.1 ∧ ∃ v, vs[i]? = some (p.1, v)
  | _, _, _, _, .nil, e => by simp at e
  | _, _, 0, _, .cons g _ _, e => by
    simp at e
    subst e
    exact ⟨g, _, rfl⟩
  | _, _, i + 1, p, .cons _ _ t, e => by
    obtain ⟨h1, v, h2⟩ := RepK.at_i (i := i) (p := p) t (by simpa using e)
    exact ⟨h1, v, by simpa using h2⟩
theorem it_lck {G : Gx} {Z1 : Zt} {H1 : Hp} {B : Addr → Prop} {a : Addr} {o : Obj} {ks : List (Key × D)} {vs : List (Key × V)} (h : Z1.F a = some (.frz o (.dK vs))) (r : RepK G Z1 ks vs) : ItOk G (Itk a o vs) Z1 H1 B (ks.map fun p => keyD p.1) := fun i Z' H' L => by
  have hH : H' a = some (.frz o (.dK vs)) := L.ok.le _ _ (L.fr _ _ h)
  refine ⟨fun d hd => ?_, fun hl => ⟨hH, by rw [← r.len]; simpa using hl⟩⟩
  rw [List.getElem?_map] at hd
  obtain ⟨p, h1, h2⟩ := Option.map_eq_some_iff.mp hd
  obtain ⟨g, v, e⟩ := r.at_i h1
  refine ⟨⟨hH, (List.getElem?_eq_some_iff.mp e).1⟩, fun x H2 y => ?_⟩
  obtain ⟨e1, k, v2, e2, e3⟩ := y
  rw [e] at e2
  cases e2
  subst e1 e3 h2
  exact ⟨Z', .refl L.ok, key_back g⟩
theorem it_str {G : Gx} {Z1 : Zt} {H1 : Hp} {B : Addr → Prop} {z : List Nat} (gz : StrG z) : ItOk G (Its (mkS z)) Z1 H1 B (z.map fun c => .str [c]) := fun i Z' H' L => by
  have hsz : (mkS z).cps.size = z.length := mkS_len z
  refine ⟨fun d hd => ?_, fun hl => by show (mkS z).cps.size ≤ i; rw [hsz]; simpa using hl⟩
  rw [List.getElem?_map] at hd
  obtain ⟨cc, h1, h2⟩ := Option.map_eq_some_iff.mp hd
  subst h2
  have hi : i < z.length := (List.getElem?_eq_some_iff.mp h1).1
  refine ⟨by show i < (mkS z).cps.size; rw [hsz]; exact hi, fun x H2 y => ?_⟩
  obtain ⟨e1, c2, e2, e3⟩ := y
  subst e1 e3
  have e4 : (mkS z).cps[i]? = z[i]? := by
    show z.toArray[i]? = z[i]?
    simp
  rw [e4, h1] at e2
  cases e2
  exact ⟨Z', .refl L.ok, .str (gz.one (List.mem_of_getElem? h1))⟩
theorem it_range {G : Gx} {Z1 : Zt} {H1 : Hp} {B : Addr → Prop} (lo hi : Int) : ItOk G (Itr lo (hi - lo).toNat) Z1 H1 B (rangeD lo hi) := fun i Z' H' L => by
  have hl : (rangeD lo hi).length = (hi - lo).toNat := by unfold rangeD; rw [List.length_map, List.length_range]
  refine ⟨fun d hd => ?_, fun h => by show (hi - lo).toNat ≤ i; rw [← hl]; exact h⟩
  have hi2 : i < (rangeD lo hi).length := (List.getElem?_eq_some_iff.mp hd).1
  rw [hl] at hi2
  refine ⟨hi2, fun x H2 y => ?_⟩
  obtain ⟨e1, e2⟩ := y
  subst e1 e2
  unfold rangeD at hd
  rw [List.getElem?_map, List.getElem?_range hi2] at hd
  cases hd
  exact ⟨Z', .refl L.ok, .int _⟩
theorem it_rangeC {G : Gx} {Z1 : Zt} {H1 : Hp} {B : Addr → Prop} (lo c : Int) (n : Nat) : ItOk G (Itc lo c n) Z1 H1 B (rangeC lo c n) := fun i Z' H' L => by
  have hl : (rangeC lo c n).length = n := by unfold rangeC; rw [List.length_map, List.length_range]
  refine ⟨fun d hd => ?_, fun h => by show n ≤ i; rw [← hl]; exact h⟩
  have hi2 : i < (rangeC lo c n).length := (List.getElem?_eq_some_iff.mp hd).1
  rw [hl] at hi2
  refine ⟨hi2, fun x H2 y => ?_⟩
  obtain ⟨e1, e2⟩ := y
  subst e1 e2
  unfold rangeC at hd
  rw [List.getElem?_map, List.getElem?_range hi2] at hd
  cases hd
  exact ⟨Z', .refl L.ok, .int _⟩
def tI (G : Gx) (w : Env → (List D → Prop) → Prop) : TI := fun σ H R => ∃ Z env, ZOk G Z H ∧ EnvOk G Z H σ env ∧ w env (fun ds => ∀ J Z1 H1 B, Ext G Z H Z1 H1 → (∀ b, B b → Z1.nd b ∧ H1 b ≠ none) → ItOk G J Z1 H1 B ds → R J H1)
def tI0 (G : Gx) (w : Env → (List D → Prop) → Prop) : TI := fun σ H R => ∃ Z env, ZOk G Z H ∧ EnvOk G Z H σ env ∧ w env (fun ds => ∀ J Z1 H1, Ext G Z H Z1 H1 → ItOk G J Z1 H1 (fun _ => False) ds → R J H1)
def tIf (G : Gx) (it : I) (w : Env → (List D → Prop) → Prop) : TI := fun σ H R => ∃ Z env, ZOk G Z H ∧ EnvOk G Z H σ env ∧ itOk it env ∧ w env (fun ds => ∀ J Z1 H1, Ext G Z H Z1 H1 → ItOk G J Z1 H1 (fun _ => False) ds → R J H1)
def iAny (K : PySem.W.Frag) (tl : TE) : TI := fun σ H R => tl σ H fun x H1 => (∃ a, x = .ref a ∧ (∃ xs, SqL K H1 a xs) ∧ R (Itl K a) H1) ∨ (∃ a, x = .ref a ∧ (∃ xs, SqT K H1 a xs) ∧ R (Itt K a) H1) ∨ (∃ z, x = .str z ∧ R (Its z) H1) ∨ ∃ d o kvs, x = .ref d ∧ H1 d = some (.frz o (.dK kvs)) ∧ R (Itk d o kvs) H1
theorem pi_any {X : Cx} {tg l : Expr} {tl : TE} (hl : PE X l tl) : PI X tg l (iAny X.K tl) := by
  refine ⟨fun ps s σ H R I0 h0 => thn (hl.run ps s σ H _ I0 h0) fun v s1 hv => ?_⟩
  obtain ⟨x, H1, I1, r1, q1⟩ := hv
  have new1 : ∀ b ∈ [s1.heap.objs.size], FpOk X ps H1 b := fun b hb => by
    rw [List.mem_singleton.mp hb]
    exact I1.fpOk (Nat.le_refl _) (I1.hok.fresh (Nat.le_refl _))
  rcases q1 with ⟨a, e, ⟨xs, hq⟩, q⟩ | ⟨a, e, ⟨xs, hq⟩, q⟩ | ⟨z, e, q⟩ | ⟨d, o, kvs, e, hd, q⟩
  · subst e; cases r1
    obtain ⟨its, rv, pl, _⟩ := I1.list hq
    exact wpAny_pyIter_list pl.isList ⟨_, [s1.heap.objs.size], _, _, H1, rfl, I1.kept (t' := s1.toks) fun b o e => Heap.get?_push_of_some _ e, turn_list a _, ⟨_, Heap.get?_push_size _ rfl, rfl, rfl⟩, new1, q⟩
  · subst e; cases r1
    obtain ⟨its, rv, pl, _⟩ := I1.tuple hq
    exact wpAny_pyIter_tuple (show s1.heap.IsTuple a its.toArray from pl) ⟨_, [s1.heap.objs.size], _, _, H1, rfl, I1.kept (t' := s1.toks) fun b o e => Heap.get?_push_of_some _ e, turn_tuple a _, ⟨_, Heap.get?_push_size _ rfl, rfl, rfl⟩, new1, q⟩
  · subst e
    obtain ⟨t, rfl⟩ := r1
    cases hall : z.cps.all (· < 128) with
    | false => exact wpAny_pyIter_wide hall (pi_one (tk := s1.toks) I1 _ (turn_str _ z t "str_iterator" (.inr rfl)) ⟨_, Heap.get?_push_size _ rfl, rfl, rfl⟩ q)
    | true => exact wpAny_pyIter_ascii hall (pi_one (tk := s1.toks) I1 _ (turn_str _ z t "str_ascii_iterator" (.inl rfl)) ⟨_, Heap.get?_push_size _ rfl, rfl, rfl⟩ q)
  · subst e; cases r1
    obtain ⟨hs, hgd, hx, es, ep, vs, hdt, hsz, kv, hm⟩ := I1.frzK hd
    refine iter_keys hs hgd hx hdt (pi_one (tk := s1.toks) I1 _ (turn_keys _ hdt) ⟨_, Heap.get?_push_size _ rfl, rfl, ?_⟩ q)
    rw [hsz] <;> rfl
section
variable {c : Cs} {G : Gx} {F : Nat → List D → (D → Prop) → Prop} {cg : Nat → D} {k : Nat} {sc osc : Scope} {X : Cx} {pos : Pos} {tg : Expr} (g : Good c G F cg k sc osc X)
include g
theorem i_of {e : E} {e' : Expr} (he : PE X e' (tO G (oE F cg e))) : PI X tg e' (tI G (wI F cg (.of e))) := by
  refine PI.weak (pi_any he) fun σ H R h => ?_
  obtain ⟨Z, env, ok, eo, h⟩ := h
  refine ⟨Z, env, ok, eo, oE_mono g e env _ _ (fun d q Z1 H1 v x1 r1 => ?_) h⟩
  cases d with
  | tup xs =>
    obtain ⟨a, vs, e1, f1, s1, l1⟩ := r1.tup x1.ok
    subst e1
    exact .inr (.inl ⟨a, rfl, ⟨vs, g.K ▸ s1⟩, q _ Z1 H1 (fun _ => False) x1 (fun _ z => z.elim) (it_tup g.K f1 l1)⟩)
  | lst xs =>
    obtain ⟨t, e2, r2⟩ := r1
    cases r2 with
    | v r2 =>
      cases e2
      cases r2 with
      | lst s l1 => exact .inl ⟨_, rfl, ⟨_, .inl (.inl (x1.ok.le _ _ s))⟩, q _ Z1 H1 (fun _ => False) x1 (fun _ z => z.elim) (it_list g.K (x1.ok.le _ _ s) (.inr s) l1)⟩
    | @ol a ds vs hF hn hH l1 =>
      cases e2
      refine .inl ⟨a, rfl, ⟨_, .inl (.inl hH)⟩, q _ Z1 H1 (fun b => b = a) x1 (fun b z => ?_) (it_list g.K hH (.inl rfl) l1)⟩
      rw [z]
      exact ⟨hn, by rw [hH]; exact fun z => nomatch z⟩
    | od => cases e2
    | op => cases e2
    | ob => cases e2
  | str z =>
    obtain ⟨e1, gz⟩ := r1.str
    subst e1
    exact .inr (.inr (.inl ⟨_, rfl, q _ Z1 H1 (fun _ => False) x1 (fun _ z => z.elim) (it_str gz)⟩))
  | lck kvs =>
    obtain ⟨a, o, vs, e1, f1, s1, l1⟩ := r1.lck x1.ok
    subst e1
    exact .inr (.inr (.inr ⟨a, o, vs, rfl, s1, q _ Z1 H1 (fun _ => False) x1 (fun _ z => z.elim) (it_lck f1 l1)⟩))
  | _ => exact False.elim q
theorem if_of {e : E} {e' : Expr} (he : PE X e' (tE G (wE F cg e))) : PI X tg e' (tIf G (.of e) (wI F cg (.of e))) := by
  refine PI.weak (pi_any he) fun σ H R h => ?_
  obtain ⟨Z, env, ok, eo, fz, h⟩ := h
  have h' : wE F cg e env (fun t => match walked t.d with | some ds => ∀ J Z1 H1, Ext G Z H Z1 H1 → ItOk G J Z1 H1 (fun _ => False) ds → R J H1 | none => False) := by
    unfold wI wOp at h
    cases e with
    | var i =>
      unfold wE
      unfold itOk eFz at fz
      simp only at fz h
      revert h fz
      cases slot env i with
      | none => exact fun h _ => h
      | some t =>
        cases t with
        | v d => exact fun _ h => h
        | ol => exact fun fz _ => fz
        | od => exact fun fz _ => fz
        | op => exact fun fz _ => fz
        | ob => exact fun fz _ => fz
    | _ => exact h
  refine ⟨Z, env, ok, eo, wE_mono g.mono e env _ _ (fun t q => ?_) h'⟩
  intro Z0 H1 v x0 r0 f0
  obtain ⟨Z1, x1, r1, _⟩ := frz x0 ok r0 f0
  revert q r1
  cases t.d with
  | tup xs =>
    intro q r1
    cases r1 with
    | tup s l1 => exact .inr (.inl ⟨_, rfl, ⟨_, g.K ▸ sqT_mono x1.ok.le s⟩, q _ Z1 H1 x1 (it_tup g.K s l1)⟩)
  | lst xs =>
    intro q r1
    cases r1 with
    | lst s l1 => exact .inl ⟨_, rfl, ⟨_, .inl (.inl (x1.ok.le _ _ s))⟩, q _ Z1 H1 x1 (it_list g.K (x1.ok.le _ _ s) (.inr s) l1)⟩
  | str z =>
    intro q r1
    cases r1 with
    | str gz => exact .inr (.inr (.inl ⟨_, rfl, q _ Z1 H1 x1 (it_str gz)⟩))
  | lck kvs =>
    intro q r1
    cases r1 with
    | lck s l1 => exact .inr (.inr (.inr ⟨_, _, _, rfl, x1.ok.le _ _ s, q _ Z1 H1 x1 (it_lck s l1)⟩))
  | _ => exact fun q _ => False.elim q
theorem i_of0 {it : I} {e' : Expr} (h : PI X tg e' (tI0 G (wI F cg it))) : PI X tg e' (tI G (wI F cg it)) := PI.weak h fun σ H R h => by
  obtain ⟨Z, env, ok, eo, h⟩ := h
  exact ⟨Z, env, ok, eo, wI_mono g.mono it env _ _ (fun ds q J Z1 H1 x hi => q J Z1 H1 _ x (fun _ z => z.elim) hi) h⟩
theorem if_of0 {it : I} {e' : Expr} (h : PI X tg e' (tI0 G (wI F cg it))) : PI X tg e' (tIf G it (wI F cg it)) := PI.weak h fun σ H R h => by
  obtain ⟨Z, env, ok, eo, _, h⟩ := h
  exact ⟨Z, env, ok, eo, h⟩
theorem i_range1 {a : E} {a' : Expr} {p : Pos} (h1 : glbB sc "range" = true) (ha : PE X a' (tO G (oE F cg a))) (hp : plainB a' = true) : PI X tg (.Call (.Name "range" p) [a'] [] pos) (tI0 G (wI F cg (.range1 a))) := by
  refine PI.weak (pi_range1 (g.gl_of h1) (g.blt _ (by decide)) (pa_cons ha pa_nil (plain_star hp _ _)) (plain_star hp _ _)) fun σ H R h => ?_
  obtain ⟨Z, env, ok, eo, h⟩ := h
  refine ⟨Z, env, ok, eo, oE_mono g a env _ _ (fun d q Z1 H1 v x1 r1 => ?_) h⟩
  cases d with
  | int i =>
    have e := r1.int
    subst e
    refine ⟨i, rfl, q.1.1, q.1.2, q.2 _ Z1 H1 x1 ?_⟩
    have := it_range (G := G) (Z1 := Z1) (H1 := H1) (B := fun _ => False) 0 i
    rw [Int.sub_zero] at this
    exact this
  | _ => exact False.elim q
theorem i_range2 {a b : E} {a' b' : Expr} {p : Pos} (h1 : glbB sc "range" = true) (ha : PE X a' (tO G (oE F cg a))) (hb : PE X b' (tO G (oE F cg b))) (hp : plainB a' = true) (hp2 : plainB b' = true) : PI X tg (.Call (.Name "range" p) [a', b'] [] pos) (tI0 G (wI F cg (.range2 a b))) := by
  refine PI.weak (pi_range2 (g.gl_of h1) (g.blt _ (by decide)) (pa_cons ha (pa_cons hb pa_nil (plain_star hp2 _ _)) (plain_star hp _ _)) (by rw [plain_star hp, plain_star hp2]; rfl) (plain_star hp2 _ _)) fun σ H R h => ?_
  obtain ⟨Z, env, ok, eo, h⟩ := h
  refine ⟨Z, env, ok, eo, oE_mono g a env _ _ (fun d q Z1 H1 v x1 r1 => ?_) h⟩
  refine ⟨Z1, env, x1.ok, eo.ext x1, oE_mono g b env _ _ (fun e q Z2 H2 w x2 r2 => ?_) q⟩
  cases d with
  | int i =>
    cases e with
    | int j =>
      have e1 := r1.int
      have e2 := r2.int
      subst e1 e2
      exact ⟨i, j, rfl, q.1, q.2 _ Z2 H2 (x1.trans ok x2) (it_range i j)⟩
    | _ => exact False.elim q
  | _ => exact False.elim q
theorem i_range3 {a b d : E} {a' b' d' : Expr} {p : Pos} (h1 : glbB sc "range" = true) (ha : PE X a' (tO G (oE F cg a))) (hb : PE X b' (tO G (oE F cg b))) (hd : PE X d' (tO G (oE F cg d))) (hp : plainB a' = true) (hp2 : plainB b' = true) (hp3 : plainB d' = true) : PI X tg (.Call (.Name "range" p) [a', b', d'] [] pos) (tI0 G (wI F cg (.range3 a b d))) := by
  refine PI.weak (pi_range3 (g.gl_of h1) (g.blt _ (by decide)) (pa_cons ha (pa_cons hb (pa_cons hd pa_nil (plain_star hp3 _ _)) (plain_star hp2 _ _)) (plain_star hp _ _)) (plain_star hp _ _) (by rw [plain_star hp2, plain_star hp3]; rfl)) fun σ H R h => ?_
  obtain ⟨Z, env, ok, eo, h⟩ := h
  unfold wI at h
  refine ⟨Z, env, ok, eo, oE_mono g a env _ _ (fun d q Z1 H1 v x1 r1 => ?_) h⟩
  refine ⟨Z1, env, x1.ok, eo.ext x1, oE_mono g b env _ _ (fun e q Z2 H2 w x2 r2 => ?_) q⟩
  refine ⟨Z2, env, x2.ok, (eo.ext x1).ext x2, oE_mono g _ env _ _ (fun f q Z3 H3 w x3 r3 => ?_) q⟩
  split at q
  · have e1 := r1.int
    have e2 := r2.int
    have e3 := r3.int
    subst e1 e2 e3
    obtain ⟨n, q1, q2⟩ := q
    exact ⟨_, _, _, n, rfl, q1, q2 _ Z3 H3 ((x1.trans ok x2).trans ok x3) (it_rangeC _ _ n)⟩
  · exact False.elim q
end
end LC

namespace LC
open PySem L2
theorem Ext.put {G : Gx} {Z0 Z : Zt} {H0 H : Hp} (x : Ext G Z0 H0 Z H) {a : Addr} {o : HO} (h0 : H0 a = none) (hF : Z.F a = none) (hn : Z.nd a) : Ext G Z0 H0 Z (upd H a o) := by
  refine ⟨⟨fun b u e => ?_, fun y c e => ?_, x.ok.dj⟩, x.fr, x.dk, fun b u e n => ?_, x.newF, x.newD⟩
  · by_cases hb : b = a
    · subst hb; rw [hF] at e; cases e
    · rw [upd_ne hb]; exact x.ok.le b u e
  · obtain ⟨h1, h2, h3⟩ := x.ok.dk y c e
    obtain ⟨n1, n2⟩ := hn (y, c) e
    exact ⟨G.loc _ _ _ _ h1 (upd_ne (Ne.symm n1)) (upd_ne (Ne.symm n2)), h2, h3⟩
  · by_cases hb : b = a
    · subst hb; rw [h0] at e; cases e
    · rw [upd_ne hb]; exact x.keep b u e n
def tTs (G : Gx) (w : Env → (Bool → Prop) → Prop) : TT := fun σ H Q => ∃ Z env, ZOk G Z H ∧ EnvOk G Z H σ env ∧ w env (fun b => ∀ Z' H', Ext G Z H Z' H' → Q b H')
section
variable {c : Cs} {G : Gx} {F : Nat → List D → (D → Prop) → Prop} {cg : Nat → D} {k : Nat} {sc osc : Scope} {X : Cx} {pos : Pos} (g : Good c G F cg k sc osc X)
theorem PTs.weak {ifs : List Expr} {t t' : TT} (h : PTs X ifs t) (w : ∀ σ H Q, t' σ H Q → t σ H Q) : PTs X ifs t' := ⟨fun pins s σ H Q I q => h.run pins s σ H Q I (w σ H Q q)⟩
theorem c_nil : PTs X [] (tTs G (wCs F cg .nil)) := PTs.weak pts_nil fun σ H Q h => by
  obtain ⟨Z, env, ok, eo, h⟩ := h
  exact h _ _ (.refl ok)
theorem c_one {e : E} {e' : Expr} (h : PT X e' (tT G (wE F cg e))) : PTs X [e'] (tTs G (wCs F cg (.cons e .nil))) := PTs.weak (pts_one h) fun σ H Q h => h
include g
theorem Good.blk {own : List (Str × Nat)} {scope : Scope} (hb : blkC c.N sc scope own = true) (s : Shared) (H : Hp) (C : Addr) (cl : List (Str × Addr)) (fp : List Addr) :
    Good c G F cg k (relS scope sc) scope (X.blk s H scope (compEnvC scope cl C X.env) fp) := by
  refine ⟨g.N, g.nd, ?_, fun x hx => ?_, g.K, g.calm, g.room, g.blt, g.gl, g.fn, g.fo, g.mono, g.lf, g.cl⟩
  · rw [← g.sc]
    rfl
  · have e : (X.blk s H scope (compEnvC scope cl C X.env) fp).env.scope.names.lookup x = scope.names.lookup x ∧ (scope.names.lookup x = some .local ∨ scope.names.lookup x = some .cell) := by
      rcases locB_of hx with z | z
      · exact ⟨by rw [z]; exact lookup_relS_keep (sc := X.env.scope) (by decide) z, .inl z⟩
      · exact ⟨by rw [z]; exact lookup_relS_keep (sc := X.env.scope) (by decide) z, .inr z⟩
    obtain ⟨e1, e2⟩ := e
    refine ⟨?_, ?_⟩
    · unfold L2.Loc
      rw [e1]
      exact e2
    · rcases e2 with z | z
      · exact .inr (by rw [e1, z])
      · refine .inl ?_
        show (scope.names.lookup x == some .cell) = true
        rw [z]
        rfl
theorem lc_read {elt : E} {tg : Tg} {it : I} {cond : Es} {own : List (Str × Nat)} (hsl : (tg.slots.all fun i => (own.map (·.2)).contains i) = true) {σ : St} {H : Hp} {Q : VK} (h : tE G (wE F cg (.lc elt tg it cond own)) σ H Q) :
    tLc (tI G (wI F cg it)) (gOf X.K tg) (tTs G (wCs F cg cond)) (tE G (wE F cg elt)) (own.map (·.2)) σ H Q := by
  obtain ⟨Z, env, ok, eo, h⟩ := h
  unfold wE at h
  refine ⟨Z, env, ok, eo, wI_mono g.mono it env _ _ (fun ds q J Z1 H1 B x1 hB hJ L0 hD => ?_) h⟩
  obtain ⟨hz, q⟩ := q
  have hsl' : ∀ i ∈ tg.slots, i ∈ own.map (·.2) := fun i hi => by
    have := List.all_eq_true.mp hsl i hi
    simpa using this
  generalize hf : (fun (d : D) (k : Option D → Prop) => match wTg tg d (wipeE env (own.map (·.2))) with
      | some env' => wCs F cg cond env' fun t => if t = true then wE F cg elt env' fun x => k (some x.d) else k none
      | none => False) = f at q
  have ok1 := x1.ok
  refine ⟨fun i m H' => i ≤ ds.length ∧ m = ds.length - i ∧ ∃ Z' acc accD, Ext G Z1 H1 Z' H' ∧ Z'.F L0 = none ∧ Z'.nd L0 ∧ H' L0 = some (.lst acc) ∧ RepL G Z' accD acc ∧ accD.length ≤ i ∧ wLc f (ds.drop i) accD (fun acc => kT G Z H Q (.ol acc)), ?_, ?_⟩
  · exact ⟨ds.length, Nat.zero_le _, rfl, Z1, [], [], .own ok1 hD, ok1.freeF hD, ok1.ndOf hD, upd_same, .nil, Nat.le_refl _, q⟩
  · rintro i m H' ⟨hi, rfl, Z', acc, accD, x', hF, hnd, hDl, ra, hal, q⟩
    have ok' := x'.ok
    have L : Later G Z1 H1 Z' H' B := ⟨ok', x'.fr, x'.dk, fun b o hb e => x'.keep b o e (hB b hb).1⟩
    obtain ⟨go, stop⟩ := hJ i Z' H' L
    by_cases hlt : i < ds.length
    · have hget : ds[i]? = some ds[i] := List.getElem?_eq_getElem hlt
      rw [List.drop_eq_getElem_cons hlt] at q
      obtain ⟨jg, jy⟩ := go _ hget
      refine .inr ⟨jg, fun H2 => ∃ Z2 acc2 accD2, Ext G Z1 H1 Z2 H2 ∧ Z2.F L0 = none ∧ Z2.nd L0 ∧ H2 L0 = some (.lst acc2) ∧ RepL G Z2 accD2 acc2 ∧ accD2.length ≤ i + 1 ∧ wLc f (ds.drop (i + 1)) accD2 (fun acc => kT G Z H Q (.ol acc)), fun H2 hN => ?_, fun x H2 hy => ?_⟩
      · obtain ⟨Z2, a2, d2, r⟩ := hN
        exact ⟨ds.length - (i + 1), by omega, hlt, rfl, Z2, a2, d2, r⟩
      · obtain ⟨Z2, x2, r2⟩ := jy x H2 hy
        have hD' : H' L0 ≠ none := by rw [hDl]; exact fun z => nomatch z
        have hF2 := x2.freeF hF hD'
        have hn2 := x2.nd hD' hnd
        have hD2 := x2.keep L0 _ hDl hnd
        have q : f ds[i] fun r => match r with
          | some x => wLc f (ds.drop (i + 1)) (accD ++ [x]) (fun acc => kT G Z H Q (.ol acc))
          | none => wLc f (ds.drop (i + 1)) accD (fun acc => kT G Z H Q (.ol acc)) := q
        rw [← hf] at q
        cases hw : wTg tg ds[i] (wipeE env (own.map (·.2))) with
        | none => rw [hw] at q; exact q.elim
        | some env' =>
          rw [hw] at q
          dsimp only at q
          rw [hf] at q
          have xx : Ext G Z H Z2 H2 := (x1.trans ok x').trans ok x2
          refine g.K ▸ gOf_run x2.ok ((eo.ext xx).wipe (own.map (·.2))) r2 hw fun σ' e' hwp => ⟨?_, ?_⟩
          · rw [hwp _ hsl', wipe_wipe]
          · refine ⟨Z2, env', x2.ok, e', wCs_mono g.mono cond env' _ _ (fun b q Z3 H3 x3 => ?_) q⟩
            have hF3 := x3.freeF hF2 (by rw [hD2]; exact fun z => nomatch z)
            have hn3 := x3.nd (by rw [hD2]; exact fun z => nomatch z) hn2
            have hD3 := x3.keep L0 _ hD2 hn2
            have x13 : Ext G Z1 H1 Z3 H3 := (x'.trans ok1 x2).trans ok1 x3
            cases b with
            | false =>
              rw [if_neg (by decide)] at q
              refine L2.iteF ?_
              exact ⟨Z3, acc, accD, x13, hF3, hn3, hD3, (x2.trans ok' x3).repL ra, Nat.le_succ_of_le hal, q⟩
            | true =>
              rw [if_pos rfl] at q
              refine L2.iteT ?_
              refine ⟨Z3, env', x3.ok, e'.ext x3, wE_mono g.mono elt env' _ _ (fun t q => ?_) q⟩
              intro Z4 H4 y x4 r4 f4
              obtain ⟨Z5, x5, r5, _⟩ := frz x4 x3.ok r4 f4
              have hF5 := x5.freeF hF3 (by rw [hD3]; exact fun z => nomatch z)
              have hn5 := x5.nd (by rw [hD3]; exact fun z => nomatch z) hn3
              have hD5 := x5.keep L0 _ hD3 hn3
              have ra5 := x5.repL ((x2.trans ok' x3).repL ra)
              refine ⟨acc, hD5, ?_, Z5, acc ++ [y], accD ++ [t.d], (x13.trans ok1 x5).put hD hF5 hn5, hF5, hn5, upd_same, ra5.append (.cons r5 .nil), ?_, q⟩
              · rw [← ra.length, szl]; omega
              · rw [List.length_append, List.length_singleton]; omega
    · have hie : i = ds.length := by omega
      subst hie
      rw [List.drop_length] at q
      exact .inl ⟨stop (Nat.le_refl _), q Z' H' _ (x1.trans ok x') (.ol hF hnd hDl ra) (x1.free ok hD)⟩
theorem e_lc {elt : E} {tg : Tg} {it : I} {cond : Es} {own : List (Str × Nat)} {elt' tg' it' : Expr} {ifs' : List Expr} {scope : Scope} (hb : blkC c.N sc scope own = true) (hsl : (tg.slots.all fun i => (own.map (·.2)).contains i) = true) (hi : PI X tg' it' (tI G (wI F cg it))) (hg : isTg c scope tg tg' = true)
    (ht : ∀ Y, Good c G F cg k (relS scope sc) scope Y → PTs Y ifs' (tTs G (wCs F cg cond))) (he : ∀ Y, Good c G F cg k (relS scope sc) scope Y → PE Y elt' (tE G (wE F cg elt))) (hpi : plainB it' = true) :
    PE X (.ListComp elt' [⟨tg', it', ifs', 0⟩] scope pos) (tE G (wE F cg (.lc elt tg it cond own))) :=
  PE.weak (pe_lc g.calm (by rw [g.N]; exact g.nd) hi (by rw [g.N, g.sc]; exact blkOk_by hb) (fun s H C cl fp => g_tg (g.blk hb s H C cl fp) hg) (fun s H C cl fp => ht _ (g.blk hb s H C cl fp)) (fun s H C cl fp => he _ (g.blk hb s H C cl fp)) (plain_fold hpi _)) fun σ H Q h => lc_read g hsl h
structure EnvS (G : Gx) (H0 : Hp) (Z : Zt) (H : Hp) (σ : St) (env : Env) : Prop where
  ok : EnvOk G Z H σ env
  own : ∀ i t a, slot env i = some t → T.own t = true → σ[i]? = some (some (.ref a)) → H0 a = none
  inj : ∀ i j t u a, i ≠ j → slot env i = some t → slot env j = some u → T.own t = true → T.own u = true → σ[i]? = some (some (.ref a)) → σ[j]? ≠ some (some (.ref a))
structure Grow (Z Z' : Zt) : Prop where
  fr : ∀ b o, Z.F b = some o → Z'.F b = some o
  dk : ∀ p, Z.dk p → Z'.dk p
omit g in
theorem Grow.trans {Z Z1 Z2 : Zt} (a : Grow Z Z1) (b : Grow Z1 Z2) : Grow Z Z2 := ⟨fun x o e => b.fr x o (a.fr x o e), fun p e => b.dk p (a.dk p e)⟩
omit g in
theorem Grow.refl (Z : Zt) : Grow Z Z := ⟨fun _ _ e => e, fun _ e => e⟩
omit g in
theorem Ext.grow {Z Z' : Zt} {H H' : Hp} (x : Ext G Z H Z' H') : Grow Z Z' := ⟨x.fr, x.dk⟩
def kS (G : Gx) (Z0 : Zt) (H0 : Hp) (Z : Zt) (D : Ends) : Kn :=
  ⟨fun env' => ∀ Z' H' σ', Ext G Z0 H0 Z' H' → Grow Z Z' → EnvS G H0 Z' H' σ' env' → D.nx σ' H', fun d => ∀ Z' H' v, Ext G Z0 H0 Z' H' → RepF G Z' d v → D.rt v H'⟩
def tS (G : Gx) (Z0 : Zt) (H0 : Hp) (w : Env → Kn → Prop) : TS := fun D σ H => ∃ Z env, Ext G Z0 H0 Z H ∧ EnvS G H0 Z H σ env ∧ w env (kS G Z0 H0 Z D)
def tB (G : Gx) (Z0 : Zt) (H0 : Hp) (w : Env → Kn → Prop) : TS := fun D σ H => D.ct = D.nx ∧ tS G Z0 H0 w D σ H
end
section
variable {G : Gx}
theorem EnvS.put {H0 : Hp} {Z : Zt} {H : Hp} {σ : St} {env : Env} {i : Nat} {t t' : T} {a : Addr} {o : HO} (es : EnvS G H0 Z H σ env) (ht : slot env i = some t) (ho : T.own t = true) (ho' : T.own t' = true) (e1 : σ[i]? = some (some (.ref a))) (r' : RepT G Z (upd H a o) t' (.ref a)) : EnvS G H0 Z (upd H a o) σ (env.set i (some t')) := by
  have keepT : ∀ j u w, j ≠ i → slot env j = some u → σ[j]? = some (some w) → RepT G Z H u w → RepT G Z (upd H a o) u w := fun j u w hj hu hσ ru => by
    cases ru with
    | v ru => exact .v ru
    | @ol b _ _ k1 k2 k3 k4 =>
      have nb : b ≠ a := fun z => es.inj i j _ _ a (Ne.symm hj) ht hu ho rfl e1 (by rw [← z]; exact hσ)
      exact .ol k1 k2 (by rw [upd_ne nb]; exact k3) k4
    | @od b _ _ k1 k2 k3 k4 =>
      have nb : b ≠ a := fun z => es.inj i j _ _ a (Ne.symm hj) ht hu ho rfl e1 (by rw [← z]; exact hσ)
      exact .od k1 k2 (by rw [upd_ne nb]; exact k3) k4
    | @op b _ _ kp k1 k2 k3 k4 =>
      have nb : b ≠ a := fun z => es.inj i j _ _ a (Ne.symm hj) ht hu ho rfl e1 (by rw [← z]; exact hσ)
      exact .op kp k1 k2 (by rw [upd_ne nb]; exact k3) k4
    | @ob b C dx c ks fs kp k1 k2 k3 kc k4 =>
      have nb : b ≠ a := fun z => es.inj i j _ _ a (Ne.symm hj) ht hu ho rfl e1 (by rw [← z]; exact hσ)
      exact .ob kp k1 k2 (by rw [upd_ne nb]; exact k3) kc k4
  have sl : ∀ j u, slot (env.set i (some t')) j = some u → (j = i ∧ u = t') ∨ (j ≠ i ∧ slot env j = some u) := fun j u h => by
    rw [slot_set] at h
    by_cases hj : i = j
    · rw [if_pos hj] at h
      split at h
      · cases h; exact .inl ⟨hj.symm, rfl⟩
      · cases h
    · rw [if_neg hj] at h; exact .inr ⟨fun z => hj z.symm, h⟩
  have h0 := es.own i t a ht ho e1
  refine ⟨⟨by rw [List.length_set]; exact es.ok.len, fun j u hj => ?_⟩, fun j u b hj ho hσ => ?_, fun j l u w b hjl hj hl2 ho1 ho2 h5 h6 => ?_⟩
  · rcases sl j u hj with ⟨ej, eu⟩ | ⟨nj, hj⟩
    · rw [ej, eu]
      exact ⟨_, e1, r'⟩
    · obtain ⟨w, k1, k2⟩ := es.ok.get j u hj
      exact ⟨w, k1, keepT j u w nj hj k1 k2⟩
  · rcases sl j u hj with ⟨ej, eu⟩ | ⟨nj, hj⟩
    · rw [ej, e1] at hσ
      cases hσ
      exact h0
    · exact es.own j u b hj ho hσ
  · rcases sl j u hj with ⟨ej, eu⟩ | ⟨nj, hj⟩
    · rcases sl l w hl2 with ⟨el, ew⟩ | ⟨nl, hl2⟩
      · exact hjl (ej.trans el.symm)
      · rw [ej] at h5
        exact es.inj i l _ w b (Ne.symm nl) ht hl2 ho ho2 h5 h6
    · rcases sl l w hl2 with ⟨el, ew⟩ | ⟨nl, hl2⟩
      · rw [el] at h6
        exact es.inj j i u _ b nj hj ht ho1 ho h5 h6
      · exact es.inj j l u w b hjl hj hl2 ho1 ho2 h5 h6
theorem repK_any {Z : Zt} {k : Key} : ∀ {ds : List (Key × D)} {vs : List (Key × V)}, RepK G Z ds vs → (ds.any fun kv => decide (kv.1 = k)) = (vs.any fun kv => decide (kv.1 = k))
  | _, _, .nil => rfl
  | _, _, .cons _ _ t => by
    rw [List.any_cons, List.any_cons, repK_any t]
theorem repK_map {Z : Zt} {k : Key} {d : D} {v : V} (r : RepF G Z d v) : ∀ {ds : List (Key × D)} {vs : List (Key × V)}, RepK G Z ds vs → RepK G Z (ds.map fun kv => if kv.1 = k then (kv.1, d) else kv) (vs.map fun kv => if kv.1 = k then (kv.1, v) else kv)
  | _, _, .nil => .nil
  | _, _, @RepK.cons _ _ k' _ _ _ _ g r' t => by
    rw [List.map_cons, List.map_cons]
    by_cases h : k' = k
    · simp only [h, if_true]
      rw [h] at g
      exact .cons g r (repK_map r t)
    · simp only [h, if_false]
      exact .cons g r' (repK_map r t)
theorem repK_app {Z : Zt} {k : Key} {d : D} {v : V} (gk : KeyG k) (r : RepF G Z d v) : ∀ {ds : List (Key × D)} {vs : List (Key × V)}, RepK G Z ds vs → RepK G Z (ds ++ [(k, d)]) (vs ++ [(k, v)])
  | _, _, .nil => .cons gk r .nil
  | _, _, .cons g r' t => .cons g r' (repK_app gk r t)
theorem repK_put {Z : Zt} {k : Key} {d : D} {v : V} {ds : List (Key × D)} {vs : List (Key × V)} (gk : KeyG k) (r : RepF G Z d v) (h : RepK G Z ds vs) : RepK G Z (kput ds k d) (putK vs k v) := by
  unfold kput putK
  rw [repK_any h]
  split
  · exact repK_map r h
  · exact repK_app gk r h
theorem repK_len {Z : Zt} : ∀ {ds : List (Key × D)} {vs : List (Key × V)}, RepK G Z ds vs → ds.length = vs.length
  | _, _, .nil => rfl
  | _, _, .cons _ _ t => by rw [List.length_cons, List.length_cons, repK_len t]
end
end LC

namespace LC
open PySem L2
section
variable {c : Cs} {G : Gx} {F : Nat → List D → (D → Prop) → Prop} {cg : Nat → D} {k : Nat} {sc osc : Scope} {X : Cx} {pos : Pos} {Z0 : Zt} {H0 : Hp}
theorem EnvS.ext {Z Z1 : Zt} {H H1 : Hp} {σ : St} {env : Env} (e : EnvS G H0 Z H σ env) (x : Ext G Z H Z1 H1) : EnvS G H0 Z1 H1 σ env := ⟨e.ok.ext x, e.own, e.inj⟩
theorem own_there {Z : Zt} {H : Hp} {t : T} {a : Addr} (h : T.own t = true) (r : RepT G Z H t (.ref a)) : H a ≠ none ∧ Z.F a = none ∧ Z.nd a := by
  cases r with
  | v r => cases h
  | ol hF hn hH _ => exact ⟨(by rw [hH]; exact fun z => nomatch z), hF, hn⟩
  | od hF hn hH _ => exact ⟨(by rw [hH]; exact fun z => nomatch z), hF, hn⟩
  | op _ hF hn hH _ => exact ⟨(by rw [hH]; exact fun z => nomatch z), hF, hn⟩
  | ob _ hF hn hH _ _ => exact ⟨(by rw [hH]; exact fun z => nomatch z), hF, hn⟩
theorem EnvS.set {Z : Zt} {H : Hp} {σ : St} {env : Env} {i : Nat} {t : T} {v : V} (e : EnvS G H0 Z H σ env) (r : RepT G Z H t v)
    (ho : T.own t = true → ∀ a, v = .ref a → H0 a = none ∧ ∀ j u, j ≠ i → slot env j = some u → T.own u = true → σ[j]? ≠ some (some (.ref a))) : EnvS G H0 Z H (σ.set i (some v)) (env.set i (some t)) := by
  have hs : ∀ j u, slot (env.set i (some t)) j = some u → (j = i ∧ u = t ∧ i < env.length) ∨ (j ≠ i ∧ slot env j = some u) := fun j u h => by
    rw [slot_set] at h
    by_cases hj : i = j
    · rw [if_pos hj] at h
      by_cases hl : i < env.length
      · rw [if_pos hl] at h; cases h; exact .inl ⟨hj.symm, rfl, hl⟩
      · rw [if_neg hl] at h; cases h
    · rw [if_neg hj] at h
      exact .inr ⟨fun z => hj z.symm, h⟩
  have hv : ∀ j a, j ≠ i → (σ.set i (some v))[j]? = some (some (V.ref a)) → σ[j]? = some (some (.ref a)) := fun j a hj h => by
    rw [List.getElem?_set_ne (Ne.symm hj)] at h; exact h
  have hvi : i < env.length → ∀ a, (σ.set i (some v))[i]? = some (some (V.ref a)) → v = .ref a := fun hl a h => by
    rw [List.getElem?_set_self (by rw [e.ok.len]; exact hl)] at h
    exact Option.some.inj (Option.some.inj h)
  refine ⟨e.ok.set r, fun j u a h1 h2 h3 => ?_, fun j l u w a hjl h1 h2 h3 h4 h5 h6 => ?_⟩
  · rcases hs j u h1 with ⟨rfl, rfl, hl⟩ | ⟨hj, h1⟩
    · exact (ho h2 a (hvi hl a h3)).1
    · exact e.own j u a h1 h2 (hv j a hj h3)
  · rcases hs j u h1 with ⟨ej, eu, hl⟩ | ⟨hj, k1⟩
    · rcases hs l w h2 with ⟨e1, _, _⟩ | ⟨hl2, k2⟩
      · exact hjl (ej.trans e1.symm)
      · rw [eu] at h3
        rw [ej] at h5
        exact (ho h3 a (hvi hl a h5)).2 l w hl2 k2 h4 (hv l a hl2 h6)
    · rcases hs l w h2 with ⟨el, ew, hl⟩ | ⟨hl2, k2⟩
      · rw [ew] at h4
        rw [el] at h6
        exact (ho h4 a (hvi hl a h6)).2 j u hj k1 h3 (hv j a hj h5)
      · exact e.inj j l u w a hjl k1 k2 h3 h4 (hv j a hj h5) (hv l a hl2 h6)
theorem EnvS.store {Z Z1 : Zt} {H H1 : Hp} {σ : St} {env : Env} {i : Nat} {t : T} {v : V} (ok0 : ZOk G Z0 H0) (x0 : Ext G Z0 H0 Z H) (e : EnvS G H0 Z H σ env) (x : Ext G Z H Z1 H1) (r : RepT G Z1 H1 t v) (f : Fresh H t v) : EnvS G H0 Z1 H1 (σ.set i (some v)) (env.set i (some t)) := by
  refine (e.ext x).set r fun ho a ea => ?_
  subst ea
  have fr : H a = none := by
    cases t with
    | v d => cases ho
    | ol d => exact f
    | od d => exact f
    | op d => exact f
    | ob c d => exact f
  refine ⟨x0.free ok0 fr, fun j u _ hj hu z => ?_⟩
  obtain ⟨w, h1, h2⟩ := e.ok.get j u hj
  rw [z] at h1
  cases h1
  exact (own_there hu h2).1 fr
theorem kS.le {Z Z1 : Zt} {D : Ends} (gr : Grow Z Z1) : Kn.Le (kS G Z0 H0 Z D) (kS G Z0 H0 Z1 D) := ⟨fun env q Z' H' σ' x gr' e => q Z' H' σ' x (gr.trans gr') e, fun d q => q⟩
variable (g : Good c G F cg k sc osc X) (ok0 : ZOk G Z0 H0)
include g ok0
theorem s_asg0 {i : Nat} {e : E} {D : Ends} {σ : St} {H : Hp} (h : tS G Z0 H0 (wS F cg (.asg i e)) D σ H) : tAsg (tE G (wE F cg e)) (gName i) D σ H := by
  obtain ⟨Z, env, x0, es, h⟩ := h
  refine ⟨Z, env, x0.ok, es.ok, wE_mono g.mono e env _ _ (fun t q => ?_) h⟩
  intro Z1 H1 v x1 r1 f1
  exact q Z1 H1 _ (x0.trans ok0 x1) x1.grow (es.store ok0 x0 x1 r1 f1)
theorem s_asg {i : Nat} {x : Str} {e : E} {e' : Expr} {py : Pos} (hx : c.N[i]? = some x) (h2 : L2.Loc X.env.scope x ∧ (X.fn x = true ∨ X.env.scope.names.lookup x = some .local)) (he : PE X e' (tE G (wE F cg e))) (hs : swapsWith e' (some (.Name x py)) pos.line X.env = pure false) :
    PS X (.Assign [.Name x py] e' pos) (tS G Z0 H0 (wS F cg (.asg i e))) :=
  PS.weak (ps_set (i := i) (by rw [g.N]; exact g.nd) (by rw [g.N]; exact hx) h2.1 he hs h2.2) fun D σ H h => s_asg0 g ok0 h
theorem s_ret {e : E} {e' : Expr} (hv : isVar e = false) (he : PE X e' (tE G (wE F cg e))) : PS X (.Return (some e') pos) (tS G Z0 H0 (wS F cg (.ret e))) := by
  refine PS.weak (ps_ret he) fun D σ H h => ?_
  obtain ⟨Z, env, x0, es, h⟩ := h
  have h' : wE F cg e env (fun t => (kS G Z0 H0 Z D).rt t.d) := by
    unfold wS wOp at h
    cases e <;> first | (cases hv; done) | exact h
  refine ⟨Z, env, x0.ok, es.ok, wE_mono g.mono e env _ _ (fun t q => ?_) h'⟩
  intro Z1 H1 v x1 r1 f1
  obtain ⟨Z2, x2, r2, _⟩ := frz x1 x0.ok r1 f1
  exact q Z2 H1 v (x0.trans ok0 x2) r2
theorem s_retv {i : Nat} {x : Str} {p : Pos} (h1 : c.N[i]? = some x) (h2 : visB sc x = true) (h3 : okN x = true) : PS X (.Return (some (.Name x p)) pos) (tS G Z0 H0 (wS F cg (.ret (.var i)))) := by
  obtain ⟨k1, k2, _⟩ := okN_of h3
  refine PS.weak (ps_ret (pe_var (i := i) (by rw [g.N]; exact h1) (by rw [g.sc]; exact visB_of h2) k1 k2)) fun D σ H h => ?_
  obtain ⟨Z, env, x0, es, h⟩ := h
  unfold wS wOp at h
  simp only at h
  split at h
  · rename_i t ht
    obtain ⟨v, e1, r⟩ := es.ok.get i t ht
    refine ⟨v, e1, ?_⟩
    obtain ⟨Z2, x2, r2, _⟩ := frz (Z0 := Z0) (H0 := H0) x0 ok0 r (by
      cases r with
      | v r => exact True.intro
      | ol hF hn hH r => exact es.own i _ _ ht rfl e1
      | od hF hn hH r => exact es.own i _ _ ht rfl e1
      | op _ hF hn hH r => exact es.own i _ _ ht rfl e1
      | ob _ hF hn hH _ r => exact es.own i _ _ ht rfl e1)
    exact h Z2 H v x2 r2
  · exact h.elim
omit g in
theorem s_retn : PS X (.Return none pos) (tS G Z0 H0 (wS F cg .retn)) := PS.weak ps_retN fun D σ H h => by
  obtain ⟨Z, env, x0, es, h⟩ := h
  exact h Z H .non x0 .non
omit g in
theorem s_pass : PS X (.Pass pos) (tS G Z0 H0 (wS F cg .pass)) := PS.weak ps_pass fun D σ H h => by
  obtain ⟨Z, env, x0, es, h⟩ := h
  exact h Z H σ x0 (.refl Z) es
theorem s_expr {e : E} {e' : Expr} (he : PE X e' (tE G (wE F cg e))) (hs : swapsWith e' none pos.line X.env = pure false) : PS X (.Expr e' pos) (tS G Z0 H0 (wS F cg (.expr e))) := by
  refine PS.weak (ps_expr he hs) fun D σ H h => ?_
  obtain ⟨Z, env, x0, es, h⟩ := h
  refine ⟨Z, env, x0.ok, es.ok, wE_mono g.mono e env _ _ (fun t q => ?_) h⟩
  intro Z1 H1 v x1 r1 f1
  exact q Z1 H1 σ (x0.trans ok0 x1) x1.grow (es.ext x1)
theorem s_if {t : E} {a b : Ss} {t' : Expr} {a' b' : List Stmt} (ht : PT X t' (tT G (wE F cg t))) (ha : PSs X a' (tS G Z0 H0 (wSs F cg a))) (hb : PSs X b' (tS G Z0 H0 (wSs F cg b))) : PS X (.If t' a' b' pos) (tS G Z0 H0 (wS F cg (.ifs t a b))) := by
  refine PS.weak (ps_if ht ha hb) fun D σ H h => ?_
  obtain ⟨Z, env, x0, es, h⟩ := h
  refine ⟨Z, env, x0.ok, es.ok, wE_mono g.mono t env _ _ (isB.mono fun z q Z1 H1 x1 => ?_) h⟩
  cases z with
  | true =>
    rw [if_pos rfl] at q
    refine L2.iteT ?_
    exact ⟨Z1, env, x0.trans ok0 x1, es.ext x1, wSs_mono g.mono a env _ _ (kS.le x1.grow) q⟩
  | false =>
    rw [if_neg (by decide)] at q
    refine L2.iteF ?_
    exact ⟨Z1, env, x0.trans ok0 x1, es.ext x1, wSs_mono g.mono b env _ _ (kS.le x1.grow) q⟩
omit ok0 in
theorem ss_nil : PSs X [] (tS G Z0 H0 (wSs F cg .nil)) := PSs.weak pss_nil fun D σ H h => by
  obtain ⟨Z, env, x0, es, h⟩ := h
  exact h Z H σ x0 (.refl Z) es
omit ok0 in
theorem ss_cons {s : S} {r : Ss} {s' : Stmt} {r' : List Stmt} (hs : PS X s' (tS G Z0 H0 (wS F cg s))) (hr : PSs X r' (tS G Z0 H0 (wSs F cg r))) : PSs X (s' :: r') (tS G Z0 H0 (wSs F cg (.cons s r))) := by
  refine PSs.weak (pss_cons hs hr) fun D σ H h => ?_
  obtain ⟨Z, env, x0, es, h⟩ := h
  refine ⟨Z, env, x0, es, wS_mono g.mono s env ⟨fun env' => wSs F cg r env' (kS G Z0 H0 Z D), _⟩ _ ⟨fun env' q Z1 H1 σ' x1 gr e1 => ?_, fun d q => q⟩ h⟩
  exact ⟨Z1, env', x1, e1, wSs_mono g.mono r env' _ _ (kS.le gr) q⟩
theorem tS_freeze {i : Nat} {r : Ss} {D : Ends} {σ : St} {H : Hp} (h : tS G Z0 H0 (wSs F cg (.cons (.freeze i) r)) D σ H) : tS G Z0 H0 (wSs F cg r) D σ H := by
  obtain ⟨Z, env, x0, es, h⟩ := h
  have h : match slot env i with | some t => wSs F cg r (env.set i (some (.v t.d))) (kS G Z0 H0 Z D) | _ => False := h
  cases ht : slot env i with
  | none => rw [ht] at h; exact h.elim
  | some t =>
    rw [ht] at h
    obtain ⟨v, e1, rt⟩ := es.ok.get i t ht
    obtain ⟨Z2, x2, r2, up, dk, new⟩ := frz (Z0 := Z0) (H0 := H0) x0 ok0 rt (by
      cases rt with
      | v r => exact True.intro
      | ol hF hn hH r => exact es.own i _ _ ht rfl e1
      | od hF hn hH r => exact es.own i _ _ ht rfl e1
      | op _ hF hn hH r => exact es.own i _ _ ht rfl e1
      | ob _ hF hn hH _ r => exact es.own i _ _ ht rfl e1)
    have gr : Grow Z Z2 := ⟨up, fun p e => by rw [dk]; exact e⟩
    refine ⟨Z2, env.set i (some (.v t.d)), x2, ?_, wSs_mono g.mono r _ _ _ (kS.le gr) h⟩
    have eσ : σ.set i (some v) = σ := by
      refine List.ext_getElem? fun j => ?_
      by_cases hj : i = j
      · subst hj
        have hl : i < σ.length := (List.getElem?_eq_some_iff.mp e1).1
        rw [List.getElem?_set_self hl, e1]
      · rw [List.getElem?_set_ne hj]
    have sl : ∀ j u, slot (env.set i (some (T.v t.d))) j = some u → (j = i ∧ u = .v t.d) ∨ (j ≠ i ∧ slot env j = some u) := fun j u h => by
      rw [slot_set] at h
      by_cases hj : i = j
      · rw [if_pos hj] at h
        split at h
        · cases h; exact .inl ⟨hj.symm, rfl⟩
        · cases h
      · rw [if_neg hj] at h; exact .inr ⟨fun z => hj z.symm, h⟩
    -- another slot's own list is another one
    have nw : ∀ j u a, j ≠ i → slot env j = some u → T.own u = true → σ[j]? = some (some (.ref a)) → Z.F a = none → Z2.F a = none := fun j u a hj hu ho hσ hF => by
      cases q : Z2.F a with
      | none => rfl
      | some o =>
        rcases new a (by rw [q]; exact fun z => nomatch z) with z | ⟨z1, z2⟩
        · exact absurd hF z
        · rw [z2] at e1
          exact absurd hσ (es.inj i j t u a (Ne.symm hj) ht hu z1 ho e1)
    have nd2 : ∀ a, Z.nd a → Z2.nd a := fun a h p e => h p (by rw [← dk]; exact e)
    have other : ∀ j u w, j ≠ i → slot env j = some u → σ[j]? = some (some w) → RepT G Z H u w → RepT G Z2 H u w := fun j u w hj hu hσ ru => by
      cases ru with
      | v ru => exact .v (ru.mono gr.fr gr.dk)
      | ol hF hn hH ru => exact .ol (nw j _ _ hj hu rfl hσ hF) (nd2 _ hn) hH (ru.mono gr.fr gr.dk)
      | od hF hn hH ru => exact .od (nw j _ _ hj hu rfl hσ hF) (nd2 _ hn) hH (ru.mono gr.fr gr.dk)
      | op kp hF hn hH ru => exact .op kp (nw j _ _ hj hu rfl hσ hF) (nd2 _ hn) hH (ru.mono gr.fr gr.dk)
      | ob kp hF hn hH hc ru => exact .ob kp (nw j _ _ hj hu rfl hσ hF) (nd2 _ hn) hH hc (ru.mono gr.fr gr.dk)
    refine ⟨⟨by rw [List.length_set]; exact es.ok.len, fun j u hj => ?_⟩, fun j u a hj ho hσ => ?_, fun j l u w a hjl hj hl ho1 ho2 h5 h6 => ?_⟩
    · rcases sl j u hj with ⟨ej, eu⟩ | ⟨nj, hj⟩
      · rw [ej, eu]
        exact ⟨v, e1, .v r2⟩
      · obtain ⟨w, h1, h2⟩ := es.ok.get j u hj
        exact ⟨w, h1, other j u w nj hj h1 h2⟩
    · rcases sl j u hj with ⟨ej, eu⟩ | ⟨nj, hj⟩
      · rw [eu] at ho; cases ho
      · exact es.own j u a hj ho hσ
    · rcases sl j u hj with ⟨ej, eu⟩ | ⟨nj, hj⟩
      · rw [eu] at ho1; cases ho1
      · rcases sl l w hl with ⟨el, ew⟩ | ⟨nl, hl⟩
        · rw [ew] at ho2; cases ho2
        · exact es.inj j l u w a hjl hj hl ho1 ho2 h5 h6
theorem ss_consB {s : S} {r : Ss} {s' : Stmt} {r' : List Stmt} (hs : PS X s' (tS G Z0 H0 (wS F cg s))) (hr : PSs X r' (tB G Z0 H0 (wSs F cg r))) : PSs X (s' :: r') (tB G Z0 H0 (wSs F cg (.cons s r))) := by
  refine PSs.weak (pss_cons hs hr) fun D σ H h => ?_
  obtain ⟨hc, Z, env, x0, es, h⟩ := h
  refine ⟨Z, env, x0, es, wS_mono g.mono s env ⟨fun env' => wSs F cg r env' (kS G Z0 H0 Z D), _⟩ _ ⟨fun env' q Z1 H1 σ' x1 gr e1 => ?_, fun d q => q⟩ h⟩
  exact ⟨hc, Z1, env', x1, e1, wSs_mono g.mono r env' _ _ (kS.le gr) q⟩
theorem ss_skip {t : E} {r : Ss} {t' : Expr} {r' : List Stmt} {p : Pos} (ht : PT X t' (tT G (wE F cg t))) (hr : PSs X r' (tB G Z0 H0 (wSs F cg r))) : PSs X (.If t' [.Continue p] [] pos :: r') (tB G Z0 H0 (wSs F cg (.skip t r))) := by
  refine PSs.weak (pss_cons (ps_if ht (pss_one ps_continue) pss_nil) hr) fun D σ H h => ?_
  obtain ⟨hc, Z, env, x0, es, h⟩ := h
  refine ⟨Z, env, x0.ok, es.ok, wE_mono g.mono t env _ _ (isB.mono fun z q Z1 H1 x1 => ?_) h⟩
  cases z with
  | true =>
    rw [if_pos rfl] at q
    refine L2.iteT ?_
    show D.ct σ H1
    rw [hc]
    exact q Z1 H1 σ (x0.trans ok0 x1) x1.grow (es.ext x1)
  | false =>
    rw [if_neg (by decide)] at q
    refine L2.iteF ?_
    exact ⟨hc, Z1, env, x0.trans ok0 x1, es.ext x1, wSs_mono g.mono r env _ _ (kS.le x1.grow) q⟩
theorem upd_lock {Z : Zt} {H : Hp} {a : Addr} {o : Obj} {kv : List (Key × V)} (x0 : Ext G Z0 H0 Z H) (hF : Z.F a = none) (hn : Z.nd a) (h0 : H0 a = none) : Ext G Z0 H0 ⟨upd Z.F a (.frz o (.dK kv)), Z.dk⟩ (upd H a (.frz o (.dK kv))) := by
  have ne : ∀ b u, Z.F b = some u → b ≠ a := fun b u e z => by rw [z, hF] at e; cases e
  refine ⟨⟨fun b u e => ?_, fun x y e => ?_, x0.ok.dj⟩, fun b u e => ?_, x0.dk, fun b u e n => ?_, fun b u e n => ?_, x0.newD⟩
  · have e' : upd Z.F a (.frz o (.dK kv)) b = some u := e
    by_cases hb : b = a
    · subst hb; rw [upd_same] at e' ⊢; exact e'
    · rw [upd_ne hb] at e' ⊢; exact x0.ok.le b u e'
  · obtain ⟨h1, h2, h3⟩ := x0.ok.dk x y e
    obtain ⟨n1, n2⟩ := hn _ e
    refine ⟨G.loc _ _ _ _ h1 (upd_ne (Ne.symm n1)) (upd_ne (Ne.symm n2)), ?_, ?_⟩
    · show upd Z.F a _ x = none
      rw [upd_ne (Ne.symm n1)]; exact h2
    · show upd Z.F a _ y = none
      rw [upd_ne (Ne.symm n2)]; exact h3
  · have e2 := x0.fr b u e
    show upd Z.F a _ b = some u
    rw [upd_ne (ne b u e2)]; exact e2
  · rw [upd_ne (fun z => by rw [z, h0] at e; cases e)]
    exact x0.keep b u e n
  · have e' : upd Z.F a (.frz o (.dK kv)) b = some u := e
    by_cases hb : b = a
    · rw [hb]; exact h0
    · rw [upd_ne hb] at e'; exact x0.newF b u e' n
theorem tS_lock {i : Nat} {r : Ss} {pins : List (Addr × Obj)} {s : Shared} {σ : St} {H : Hp} {D : Ends} (I : Inv X pins σ H s) (h : tS G Z0 H0 (wSs F cg (.cons (.lock i) r)) D σ H) : ∃ H', Inv X pins σ H' s ∧ tS G Z0 H0 (wSs F cg r) D σ H' := by
  obtain ⟨Z, env, x0, es, h⟩ := h
  unfold wSs wS at h
  dsimp only at h
  split at h
  · rename_i kvs ht
    obtain ⟨v, ev, rt⟩ := es.ok.get i _ ht
    cases rt with
    | @od a _ kv hF hn hH rk =>
      have h0 := es.own i _ a ht rfl ev
      obtain ⟨od, I'⟩ := I.lock hH True.intro
      refine ⟨_, I', ⟨⟨upd Z.F a (.frz od (.dK kv)), Z.dk⟩, env.set i (some (.v (.lck kvs))), upd_lock g ok0 x0 hF hn h0, ?_, wSs_mono g.mono r _ (kS G Z0 H0 Z D) _ (kS.le (Z := Z) ⟨fun b o e => ?_, fun _ e => e⟩) h⟩⟩
      · have up : ∀ b o, Z.F b = some o → upd Z.F a (.frz od (.dK kv)) b = some o := fun b o e => by
          rw [upd_ne (fun z => by rw [z, hF] at e; cases e)]; exact e
        have sl : ∀ j u, slot (env.set i (some (T.v (.lck kvs)))) j = some u → (j = i ∧ u = .v (.lck kvs)) ∨ (j ≠ i ∧ slot env j = some u) := fun j u h => by
          rw [slot_set] at h
          by_cases hj : i = j
          · rw [if_pos hj] at h
            split at h
            · cases h; exact .inl ⟨hj.symm, rfl⟩
            · cases h
          · rw [if_neg hj] at h; exact .inr ⟨fun z => hj z.symm, h⟩
        have nea : ∀ j u b, j ≠ i → slot env j = some u → T.own u = true → σ[j]? = some (some (.ref b)) → b ≠ a := fun j u b hj hu ho hσ z => by
          rw [z] at hσ
          exact es.inj i j _ u a (Ne.symm hj) ht hu rfl ho ev hσ
        refine ⟨⟨by rw [List.length_set]; exact es.ok.len, fun j u hj => ?_⟩, fun j u b hj ho hσ => ?_, fun j l u w b hjl hj hl ho1 ho2 h5 h6 => ?_⟩
        · rcases sl j u hj with ⟨ej, eu⟩ | ⟨nj, hj⟩
          · rw [ej, eu]
            exact ⟨_, ev, .v (.lck upd_same (rk.mono (Z' := ⟨upd Z.F a (.frz od (.dK kv)), Z.dk⟩) up fun _ e => e))⟩
          · obtain ⟨w, k1, k2⟩ := es.ok.get j u hj
            refine ⟨w, k1, ?_⟩
            cases k2 with
            | v q => exact .v (q.mono (Z' := ⟨upd Z.F a (.frz od (.dK kv)), Z.dk⟩) up fun _ e => e)
            | ol q1 q2 q3 q4 =>
              have n := nea j _ _ nj hj rfl k1
              exact .ol ((upd_ne n).trans q1) q2 ((upd_ne n).trans q3) (q4.mono (Z' := ⟨upd Z.F a (.frz od (.dK kv)), Z.dk⟩) up fun _ e => e)
            | od q1 q2 q3 q4 =>
              have n := nea j _ _ nj hj rfl k1
              exact .od ((upd_ne n).trans q1) q2 ((upd_ne n).trans q3) (q4.mono (Z' := ⟨upd Z.F a (.frz od (.dK kv)), Z.dk⟩) up fun _ e => e)
            | op q0 q1 q2 q3 q4 =>
              have n := nea j _ _ nj hj rfl k1
              exact .op q0 ((upd_ne n).trans q1) q2 ((upd_ne n).trans q3) (q4.mono (Z' := ⟨upd Z.F a (.frz od (.dK kv)), Z.dk⟩) up fun _ e => e)
            | ob q0 q1 q2 q3 qc q4 =>
              have n := nea j _ _ nj hj rfl k1
              exact .ob q0 ((upd_ne n).trans q1) q2 ((upd_ne n).trans q3) qc (q4.mono (Z' := ⟨upd Z.F a (.frz od (.dK kv)), Z.dk⟩) up fun _ e => e)
        · rcases sl j u hj with ⟨ej, eu⟩ | ⟨nj, hj⟩
          · rw [eu] at ho; cases ho
          · exact es.own j u b hj ho hσ
        · rcases sl j u hj with ⟨ej, eu⟩ | ⟨nj, hj⟩
          · rw [eu] at ho1; cases ho1
          · rcases sl l w hl with ⟨el, ew⟩ | ⟨nl, hl⟩
            · rw [ew] at ho2; cases ho2
            · exact es.inj j l u w b hjl hj hl ho1 ho2 h5 h6
      · show upd Z.F a _ b = some o
        rw [upd_ne (fun z => by rw [z, hF] at e; cases e)]; exact e
  · exact h.elim
theorem ss_lock {i : Nat} {r : Ss} {r' : List Stmt} (hr : PSs X r' (tS G Z0 H0 (wSs F cg r))) : PSs X r' (tS G Z0 H0 (wSs F cg (.cons (.lock i) r))) := ⟨fun pins s σ H D I h => let ⟨_, I', h'⟩ := tS_lock g ok0 I h; hr.run pins s σ _ D I' h'⟩
theorem ss_lockB {i : Nat} {r : Ss} {r' : List Stmt} (hr : PSs X r' (tB G Z0 H0 (wSs F cg r))) : PSs X r' (tB G Z0 H0 (wSs F cg (.cons (.lock i) r))) := ⟨fun pins s σ H D I h => let ⟨_, I', h'⟩ := tS_lock g ok0 I h.2; hr.run pins s σ _ D I' ⟨h.1, h'⟩⟩
theorem ss_freeze {i : Nat} {r : Ss} {r' : List Stmt} (hr : PSs X r' (tS G Z0 H0 (wSs F cg r))) : PSs X r' (tS G Z0 H0 (wSs F cg (.cons (.freeze i) r))) := PSs.weak hr fun _ _ _ h => tS_freeze g ok0 h
theorem ss_freezeB {i : Nat} {r : Ss} {r' : List Stmt} (hr : PSs X r' (tB G Z0 H0 (wSs F cg r))) : PSs X r' (tB G Z0 H0 (wSs F cg (.cons (.freeze i) r))) := PSs.weak hr fun _ _ _ h => ⟨h.1, tS_freeze g ok0 h.2⟩
end
end LC

namespace LC
open PySem L2
theorem par_swap {env : PySem.Env} {x y z : Str} {px py pz pt pt2 : Pos} {kt k2 : Nat} {b : Expr} (hk : env.blockKind = .function) (hx : env.kindOf x = some .local) (hy : env.kindOf y = some .local) (hl : (py.line == px.line) = true) (hxy : (y == x) = false) (hz : (z == ("__debug__" : Str)) = false) (hb : plainB b = true) :
    swappedStores [.Tuple [.Name x px, .Name y py] kt pt] (.Tuple [.Name z pz, b] k2 pt2) env = pure (some [x, y]) := by
  have k1 : (env.kindOf x == some NameKind.local) = true := by rw [hx]; rfl
  have k2' : (env.kindOf y == some NameKind.local) = true := by rw [hy]; rfl
  have he : ([x, y] : List Str).eraseDups = [x, y] := by
    rw [List.eraseDups_cons]
    simp [hxy, List.filter, List.eraseDups_cons]
  have hc : ([Expr.Name z pz, b].all (constantsAlone 8)) = false := by
    show (constantsAlone 8 (.Name z pz) && _) = false
    rw [show constantsAlone 8 (.Name z pz) = (z == ("__debug__" : Str)) from rfl, hz, Bool.false_and]
  unfold swappedStores
  simp only [List.head?_cons, Option.map_some, Option.getD_some, Expr.pos]
  rw [if_neg (by rw [hk]; exact Bool.false_ne_true)]
  rw [if_neg (by cases b <;> first | exact Bool.false_ne_true | (cases hb; done))]
  simp only [List.filterMap_cons, List.filterMap_nil, k1, k2', hl, beq_self_eq_true, Bool.and_true, if_true, he]
  rw [if_neg (by exact Bool.false_ne_true), if_neg (by exact Bool.false_ne_true), if_neg (by rw [hc]; exact Bool.false_ne_true)]
section
variable {c : Cs} {G : Gx} {F : Nat → List D → (D → Prop) → Prop} {cg : Nat → D} {k : Nat} {sc osc : Scope} {X : Cx} {pos : Pos} {Z0 : Zt} {H0 : Hp}
theorem EnvS.data {Z : Zt} {H : Hp} {σ : St} {env : Env} {i : Nat} {d : D} {v : V} (e : EnvS G H0 Z H σ env) (r : RepF G Z d v) : EnvS G H0 Z H (σ.set i (some v)) (env.set i (some (.v d))) := e.set (.v r) fun ho => by cases ho
theorem gNamesS {Z : Zt} {H : Hp} {Q : St → Hp → Prop} : ∀ (is : List Nat) (ds : List D) (vs : List V) (σ : St) (env : Env), EnvS G H0 Z H σ env → RepL G Z ds vs → is.length = ds.length →
    (∀ σ', EnvS G H0 Z H σ' (setAll env is ds) → Q σ' H) → gNames is vs σ H Q
  | [], _, _, σ, env, e, .nil, _, h => ⟨rfl, h σ e⟩
  | i :: is, _, _, σ, env, e, .cons (d := d) (v := v) r t, hl, h => ⟨v, _, rfl, gNamesS is _ _ (σ.set i (some v)) (env.set i (some (.v d))) (e.data r) t (by simpa using hl) h⟩
  | [], _, _, _, _, _, .cons _ _, hl, _ => by simp at hl
  | _ :: _, _, _, _, _, _, .nil, hl, _ => by simp at hl
theorem gOfS {Z : Zt} {H : Hp} {Q : St → Hp → Prop} {tg : Tg} {d : D} {v : V} {σ : St} {env env' : Env} (ok : ZOk G Z H) (e : EnvS G H0 Z H σ env) (r : RepF G Z d v) (hw : wTg tg d env = some env')
    (h : ∀ σ', EnvS G H0 Z H σ' env' → Q σ' H) : gOf G.K tg v σ H Q := by
  unfold wTg at hw
  split at hw
  · cases hw
    exact h _ (e.data r)
  · split at hw
    · rename_i is ds hl
      cases hw
      cases r with
      | tup s r => exact .inl ⟨_, _, rfl, sqT_mono ok.le s, by rw [← r.length]; exact hl.symm, gNamesS is ds _ σ env e r hl fun σ' e' => h σ' e'⟩
    · cases hw
  · split at hw
    · rename_i is ds hl
      cases hw
      cases r with
      | lst s r => exact .inr ⟨_, _, rfl, .inl (.inl (ok.le _ _ s)), by rw [← r.length]; exact hl.symm, gNamesS is ds _ σ env e r hl fun σ' e' => h σ' e'⟩
    · cases hw
  · cases hw
theorem gOfL {Z : Zt} {H : Hp} {Q : St → Hp → Prop} {K : PySem.W.Frag} {is : List Nat} {ds : List D} {vs : List V} {a : Addr} {σ : St} {env env' : Env} (e : EnvS G H0 Z H σ env) (hH : H a = some (.lst vs)) (r : RepL G Z ds vs) (hw : wTg (.tup is) (.lst ds) env = some env')
    (h : ∀ σ', EnvS G H0 Z H σ' env' → Q σ' H) : gOf K (.tup is) (.ref a) σ H Q := by
  have hw' : (if is.length = ds.length then some ((is.zip ds).foldl (fun e p => e.set p.1 (some (T.v p.2))) env) else none) = some env' := hw
  split at hw'
  · rename_i hl
    cases hw'
    exact .inr ⟨_, _, rfl, .inl (.inl hH), by rw [← r.length]; exact hl.symm, gNamesS is ds _ σ env e r hl fun σ' e' => h σ' e'⟩
  · cases hw'
variable (g : Good c G F cg k sc osc X) (ok0 : ZOk G Z0 H0)
include g ok0
theorem s_for {tg : Tg} {it : I} {body : Ss} {tg' it' : Expr} {body' : List Stmt} (hp : PassesOwn (model X.prog X.w) X.A X.env X.xe) (hi : PI X tg' it' (tIf G it (wI F cg it))) (hg : isTg c osc tg tg' = true) (hb : PSs X body' (tB G Z0 H0 (wSs F cg body))) (hf : plainB it' = true) :
    PS X (.For tg' it' body' [] pos) (tS G Z0 H0 (wS F cg (.fors tg it body))) := by
  refine PS.weak (ps_for hp g.calm hi (g_tg g hg) hb (plain_fold hf _)) fun D σ H h => ?_
  obtain ⟨Z, env, x0, es, h⟩ := h
  unfold wS at h
  generalize hf : (fun (d : LC.D) (env : Env) (k : Kn) => match wTg tg d env with
      | some env' => wSs F cg body env' k
      | none => False) = f at h
  have fm : ∀ d env k k', Kn.Le k k' → f d env k → f d env k' := fun d env k k' hk q => by
    rw [← hf] at q ⊢
    dsimp only at q ⊢
    cases hw : wTg tg d env with
    | none => rw [hw] at q; exact q.elim
    | some env' =>
      rw [hw] at q
      exact wSs_mono g.mono body env' _ _ hk q
  refine ⟨Z, env, x0.ok, es.ok, h.1, wI_mono g.mono it env _ _ (fun ds q J Z1 H1 x1 hJ => ?_) h.2⟩
  refine ⟨fun i m σ' H' => i ≤ ds.length ∧ m = ds.length - i ∧ ∃ Z' env', Ext G Z0 H0 Z' H' ∧ EnvS G H0 Z' H' σ' env' ∧ Grow Z1 Z' ∧ wFor f (ds.drop i) env' (kS G Z0 H0 Z D), ?_, ?_⟩
  · exact ⟨ds.length, Nat.zero_le _, rfl, Z1, env, x0.trans ok0 x1, es.ext x1, .refl Z1, q⟩
  · rintro i m σ' H' ⟨hi, rfl, Z', env', x', e', gr', q⟩
    obtain ⟨go, stop⟩ := hJ i Z' H' ⟨x'.ok, gr'.fr, gr'.dk, fun b o hb => hb.elim⟩
    by_cases hlt : i < ds.length
    · rw [List.drop_eq_getElem_cons hlt] at q
      obtain ⟨jg, jy⟩ := go _ (List.getElem?_eq_getElem hlt)
      refine .inr ⟨jg, fun σ2 H2 => ∃ Z2 env2, Ext G Z0 H0 Z2 H2 ∧ EnvS G H0 Z2 H2 σ2 env2 ∧ Grow Z1 Z2 ∧ wFor f (ds.drop (i + 1)) env2 (kS G Z0 H0 Z D), fun σ2 H2 hN => ?_, fun x H2 hy => ?_⟩
      · obtain ⟨Z2, env2, r⟩ := hN
        exact ⟨ds.length - (i + 1), by omega, hlt, rfl, Z2, env2, r⟩
      · obtain ⟨Z2, x2, r2⟩ := jy x H2 hy
        have q : f ds[i] env' ⟨fun e => wFor f (ds.drop (i + 1)) e (kS G Z0 H0 Z D), (kS G Z0 H0 Z D).rt⟩ := q
        rw [← hf] at q
        cases hw : wTg tg ds[i] env' with
        | none => rw [hw] at q; exact q.elim
        | some env2 =>
          rw [hw] at q
          rw [hf] at q
          refine g.K ▸ gOfS x2.ok (e'.ext x2) r2 hw fun σ2 e2 => ?_
          refine ⟨rfl, Z2, env2, x'.trans ok0 x2, e2, wSs_mono g.mono body env2 ⟨fun e => wFor f (ds.drop (i + 1)) e (kS G Z0 H0 Z D), (kS G Z0 H0 Z D).rt⟩ _ ⟨fun env3 q3 Z3 H3 σ3 x3 gr3 e3 => ?_, fun d q3 => q3⟩ q⟩
          exact ⟨Z3, env3, x3, e3, (gr'.trans x2.grow).trans gr3, q3⟩
    · have hie : i = ds.length := by omega
      subst hie
      rw [List.drop_length] at q
      have q : (kS G Z0 H0 Z D).nx env' := q
      exact .inl ⟨stop (Nat.le_refl _), q Z' H' σ' x' (x1.grow.trans gr') e'⟩
theorem s_while {t : E} {body : Ss} {t' : Expr} {body' : List Stmt} (hp : PassesOwn (model X.prog X.w) X.A X.env X.xe) (ht : PT X t' (tT G (wE F cg t))) (hb : PSs X body' (tS G Z0 H0 (wSs F cg body))) :
    PS X (.While t' body' [] pos) (tS G Z0 H0 (wS F cg (.whiles t body))) := by
  refine PS.weak (ps_while hp ht hb) fun D σ H h => ?_
  obtain ⟨Z, env, x0, es, n, h⟩ := h
  refine ⟨fun m σ' H' => ∃ Z' env', Ext G Z0 H0 Z' H' ∧ EnvS G H0 Z' H' σ' env' ∧ Grow Z Z' ∧ wWhile (fun env Q => wE F cg t env (isB Q)) (fun env k => wSs F cg body env k) m env' (kS G Z0 H0 Z D), ⟨n, Z, env, x0, es, .refl Z, h⟩, ?_⟩
  rintro m σ' H' ⟨Z', env', x', e', gr', q⟩
  cases m with
  | zero => exact q.elim
  | succ m =>
    refine ⟨Z', env', x'.ok, e'.ok, wE_mono g.mono t env' _ _ (isB.mono fun z q Z1 H1 x1 => ?_) q⟩
    cases z with
    | false =>
      rw [if_neg (by decide)] at q
      refine L2.iteF ?_
      exact q Z1 H1 σ' (x'.trans ok0 x1) (gr'.trans x1.grow) (e'.ext x1)
    | true =>
      rw [if_pos rfl] at q
      refine L2.iteT ?_
      refine ⟨fun σ2 H2 => ∃ Z2 env2, Ext G Z0 H0 Z2 H2 ∧ EnvS G H0 Z2 H2 σ2 env2 ∧ Grow Z Z2 ∧ wWhile (fun env Q => wE F cg t env (isB Q)) (fun env k => wSs F cg body env k) m env2 (kS G Z0 H0 Z D), fun σ2 H2 hN => ?_, ?_⟩
      · obtain ⟨Z2, env2, r⟩ := hN
        exact ⟨m, Nat.lt_succ_self m, Z2, env2, r⟩
      · refine ⟨Z1, env', x'.trans ok0 x1, e'.ext x1, wSs_mono g.mono body env' ⟨fun env' => wWhile (fun env Q => wE F cg t env (isB Q)) (fun env k => wSs F cg body env k) m env' (kS G Z0 H0 Z D), (kS G Z0 H0 Z D).rt⟩ _ ⟨fun env3 q3 Z3 H3 σ3 x3 gr3 e3 => ?_, fun d q3 => q3⟩ q⟩
        exact ⟨Z3, env3, x3, e3, (gr'.trans x1.grow).trans gr3, q3⟩
theorem s_append {i : Nat} {x : Str} {e : E} {e' : Expr} {p apos cpos : Pos} (h1 : c.N[i]? = some x) (h2 : visB sc x = true) (h3 : okN x = true) (he : PE X e' (tE G (wE F cg e))) (hpe : plainB e' = true) (hl : (apos.endLine == cpos.line) = true) :
    PS X (.Expr (.Call (.Attribute (.Name x p) "append" apos) [e'] [] cpos) pos) (tS G Z0 H0 (wS F cg (.append i e))) := by
  obtain ⟨k1, k2, _⟩ := okN_of h3
  have hs := plain_star hpe [] X.env
  have few : ((backTo cpos (starEach [e'] X.env)).all (fun x => !x.1) && (backToKw cpos (keywordEach [] X.env)).all (fun x => x.1.isSome)
      && decide ([e'].length + ([] : List Keyword).length + (if ([] : List Keyword).isEmpty then 0 else 1) < 30)) = true := by
    rw [hs]
    rfl
  refine PS.weak (ps_expr (pe_bm PySem.F.plainAttrs_list PySem.F.slot_list_append PySem.F.type_list_append mt_append (pe_var (i := i) (by rw [g.N]; exact h1) (by rw [g.sc]; exact visB_of h2) k1 k2) (pa_cons he pa_nil hs) (plain_base rfl _ _) few hl hs rfl) rfl) fun D σ H h => ?_
  obtain ⟨Z, env, x0, es, h⟩ := h
  unfold wS at h
  split at h
  · rename_i ds ht
    obtain ⟨v, e1, r⟩ := es.ok.get i _ ht
    cases r with
    | @ol a _ vs hF hn hH rl =>
      refine ⟨.ref a, e1, .inl ⟨rfl, vs, .inl (.inl hH)⟩, Z, env, x0.ok, es.ok, wE_mono g.mono e env _ _ (fun t q => ?_) h.2⟩
      intro Z1 H1 y x1 r1 f1
      obtain ⟨Z2, x2, r2, _⟩ := frz x1 x0.ok r1 f1
      have hH2 := x2.keep a _ hH hn
      have hne : H a ≠ none := by rw [hH]; exact fun z => nomatch z
      have hF2 := x2.freeF hF hne
      have hn2 := x2.nd hne hn
      have h0 := es.own i _ a ht rfl e1
      refine ⟨a, vs, y, rfl, rfl, hH2, by rw [← rl.length, szl]; exact h.1, ?_⟩
      have x02 := x0.trans ok0 x2
      refine q Z2 _ σ (x02.put h0 hF2 hn2) x2.grow ?_
      have es2 := es.ext x2
      -- the other slots
      have keepT : ∀ j u w, j ≠ i → slot env j = some u → σ[j]? = some (some w) → RepT G Z2 H1 u w → RepT G Z2 (upd H1 a (.lst (vs ++ [y]))) u w := fun j u w hj hu hσ ru => by
        cases ru with
        | v ru => exact .v ru
        | @ol b _ _ k1 k2 k3 k4 =>
          have nb : b ≠ a := fun z => es.inj i j _ _ a (Ne.symm hj) ht hu rfl rfl e1 (by rw [← z]; exact hσ)
          exact .ol k1 k2 (by rw [upd_ne nb]; exact k3) k4
        | @od b _ _ k1 k2 k3 k4 =>
          have nb : b ≠ a := fun z => es.inj i j _ _ a (Ne.symm hj) ht hu rfl rfl e1 (by rw [← z]; exact hσ)
          exact .od k1 k2 (by rw [upd_ne nb]; exact k3) k4
        | @op b _ _ kp k1 k2 k3 k4 =>
          have nb : b ≠ a := fun z => es.inj i j _ _ a (Ne.symm hj) ht hu rfl rfl e1 (by rw [← z]; exact hσ)
          exact .op kp k1 k2 (by rw [upd_ne nb]; exact k3) k4
        | @ob b C dx c ks fs kp k1 k2 k3 kc k4 =>
          have nb : b ≠ a := fun z => es.inj i j _ _ a (Ne.symm hj) ht hu rfl rfl e1 (by rw [← z]; exact hσ)
          exact .ob kp k1 k2 (by rw [upd_ne nb]; exact k3) kc k4
      have sl : ∀ j u, slot (env.set i (some (T.ol (ds ++ [t.d])))) j = some u → (j = i ∧ u = .ol (ds ++ [t.d])) ∨ (j ≠ i ∧ slot env j = some u) := fun j u h => by
        rw [slot_set] at h
        by_cases hj : i = j
        · rw [if_pos hj] at h
          split at h
          · cases h; exact .inl ⟨hj.symm, rfl⟩
          · cases h
        · rw [if_neg hj] at h; exact .inr ⟨fun z => hj z.symm, h⟩
      refine ⟨⟨by rw [List.length_set]; exact es.ok.len, fun j u hj => ?_⟩, fun j u b hj ho hσ => ?_, fun j l u w b hjl hj hl2 ho1 ho2 h5 h6 => ?_⟩
      · rcases sl j u hj with ⟨ej, eu⟩ | ⟨nj, hj⟩
        · rw [ej, eu]
          exact ⟨_, e1, .ol hF2 hn2 upd_same ((x2.repL rl).append (.cons r2 .nil))⟩
        · obtain ⟨w, k1, k2⟩ := es2.ok.get j u hj
          exact ⟨w, k1, keepT j u w nj hj k1 k2⟩
      · rcases sl j u hj with ⟨ej, eu⟩ | ⟨nj, hj⟩
        · rw [ej, e1] at hσ
          cases hσ
          exact h0
        · exact es.own j u b hj ho hσ
      · rcases sl j u hj with ⟨ej, eu⟩ | ⟨nj, hj⟩
        · rcases sl l w hl2 with ⟨el, ew⟩ | ⟨nl, hl2⟩
          · exact hjl (ej.trans el.symm)
          · rw [ej] at h5
            exact es.inj i l _ w b (Ne.symm nl) ht hl2 rfl ho2 h5 h6
        · rcases sl l w hl2 with ⟨el, ew⟩ | ⟨nl, hl2⟩
          · rw [el] at h6
            exact es.inj j i u _ b nj hj ht ho1 rfl h5 h6
          · exact es.inj j l u w b hjl hj hl2 ho1 ho2 h5 h6
  · exact h.elim
theorem s_dput {i : Nat} {x : Str} {ke e : E} {ke' e' : Expr} {p p2 : Pos} (h1 : c.N[i]? = some x) (h2 : visB sc x = true) (h3 : okN x = true) (hk : PE X ke' (tO G (oE F cg ke))) (he : PE X e' (tE G (wE F cg e))) (hs : swapsWith e' (some (.Subscript (.Name x p) ke' p2)) pos.line X.env = pure false) :
    PS X (.Assign [.Subscript (.Name x p) ke' p2] e' pos) (tS G Z0 H0 (wS F cg (.dput i ke e))) := by
  obtain ⟨k1, k2, _⟩ := okN_of h3
  refine PS.weak (ps_dput (hu_of g.room) (pe_var (i := i) (by rw [g.N]; exact h1) (by rw [g.sc]; exact visB_of h2) k1 k2) hk he hs) fun D σ H h => ?_
  obtain ⟨Z, env, x0, es, h⟩ := h
  unfold wS at h
  split at h
  · rename_i kvs ht
    obtain ⟨v, e1, r⟩ := es.ok.get i _ ht
    cases r with
    | @od a _ vs hF hn hH rl =>
      have h0 := es.own i _ a ht rfl e1
      refine ⟨Z, env, x0.ok, es.ok, wE_mono g.mono e env _ _ (fun t q => ?_) h.2⟩
      intro Z1 H1 y x1 r1 f1
      obtain ⟨Z2, x2, r2, _⟩ := frz x1 x0.ok r1 f1
      refine ⟨.ref a, e1, Z2, env, x2.ok, (es.ext x2).ok, oE_mono g ke env _ _ (fun kd q => ?_) q⟩
      intro Z3 H3 w x3 r3
      split at q
      · rename_i key hk
        obtain ⟨ew, gk⟩ := key_rep hk r3
        subst ew
        have x23 := x2.trans x0.ok x3
        have hne : H a ≠ none := by rw [hH]; exact fun z => nomatch z
        have hH3 := x23.keep a _ hH hn
        have hF3 := x23.freeF hF hne
        have hn3 := x23.nd hne hn
        refine ⟨a, _, rfl, DPut.k (k := key) hH3 (by rw [← repK_len rl, szl]; exact h.1), ?_⟩
        refine q Z3 _ σ ((x0.trans ok0 x23).put h0 hF3 hn3) x23.grow ?_
        exact (es.ext x23).put ht rfl rfl e1 (.od hF3 hn3 upd_same (repK_put gk (x3.repF r2) (x23.repK rl)))
      · exact q.elim
  · rename_i kvs ht
    obtain ⟨v, e1, r⟩ := es.ok.get i _ ht
    cases r with
    | @op a _ vs hpa hF hn hH rl =>
      have h0 := es.own i _ a ht rfl e1
      refine ⟨Z, env, x0.ok, es.ok, wE_mono g.mono e env _ _ (fun t q => ?_) h.2⟩
      intro Z1 H1 y x1 r1 f1
      obtain ⟨Z2, x2, r2, _⟩ := frz x1 x0.ok r1 f1
      refine ⟨.ref a, e1, Z2, env, x2.ok, (es.ext x2).ok, oE_mono g ke env _ _ (fun kd q => ?_) q⟩
      intro Z3 H3 w x3 r3
      split at q
      · rename_i key hk
        obtain ⟨ew, gk⟩ := key_rep hk r3
        subst ew
        have x23 := x2.trans x0.ok x3
        have hne : H a ≠ none := by rw [hH]; exact fun z => nomatch z
        have hH3 := x23.keep a _ hH hn
        have hF3 := x23.freeF hF hne
        have hn3 := x23.nd hne hn
        refine ⟨a, _, rfl, DPut.k (k := key) hH3 (by rw [← repK_len rl, szl]; exact h.1), ?_⟩
        refine q Z3 _ σ ((x0.trans ok0 x23).put h0 hF3 hn3) x23.grow ?_
        exact (es.ext x23).put ht rfl rfl e1 (.op hpa hF3 hn3 upd_same (repK_put gk (x3.repF r2) (x23.repK rl)))
      · exact q.elim
  · exact h.elim
theorem s_par {i j : Nat} {x y z : Str} {px py pz pt pt2 : Pos} {kt k2 : Nat} {b : Expr} {es : Es} (hk : sc.kind = .function) (h1 : c.N[i]? = some x) (h2 : c.N[j]? = some y) (h3 : (y == x) = false) (h4 : (py.line == px.line) = true) (h5 : sc.names.lookup x = some .local) (h6 : sc.names.lookup y = some .local) (h7 : okN z = true) (hb : plainB b = true)
    (ha : PA X [.Name z pz, b] (tV G (wV F cg es))) : PS X (.Assign [.Tuple [.Name x px, .Name y py] kt pt] (.Tuple [.Name z pz, b] k2 pt2) pos) (tS G Z0 H0 (wS F cg (.par i j es))) := by
  have hij : i ≠ j := fun e => by
    rw [e, h2] at h1
    cases h1
    rw [beq_self_eq_true] at h3
    cases h3
  have kx : X.env.kindOf x = some .local := by
    unfold PySem.Env.kindOf
    rw [g.sc]
    exact h5
  have ky : X.env.kindOf y = some .local := by
    unfold PySem.Env.kindOf
    rw [g.sc]
    exact h6
  have kb : X.env.blockKind = .function := by
    unfold PySem.Env.blockKind
    rw [g.sc, hk]
    rfl
  refine PS.weak (ps_par (i := i) (j := j) g.calm (by rw [g.N]; exact g.nd) (by rw [g.N]; exact h1) (by rw [g.N]; exact h2) hij kx ky ha (par_swap kb kx ky h4 h3 (okN_of h7).1 hb) rfl) fun D σ H h => ?_
  obtain ⟨Z, env, x0, e0, h⟩ := h
  unfold wS at h
  refine ⟨Z, env, x0.ok, e0.ok, wV_mono g.mono es env _ _ (fun ds q Z1 H1 vs x1 r1 => ?_) h⟩
  split at q
  · cases r1 with
    | cons r1 r2 =>
      cases r2 with
      | cons r2 r3 =>
        cases r3
        exact ⟨_, _, rfl, q Z1 H1 _ (x0.trans ok0 x1) x1.grow (((e0.ext x1).data r1).data r2)⟩
  · exact q.elim
theorem s_unp {is : List Nat} {e : E} {e' : Expr} {es' : List Expr} {n : Nat} {p : Pos} (hg : isTgs c osc is es' = true) (he : PE X e' (tE G (wE F cg e))) (hs : swapsWithSole [.Tuple es' n p] e' pos.line X.env = pure false) (hw : swappedStores [.Tuple es' n p] e' X.env = pure none) :
    PS X (.Assign [.Tuple es' n p] e' pos) (tS G Z0 H0 (wS F cg (.unp is e))) := by
  refine PS.weak (ps_asg he (g_tg (tg := .tup is) g (show isTg c osc (.tup is) (.Tuple es' n p) = true from hg)) hs hw rfl) fun D σ H h => ?_
  obtain ⟨Z, env, x0, es, h⟩ := h
  refine ⟨Z, env, x0.ok, es.ok, wE_mono g.mono e env _ _ (fun t q => ?_) h⟩
  intro Z1 H1 v x1 r1 f1
  have q : match wTg (.tup is) t.d env with | some env' => (kS G Z0 H0 Z D).nx env' | none => False := q
  cases hwt : wTg (.tup is) t.d env with
  | none => rw [hwt] at q; exact q.elim
  | some env' =>
    have q2 : (kS G Z0 H0 Z D).nx env' := by
      rw [hwt] at q
      exact q
    cases r1 with
    | v r1 => exact g.K ▸ gOfS x1.ok (es.ext x1) r1 hwt fun σ' e' => q2 Z1 H1 σ' (x0.trans ok0 x1) x1.grow e'
    | ol hF hn hH rl => exact gOfL (es.ext x1) hH rl hwt fun σ' e' => q2 Z1 H1 σ' (x0.trans ok0 x1) x1.grow e'
    | od => cases hwt
    | op => cases hwt
    | ob => cases hwt
theorem s_asgLc {i : Nat} {x : Str} {py : Pos} {elt : E} {tg : Tg} {it : I} {cond : Es} {own : List (Str × Nat)} {elt' tg' it' : Expr} {ifs' : List Expr} {scope : Scope} {lpos : Pos} (hx : c.N[i]? = some x) (hxl : X.env.scope.names.lookup x = some .local)
    (hsw : swapsWith (.ListComp elt' [⟨tg', it', ifs', 0⟩] scope lpos) (some (.Name x py)) pos.line X.env = pure true)
    (hb : blkC c.N sc scope own = true) (hsl : (tg.slots.all fun i => (own.map (·.2)).contains i) = true) (hi : PI X tg' it' (tI G (wI F cg it))) (hg : isTg c scope tg tg' = true)
    (ht : ∀ Y, Good c G F cg k (relS scope sc) scope Y → PTs Y ifs' (tTs G (wCs F cg cond))) (he : ∀ Y, Good c G F cg k (relS scope sc) scope Y → PE Y elt' (tE G (wE F cg elt))) (hpi : plainB it' = true) :
    PS X (.Assign [.Name x py] (.ListComp elt' [⟨tg', it', ifs', 0⟩] scope lpos) pos) (tS G Z0 H0 (wS F cg (.asg i (.lc elt tg it cond own)))) :=
  PS.weak (ps_setLc (i := i) g.calm (by rw [g.N]; exact g.nd) (by rw [g.N]; exact hx) hxl hsw hi (by rw [g.N, g.sc]; exact blkOk_by hb) (fun s H C cl fp => g_tg (g.blk hb s H C cl fp) hg) (fun s H C cl fp => ht _ (g.blk hb s H C cl fp)) (fun s H C cl fp => he _ (g.blk hb s H C cl fp)) (plain_fold hpi _)) fun D σ H h => by
    have h2 := s_asg0 g ok0 h
    exact lc_read g hsl h2
end
end LC

namespace LC
open PySem L2
theorem ZOk.ndF {G : Gx} {Z : Zt} {H : Hp} (ok : ZOk G Z H) {a : Addr} {o : HO} (h : Z.F a = some o) : Z.nd a := fun p e => by
  obtain ⟨x, c⟩ := p
  obtain ⟨_, h2, h3⟩ := ok.dk x c e
  refine ⟨fun z => ?_, fun z => ?_⟩
  · have z' : a = x := z
    rw [z', h2] at h
    cases h
  · have z' : a = c := z
    rw [z', h3] at h
    cases h
section
variable {G : Gx} {Z : Zt}
theorem repK_merge : ∀ {kvs : List (Key × D)} {vs : List (Key × V)} {acc : List (Key × D)} {ws : List (Key × V)}, RepK G Z kvs vs → RepK G Z acc ws → RepK G Z (kvs.foldl (fun acc kv => kput acc kv.1 kv.2) acc) (mergeK ws vs)
  | _, _, _, _, .nil, h => h
  | _, _, _, _, .cons g r t, h => by
    have := repK_merge t (repK_put g r h)
    exact this
theorem zipD_get {xs ys : List D} {i : Nat} {d : D} (h : (zipD xs ys)[i]? = some d) : ∃ x y, xs[i]? = some x ∧ ys[i]? = some y ∧ d = .tup [x, y] := by
  unfold zipD at h
  rw [List.getElem?_map] at h
  obtain ⟨p, h1, h2⟩ := Option.map_eq_some_iff.mp h
  obtain ⟨h3, h4⟩ := List.getElem?_zip_eq_some.mp h1
  exact ⟨p.1, p.2, h3, h4, h2.symm⟩
theorem zipD_len (xs ys : List D) : (zipD xs ys).length = min xs.length ys.length := by
  unfold zipD
  rw [List.length_map, List.length_zip]
theorem enumD_get {xs : List D} {i : Nat} {d : D} (h : (enumD xs)[i]? = some d) : ∃ x, xs[i]? = some x ∧ d = .tup [.int (i : Int), x] := by
  unfold enumD at h
  rw [List.getElem?_map] at h
  obtain ⟨p, h1, h2⟩ := Option.map_eq_some_iff.mp h
  obtain ⟨h3, h4⟩ := List.getElem?_zip_eq_some.mp h1
  have hi : i < xs.length := (List.getElem?_eq_some_iff.mp h3).1
  rw [List.getElem?_range hi] at h4
  cases h4
  exact ⟨p.1, h3, h2.symm⟩
theorem enumD_len (xs : List D) : (enumD xs).length = xs.length := by
  unfold enumD
  rw [List.length_map, List.length_zip, List.length_range]
  omega
theorem pair_new {Z' : Zt} {H' : Hp} {T : Addr} {d e : D} {x y : V} (ok : ZOk G Z' H') (hn : H' T = none) (r1 : RepF G Z' d x) (r2 : RepF G Z' e y) : ∃ Z2, Ext G Z' H' Z2 (upd H' T (.tup [x, y])) ∧ RepF G Z2 (.tup [d, e]) (.ref T) := by
  have x1 := Ext.lay (o := .tup [x, y]) ok hn
  exact ⟨_, x1, .tup (.inl (.inl upd_same)) (.cons (x1.repF r1) (.cons (x1.repF r2) .nil))⟩
theorem it_zipL {X : Cx} {Z1 : Zt} {H1 : Hp} {B : Addr → Prop} {a b : Addr} {vs ws : List V} {ds es : List D} (h1 : H1 a = some (.lst vs)) (h2 : H1 b = some (.lst ws)) (ha : B a ∨ Z1.F a = some (.lst vs)) (hb : B b ∨ Z1.F b = some (.lst ws)) (r : RepL G Z1 ds vs) (r2 : RepL G Z1 es ws) : ItOk G (Itz X.K a b) Z1 H1 B (zipD ds es) := fun i Z' H' L => by
  have hA : H' a = some (.lst vs) := ha.elim (fun z => L.hold _ _ z h1) fun z => L.ok.le _ _ (L.fr _ _ z)
  have hB : H' b = some (.lst ws) := hb.elim (fun z => L.hold _ _ z h2) fun z => L.ok.le _ _ (L.fr _ _ z)
  have r' := r.mono L.fr L.dk
  have r2' := r2.mono L.fr L.dk
  refine ⟨fun d hd => ?_, fun hl => ⟨vs, ws, .inl (.inl hA), .inl (.inl hB), ?_⟩⟩
  · obtain ⟨x, y, hx, hy, rfl⟩ := zipD_get hd
    obtain ⟨v, e1, q1⟩ := r'.getD hx
    obtain ⟨w, e2, q2⟩ := r2'.getD hy
    refine ⟨⟨vs, ws, v, w, .inl (.inl hA), .inl (.inl hB), e1, e2⟩, fun z H2 hz => ?_⟩
    obtain ⟨T, v', w', rfl, hT, rfl, k1, k2⟩ := hz
    have k1' := k1 vs (.inl (.inl hA))
    have k2' := k2 ws (.inl (.inl hB))
    rw [e1] at k1'
    rw [e2] at k2'
    cases k1'
    cases k2'
    exact pair_new L.ok hT q1 q2
  · rw [zipD_len, r.length, r2.length] at hl
    omega
theorem it_zipT {X : Cx} (hK : G.K = X.K) {Z1 : Zt} {H1 : Hp} {B : Addr → Prop} {a b : Addr} {vs ws : List V} {ds es : List D} (h1 : SqT G.K Z1.F a vs) (h2 : SqT G.K Z1.F b ws) (r : RepL G Z1 ds vs) (r2 : RepL G Z1 es ws) : ItOk G (RZ.ItzT X.K a b) Z1 H1 B (zipD ds es) := fun i Z' H' L => by
  have hA : SqT X.K H' a vs := hK ▸ sqT_mono L.ok.le (sqT_mono L.fr h1)
  have hB : SqT X.K H' b ws := hK ▸ sqT_mono L.ok.le (sqT_mono L.fr h2)
  have r' := r.mono L.fr L.dk
  have r2' := r2.mono L.fr L.dk
  refine ⟨fun d hd => ?_, fun hl => ⟨vs, ws, hA, hB, ?_⟩⟩
  · obtain ⟨x, y, hx, hy, rfl⟩ := zipD_get hd
    obtain ⟨v, e1, q1⟩ := r'.getD hx
    obtain ⟨w, e2, q2⟩ := r2'.getD hy
    refine ⟨⟨vs, ws, v, w, hA, hB, e1, e2⟩, fun z H2 hz => ?_⟩
    obtain ⟨T, v', w', rfl, hT, rfl, k1, k2⟩ := hz
    have k1' := k1 vs hA
    have k2' := k2 ws hB
    rw [e1] at k1'
    rw [e2] at k2'
    cases k1'
    cases k2'
    exact pair_new L.ok hT q1 q2
  · rw [zipD_len, r.length, r2.length] at hl
    omega
theorem it_zipM {X : Cx} (hK : G.K = X.K) {Z1 : Zt} {H1 : Hp} {B : Addr → Prop} {a b : Addr} {vs ws : List V} {ds es : List D} (h1 : SqT G.K Z1.F a vs) (h2 : H1 b = some (.lst ws)) (hb : B b ∨ Z1.F b = some (.lst ws)) (r : RepL G Z1 ds vs) (r2 : RepL G Z1 es ws) : ItOk G (ItzM X.K a b) Z1 H1 B (zipD ds es) := fun i Z' H' L => by
  have hA : SqT X.K H' a vs := hK ▸ sqT_mono L.ok.le (sqT_mono L.fr h1)
  have hB : H' b = some (.lst ws) := hb.elim (fun z => L.hold _ _ z h2) fun z => L.ok.le _ _ (L.fr _ _ z)
  have r' := r.mono L.fr L.dk
  have r2' := r2.mono L.fr L.dk
  refine ⟨fun d hd => ?_, fun hl => ⟨vs, ws, hA, .inl (.inl hB), ?_⟩⟩
  · obtain ⟨x, y, hx, hy, rfl⟩ := zipD_get hd
    obtain ⟨v, e1, q1⟩ := r'.getD hx
    obtain ⟨w, e2, q2⟩ := r2'.getD hy
    refine ⟨⟨vs, ws, v, w, hA, .inl (.inl hB), e1, e2⟩, fun z H2 hz => ?_⟩
    obtain ⟨T, v', w', rfl, hT, rfl, k1, k2⟩ := hz
    have k1' := k1 vs hA
    have k2' := k2 ws (.inl (.inl hB))
    rw [e1] at k1'
    rw [e2] at k2'
    cases k1'
    cases k2'
    exact pair_new L.ok hT q1 q2
  · rw [zipD_len, r.length, r2.length] at hl
    omega
theorem it_enum {X : Cx} {Z1 : Zt} {H1 : Hp} {B : Addr → Prop} {a : Addr} {vs : List V} {ds : List D} (h1 : H1 a = some (.lst vs)) (ha : B a ∨ Z1.F a = some (.lst vs)) (r : RepL G Z1 ds vs) : ItOk G (Ite X.K a) Z1 H1 B (enumD ds) := fun i Z' H' L => by
  have hA : H' a = some (.lst vs) := ha.elim (fun z => L.hold _ _ z h1) fun z => L.ok.le _ _ (L.fr _ _ z)
  have r' := r.mono L.fr L.dk
  refine ⟨fun d hd => ?_, fun hl => ⟨vs, .inl (.inl hA), ?_⟩⟩
  · obtain ⟨x, hx, rfl⟩ := enumD_get hd
    obtain ⟨v, e1, q1⟩ := r'.getD hx
    refine ⟨⟨vs, v, .inl (.inl hA), e1⟩, fun z H2 hz => ?_⟩
    obtain ⟨T, v', rfl, hT, rfl, k1⟩ := hz
    have k1' := k1 vs (.inl (.inl hA))
    rw [e1] at k1'
    cases k1'
    exact pair_new L.ok hT (.int _) q1
  · rw [enumD_len, r.length] at hl
    exact hl
theorem it_enumT {X : Cx} (hK : G.K = X.K) {Z1 : Zt} {H1 : Hp} {B : Addr → Prop} {a : Addr} {vs : List V} {ds : List D} (h1 : SqT G.K Z1.F a vs) (r : RepL G Z1 ds vs) : ItOk G (IteT X.K a) Z1 H1 B (enumD ds) := fun i Z' H' L => by
  have hA : SqT X.K H' a vs := hK ▸ sqT_mono L.ok.le (sqT_mono L.fr h1)
  have r' := r.mono L.fr L.dk
  refine ⟨fun d hd => ?_, fun hl => ⟨vs, hA, ?_⟩⟩
  · obtain ⟨x, hx, rfl⟩ := enumD_get hd
    obtain ⟨v, e1, q1⟩ := r'.getD hx
    refine ⟨⟨vs, v, hA, e1⟩, fun z H2 hz => ?_⟩
    obtain ⟨T, v', rfl, hT, rfl, k1⟩ := hz
    have k1' := k1 vs hA
    rw [e1] at k1'
    cases k1'
    exact pair_new L.ok hT (.int _) q1
  · rw [enumD_len, r.length] at hl
    exact hl
end
def rDupd : V → List V → Hp → VK → Prop := fun x xs H Q => ∃ (a b : Addr) (kvs more : List (Key × V)), x = .ref a ∧ xs = [.ref b] ∧ a ≠ b ∧ H a = some (.dK kvs) ∧ H b = some (.dK more) ∧ kvs.length + more.length ≤ sizeLine ∧ Q .non (upd H a (.dK (mergeK kvs more)))
theorem mt_dupd {X : Cx} : MtR X "dict.update" rDupd := by
  intro pins s σ H x xs v us Q I rx rs h
  obtain ⟨a, b, kvs, more, rfl, rfl, nab, ha, hb, hz, q⟩ := h
  cases rx
  obtain ⟨u, eu, ru⟩ := vals1 rs
  subst eu
  cases ru
  obtain ⟨z1, hd1, vs, rel1, dd1⟩ := dk_of I.hok ha
  obtain ⟨z2, hd2, ws, rel2, dd2⟩ := dk_of I.hok hb
  refine call_meetsIn PySem.F.slot_dict_update dd1.typeIs PySem.F.entry_dict_update (PySem.F.args_dict_update_2 _ _) (meets_dict_update (mixKind X.prog X.w) a b nab hd2) ⟨vs, ws, dd1, dd2, by rw [← rel1.length, ← rel2.length]; exact hz, fun h' m1 m2 hs => ?_⟩
  have hl : (mergeK kvs more).length ≤ sizeLine := Nat.le_trans (length_mergeK more kvs) hz
  have he : ∃ q, h'.get? a = some q := let ⟨q, _, _, hq, _⟩ := m1; ⟨q, hq⟩
  exact ⟨.non, _, d_write (t' := s.toks) I (by rw [ha]; exact True.intro) hs he (dk_new hl hd1 (KV.merge rel2 rel1) m1), rfl, q⟩
section
variable {c : Cs} {G : Gx} {F : Nat → List D → (D → Prop) → Prop} {cg : Nat → D} {k : Nat} {sc osc : Scope} {X : Cx} {pos : Pos} {Z0 : Zt} {H0 : Hp}
def trsOf (G : Gx) (F : Nat → List D → (D → Prop) → Prop) (cg : Nat → D) : Ps → List (TE × TE)
  | .nil => []
  | .cons a b r => (tO G (oE F cg a), tE G (wE F cg b)) :: trsOf G F cg r
variable (g : Good c G F cg k sc osc X)
include g
theorem pairs_read : ∀ (ps : Ps) {Z : Zt} {H : Hp} {σ : St} {env : Env} (Q : List (V × V) → Hp → Prop), ZOk G Z H → EnvOk G Z H σ env →
    wPs F cg ps env (fun kvs => ∀ Z' H' vs, Ext G Z H Z' H' → RepK G Z' kvs vs → Q (vs.map fun kv => (kV kv.1, kv.2)) H') → tPairs (trsOf G F cg ps) σ H Q
  | .nil, Z, H, σ, env, Q, ok, eo, h => h Z H [] (.refl ok) .nil
  | .cons a b r, Z, H, σ, env, Q, ok, eo, h => by
    refine ⟨Z, env, ok, eo, oE_mono g a env _ _ (fun y q Z1 H1 v x1 r1 => ?_) h⟩
    cases hy : D.key y with
    | none =>
      rw [hy] at q
      exact q.elim
    | some key =>
      rw [hy] at q
      obtain ⟨ew, gk⟩ := key_rep hy r1
      subst ew
      refine ⟨Z1, env, x1.ok, eo.ext x1, wE_mono g.mono b env _ _ (fun t q => ?_) q⟩
      intro Z2 H2 w x2 r2 f2
      obtain ⟨Z3, x3, r3, _⟩ := frz x2 x1.ok r2 f2
      have x13 := x1.trans ok x3
      refine pairs_read r _ x3.ok (eo.ext x13) (wPs_mono g.mono r env _ _ (fun kvs q Z4 H4 vs x4 r4 => ?_) q)
      exact q Z4 H4 ((key, w) :: vs) (x13.trans ok x4) (.cons gk (x4.repF r3) r4)
theorem e_disp {ps : Ps} {ks : List (Option Expr)} {vs : List Expr} (h : PPs X pos ks vs (trsOf G F cg ps)) (hall : ks.all (·.isSome) = true) (hl : ks.length = vs.length) (h0 : ks ≠ []) (h15 : ks.length ≤ 15) : PE X (.Dict ks vs pos) (tE G (wE F cg (.dict ps))) := by
  refine PE.weak (pe_disp h hall hl h0 h15) fun σ H Q h => ?_
  obtain ⟨Z, env, ok, eo, h⟩ := h
  unfold wE at h
  intro p hp
  have x0 : Ext G Z H Z (upd H p (.dK [])) := .own ok hp
  refine pairs_read g ps _ x0.ok (eo.ext x0) (wPs_mono g.mono ps env _ _ (fun kvs q Z1 H1 vs x1 r1 => ?_) h)
  have nd0 := ok.ndOf hp
  have hH1 := x1.keep p _ upd_same nd0
  refine ⟨hH1, vs, rfl, by rw [← repK_len r1]; exact q.1, ?_⟩
  have ne : upd H p (.dK []) p ≠ none := by
    rw [upd_same]
    exact fun z => nomatch z
  have hF := x1.freeF (ok.freeF hp) ne
  have hn := x1.nd ne nd0
  exact q.2 Z1 _ _ ((x0.trans ok x1).put hp hF hn) (.od hF hn upd_same (repK_merge r1 .nil)) hp
theorem e_listr1 {a : E} {a' : Expr} {p p2 pos2 : Pos} (h1 : glbB sc "list" = true) (h2 : glbB sc "range" = true) (ha : PE X a' (tO G (oE F cg a))) (hp : plainB a' = true) : PE X (.Call (.Name "list" p) [.Call (.Name "range" p2) [a'] [] pos2] [] pos) (tE G (wE F cg (.listr (.range1 a)))) := by
  refine PE.weak (pe_listRg g.calm (g.gl_of h1) (g.blt _ (by decide)) (prg_1 (g.gl_of h2) (g.blt _ (by decide)) ha (plain_star hp _ _))) fun σ H Q h => ?_
  obtain ⟨Z, env, ok, eo, h⟩ := h
  unfold wE wI at h
  refine ⟨Z, env, ok, eo, oE_mono g a env _ _ (fun d q Z1 H1 v x1 r1 => ?_) h⟩
  cases d with
  | int i =>
    have e := r1.int
    subst e
    obtain ⟨b1, b2, q⟩ := q
    rw [rangeD_l] at b2
    refine ⟨i, rfl, ⟨by omega, by omega, b1.1, b1.2, ?_⟩, fun q0 hq => kT.ol x1.ok (kT.ext x1 ok q) hq (rg_rep 0 i)⟩
    exact b2
  | _ => exact False.elim q
where
  rangeD_l (lo hi : Int) : (rangeD lo hi).length = (hi - lo).toNat := by
    unfold rangeD
    rw [List.length_map, List.length_range]
  rg_rep {G : Gx} {Z : Zt} (lo hi : Int) : RepL G Z (rangeD lo hi) (rgV lo hi) := by
    unfold rangeD rgV
    generalize (hi - lo).toNat = n
    induction n with
    | zero => exact .nil
    | succ n ih =>
      rw [List.range_succ, List.map_append, List.map_append]
      exact ih.append (.cons (.int _) .nil)
theorem e_listr2 {a b : E} {a' b' : Expr} {p p2 pos2 : Pos} (h1 : glbB sc "list" = true) (h2 : glbB sc "range" = true) (ha : PE X a' (tO G (oE F cg a))) (hb : PE X b' (tO G (oE F cg b))) (hp : plainB a' = true) (hp2 : plainB b' = true) : PE X (.Call (.Name "list" p) [.Call (.Name "range" p2) [a', b'] [] pos2] [] pos) (tE G (wE F cg (.listr (.range2 a b)))) := by
  refine PE.weak (pe_listRg g.calm (g.gl_of h1) (g.blt _ (by decide)) (prg_2 (g.gl_of h2) (g.blt _ (by decide)) ha hb (plain_star hp _ _) (plain_star hp2 _ _) (by rw [plain_star hp2]; rfl))) fun σ H Q h => ?_
  obtain ⟨Z, env, ok, eo, h⟩ := h
  unfold wE wI at h
  refine ⟨Z, env, ok, eo, oE_mono g a env _ _ (fun d q Z1 H1 v x1 r1 => ?_) h⟩
  refine ⟨Z1, env, x1.ok, eo.ext x1, oE_mono g b env _ _ (fun e q Z2 H2 w x2 r2 => ?_) q⟩
  cases d with
  | int i =>
    cases e with
    | int j =>
      have e1 := r1.int
      have e2 := r2.int
      subst e1 e2
      obtain ⟨b1, b2, q⟩ := q
      rw [e_listr1.rangeD_l] at b2
      exact ⟨i, j, rfl, rfl, ⟨b1.1, b1.2.1, b1.2.2.1, b1.2.2.2, b2⟩, fun q0 hq => kT.ol x2.ok (kT.ext (x1.trans ok x2) ok q) hq (e_listr1.rg_rep i j)⟩
    | _ => exact False.elim q
  | _ => exact False.elim q
theorem lst_at {Z : Zt} {H : Hp} {ds : List D} {v : V} (ok : ZOk G Z H) (r : RepD G Z H (.lst ds) v) : ∃ a vs, v = .ref a ∧ H a = some (.lst vs) ∧ RepL G Z ds vs ∧ Z.nd a := by
  obtain ⟨t, e, q⟩ := r
  cases q with
  | v q =>
    cases e
    cases q with
    | lst s r => exact ⟨_, _, rfl, ok.le _ _ s, r, ok.ndF s⟩
  | ol _ hn h r => cases e; exact ⟨_, _, rfl, h, r, hn⟩
  | od => cases e
  | op => cases e
  | ob => cases e
theorem i_zip {a b : E} {a' b' : Expr} {p tpos : Pos} {elts : List Expr} {kk : Nat} (h1 : glbB sc "zip" = true) (ha : PE X a' (tO G (oE F cg a))) (hb : PE X b' (tO G (oE F cg b))) (hp : plainB a' = true) (hp2 : plainB b' = true) : PI X (.Tuple elts kk tpos) (.Call (.Name "zip" p) [a', b'] [] pos) (tI G (wI F cg (.zip a b))) := by
  refine PI.weak (piZipB (g.gl_of h1) (g.blt _ (by decide)) (pa_cons ha (pa_cons hb pa_nil (plain_star hp2 _ _)) (plain_star hp _ _)) (plain_star hp _ _) (by rw [plain_star hp2]; rfl)) fun σ H R h => ?_
  obtain ⟨Z, env, ok, eo, h⟩ := h
  unfold wI at h
  refine ⟨Z, env, ok, eo, oE_mono g a env _ _ (fun d q Z1 H1 v x1 r1 => ?_) h⟩
  refine ⟨Z1, env, x1.ok, eo.ext x1, oE_mono g b env _ _ (fun e q Z2 H2 w x2 r2 => ?_) q⟩
  have r1' := x2.repD r1
  have x12 := x1.trans ok x2
  split at q
  · obtain ⟨p1, vs, e1, f1, s1, l1⟩ := r1'.tup x2.ok
    obtain ⟨p2, ws, e2, f2, s2, l2⟩ := r2.tup x2.ok
    subst e1 e2
    exact ⟨p1, p2, vs, ws, rfl, .inr (.inl ⟨g.K ▸ s1, g.K ▸ s2, q _ Z2 H2 (fun _ => False) x12 (fun _ z => z.elim) (it_zipT g.K f1 f2 l1 l2)⟩)⟩
  · obtain ⟨p1, vs, e1, s1, l1, n1⟩ := lst_at g x2.ok r1'
    obtain ⟨p2, ws, e2, s2, l2, n2⟩ := lst_at g x2.ok r2
    subst e1 e2
    refine ⟨p1, p2, vs, ws, rfl, .inl ⟨.inl (.inl s1), .inl (.inl s2), q _ Z2 H2 (fun b => b = p1 ∨ b = p2) x12 (fun b z => ?_) (it_zipL s1 s2 (.inl (.inl rfl)) (.inl (.inr rfl)) l1 l2)⟩⟩
    rcases z with z | z
    · rw [z]
      exact ⟨n1, by rw [s1]; exact fun z => nomatch z⟩
    · rw [z]
      exact ⟨n2, by rw [s2]; exact fun z => nomatch z⟩
  · obtain ⟨p1, vs, e1, f1, s1, l1⟩ := r1'.tup x2.ok
    obtain ⟨p2, ws, e2, s2, l2, n2⟩ := lst_at g x2.ok r2
    subst e1 e2
    refine ⟨p1, p2, vs, ws, rfl, .inr (.inr ⟨g.K ▸ s1, .inl (.inl s2), q _ Z2 H2 (fun b => b = p2) x12 (fun b z => ?_) (it_zipM g.K f1 s2 (.inl rfl) l1 l2)⟩)⟩
    rw [z]
    exact ⟨n2, by rw [s2]; exact fun z => nomatch z⟩
  · exact q.elim
theorem i_enum {a : E} {a' : Expr} {p tpos : Pos} {elts : List Expr} {kk : Nat} (h1 : glbB sc "enumerate" = true) (ha : PE X a' (tO G (oE F cg a))) (hp : plainB a' = true) : PI X (.Tuple elts kk tpos) (.Call (.Name "enumerate" p) [a'] [] pos) (tI G (wI F cg (.enum a))) := by
  refine PI.weak (piEnumA (g.gl_of h1) (g.blt _ (by decide)) (pa_cons ha pa_nil (plain_star hp _ _)) (by rw [plain_star hp]; rfl)) fun σ H R h => ?_
  obtain ⟨Z, env, ok, eo, h⟩ := h
  unfold wI at h
  refine ⟨Z, env, ok, eo, oE_mono g a env _ _ (fun d q Z1 H1 v x1 r1 => ?_) h⟩
  split at q
  · obtain ⟨p1, vs, e1, s1, l1, n1⟩ := lst_at g x1.ok r1
    subst e1
    refine ⟨p1, vs, rfl, .inl ⟨.inl (.inl s1), q _ Z1 H1 (fun b => b = p1) x1 (fun b z => ?_) (it_enum s1 (.inl rfl) l1)⟩⟩
    rw [z]
    exact ⟨n1, by rw [s1]; exact fun z => nomatch z⟩
  · obtain ⟨p1, vs, e1, f1, s1, l1⟩ := r1.tup x1.ok
    subst e1
    exact ⟨p1, vs, rfl, .inr ⟨g.K ▸ s1, q _ Z1 H1 (fun _ => False) x1 (fun _ z => z.elim) (it_enumT g.K f1 l1)⟩⟩
  · exact q.elim
theorem op_val {e : E} {env : Env} {Q : D → Prop} (fz : eFz e env) (h : wOp e (wE F cg e env) env Q) : wE F cg e env fun t => Q t.d := by
  unfold wOp at h
  cases e with
  | var i =>
    unfold wE
    unfold eFz at fz
    simp only at fz h
    revert h fz
    cases slot env i with
    | none => exact fun _ h => h
    | some t =>
      cases t with
      | v d => exact fun _ h => h
      | ol => exact fun fz _ => fz.elim
      | od => exact fun fz _ => fz.elim
      | op => exact fun fz _ => fz.elim
      | ob => exact fun fz _ => fz.elim
  | _ => exact h
theorem if_zip {a b : E} {a' b' : Expr} {p tpos : Pos} {elts : List Expr} {kk : Nat} (h1 : glbB sc "zip" = true) (ha : PE X a' (tE G (wE F cg a))) (hb : PE X b' (tE G (wE F cg b))) (hp : plainB a' = true) (hp2 : plainB b' = true) : PI X (.Tuple elts kk tpos) (.Call (.Name "zip" p) [a', b'] [] pos) (tIf G (.zip a b) (wI F cg (.zip a b))) := by
  refine PI.weak (piZipB (g.gl_of h1) (g.blt _ (by decide)) (pa_cons ha (pa_cons hb pa_nil (plain_star hp2 _ _)) (plain_star hp _ _)) (plain_star hp _ _) (by rw [plain_star hp2]; rfl)) fun σ H R h => ?_
  obtain ⟨Z, env, ok, eo, fz, h⟩ := h
  have fz : eFz a env ∧ eFz b env := fz
  unfold wI at h
  refine ⟨Z, env, ok, eo, wE_mono g.mono a env _ _ (fun t q => ?_) (op_val g fz.1 h)⟩
  intro Z1 H1 v x1 r1 f1
  obtain ⟨Z1, x1, r1, _⟩ := frz x1 ok r1 f1
  refine ⟨Z1, env, x1.ok, eo.ext x1, wE_mono g.mono b env _ _ (fun u q => ?_) (op_val g fz.2 q)⟩
  intro Z2 H2 w x2 r2 f2
  obtain ⟨Z2, x2, r2, _⟩ := frz x2 x1.ok r2 f2
  have r1' := x2.repF r1
  have x12 := x1.trans ok x2
  generalize t.d = d at q r1'
  generalize u.d = e at q r2
  split at q
  · cases r1' with
    | tup s1 l1 =>
      cases r2 with
      | tup s2 l2 => exact ⟨_, _, _, _, rfl, .inr (.inl ⟨g.K ▸ sqT_mono x2.ok.le s1, g.K ▸ sqT_mono x2.ok.le s2, q _ Z2 H2 x12 (it_zipT g.K s1 s2 l1 l2)⟩)⟩
  · cases r1' with
    | lst s1 l1 =>
      cases r2 with
      | lst s2 l2 => exact ⟨_, _, _, _, rfl, .inl ⟨.inl (.inl (x2.ok.le _ _ s1)), .inl (.inl (x2.ok.le _ _ s2)), q _ Z2 H2 x12 (it_zipL (x2.ok.le _ _ s1) (x2.ok.le _ _ s2) (.inr s1) (.inr s2) l1 l2)⟩⟩
  · cases r1' with
    | tup s1 l1 =>
      cases r2 with
      | lst s2 l2 => exact ⟨_, _, _, _, rfl, .inr (.inr ⟨g.K ▸ sqT_mono x2.ok.le s1, .inl (.inl (x2.ok.le _ _ s2)), q _ Z2 H2 x12 (it_zipM g.K s1 (x2.ok.le _ _ s2) (.inr s2) l1 l2)⟩)⟩
  · exact q.elim
theorem if_enum {a : E} {a' : Expr} {p tpos : Pos} {elts : List Expr} {kk : Nat} (h1 : glbB sc "enumerate" = true) (ha : PE X a' (tE G (wE F cg a))) (hp : plainB a' = true) : PI X (.Tuple elts kk tpos) (.Call (.Name "enumerate" p) [a'] [] pos) (tIf G (.enum a) (wI F cg (.enum a))) := by
  refine PI.weak (piEnumA (g.gl_of h1) (g.blt _ (by decide)) (pa_cons ha pa_nil (plain_star hp _ _)) (by rw [plain_star hp]; rfl)) fun σ H R h => ?_
  obtain ⟨Z, env, ok, eo, fz, h⟩ := h
  have fz : eFz a env := fz
  unfold wI at h
  refine ⟨Z, env, ok, eo, wE_mono g.mono a env _ _ (fun t q => ?_) (op_val g fz h)⟩
  intro Z1 H1 v x1 r1 f1
  obtain ⟨Z1, x1, r1, _⟩ := frz x1 ok r1 f1
  generalize t.d = d at q r1
  split at q
  · cases r1 with
    | lst s1 l1 => exact ⟨_, _, rfl, .inl ⟨.inl (.inl (x1.ok.le _ _ s1)), q _ Z1 H1 x1 (it_enum (x1.ok.le _ _ s1) (.inr s1) l1)⟩⟩
  · cases r1 with
    | tup s1 l1 => exact ⟨_, _, rfl, .inr ⟨g.K ▸ sqT_mono x1.ok.le s1, q _ Z1 H1 x1 (it_enumT g.K s1 l1)⟩⟩
  · exact q.elim
variable (ok0 : ZOk G Z0 H0)
include ok0
theorem s_extend {i : Nat} {x : Str} {e : E} {e' : Expr} {p apos cpos : Pos} (h1 : c.N[i]? = some x) (h2 : visB sc x = true) (h3 : okN x = true) (he : PE X e' (tO G (oE F cg e))) (hpe : plainB e' = true) (hl : (apos.endLine == cpos.line) = true) :
    PS X (.Expr (.Call (.Attribute (.Name x p) "extend" apos) [e'] [] cpos) pos) (tS G Z0 H0 (wS F cg (.extend i e))) := by
  obtain ⟨k1, k2, _⟩ := okN_of h3
  have hs := plain_star hpe [] X.env
  have few : ((backTo cpos (starEach [e'] X.env)).all (fun x => !x.1) && (backToKw cpos (keywordEach [] X.env)).all (fun x => x.1.isSome)
      && decide ([e'].length + ([] : List Keyword).length + (if ([] : List Keyword).isEmpty then 0 else 1) < 30)) = true := by
    rw [hs]
    rfl
  refine PS.weak (ps_expr (pe_bm PySem.F.plainAttrs_list PySem.F.slot_list_extend PySem.F.type_list_extend mt_extend (pe_var (i := i) (by rw [g.N]; exact h1) (by rw [g.sc]; exact visB_of h2) k1 k2) (pa_cons he pa_nil hs) (plain_base rfl _ _) few hl hs rfl) rfl) fun D σ H h => ?_
  obtain ⟨Z, env, x0, es, h⟩ := h
  unfold wS at h
  split at h
  · rename_i ds ht
    obtain ⟨v, e1, r⟩ := es.ok.get i _ ht
    cases r with
    | @ol a _ vs hF hn hH rl =>
      refine ⟨.ref a, e1, .inl ⟨rfl, vs, .inl (.inl hH)⟩, Z, env, x0.ok, es.ok, oE_mono g e env _ _ (fun d q Z1 H1 y x1 r1 => ?_) h⟩
      cases d with
      | lst xs =>
        obtain ⟨b, ws, e2, s2, l2⟩ := r1.lst x1.ok
        subst e2
        have hne : H a ≠ none := by rw [hH]; exact fun z => nomatch z
        have hH2 := x1.keep a _ hH hn
        have hF2 := x1.freeF hF hne
        have hn2 := x1.nd hne hn
        have h0 := es.own i _ a ht rfl e1
        refine ⟨a, b, vs, ws, rfl, rfl, hH2, s2, by rw [← rl.length, ← l2.length, szl]; exact q.1, ?_⟩
        refine q.2 Z1 _ σ ((x0.trans ok0 x1).put h0 hF2 hn2) x1.grow ?_
        exact (es.ext x1).put ht rfl rfl e1 (.ol hF2 hn2 upd_same ((x1.repL rl).append l2))
      | _ => exact False.elim q
  · exact h.elim
theorem s_dupd {i : Nat} {x : Str} {e : E} {e' : Expr} {p apos cpos : Pos} (h1 : c.N[i]? = some x) (h2 : visB sc x = true) (h3 : okN x = true) (he : PE X e' (tE G (wE F cg e))) (hpe : plainB e' = true) (hl : (apos.endLine == cpos.line) = true) :
    PS X (.Expr (.Call (.Attribute (.Name x p) "update" apos) [e'] [] cpos) pos) (tS G Z0 H0 (wS F cg (.dupd i e))) := by
  obtain ⟨k1, k2, _⟩ := okN_of h3
  have hs := plain_star hpe [] X.env
  have few : ((backTo cpos (starEach [e'] X.env)).all (fun x => !x.1) && (backToKw cpos (keywordEach [] X.env)).all (fun x => x.1.isSome)
      && decide ([e'].length + ([] : List Keyword).length + (if ([] : List Keyword).isEmpty then 0 else 1) < 30)) = true := by
    rw [hs]
    rfl
  refine PS.weak (ps_expr (pe_bm PySem.F.plainAttrs_dict PySem.F.slot_dict_update PySem.F.type_dict_update mt_dupd (pe_var (i := i) (by rw [g.N]; exact h1) (by rw [g.sc]; exact visB_of h2) k1 k2) (pa_cons he pa_nil hs) (plain_base rfl _ _) few hl hs rfl) rfl) fun D σ H h => ?_
  obtain ⟨Z, env, x0, es, h⟩ := h
  unfold wS at h
  split at h
  · rename_i kvs ht
    obtain ⟨v, e1, r⟩ := es.ok.get i _ ht
    cases r with
    | @od a _ vs hF hn hH rl =>
      refine ⟨.ref a, e1, .inr (.inr (.inl ⟨rfl, .inl ⟨vs, hH⟩⟩)), Z, env, x0.ok, es.ok, wE_mono g.mono e env _ _ (fun t q => ?_) h⟩
      intro Z1 H1 y x1 r1 f1
      obtain ⟨Z2, x2, r2, _⟩ := frz x1 x0.ok r1 f1
      have hne : H a ≠ none := by rw [hH]; exact fun z => nomatch z
      have hH2 := x2.keep a _ hH hn
      have hF2 := x2.freeF hF hne
      have hn2 := x2.nd hne hn
      have h0 := es.own i _ a ht rfl e1
      generalize t.d = d at q r2
      split at q
      · cases r2 with
        | @dct b _ ws s2 l2 =>
          have nab : a ≠ b := fun z => by
            rw [z, s2] at hF2
            cases hF2
          refine ⟨a, b, vs, ws, rfl, rfl, nab, hH2, x2.ok.le _ _ s2, by rw [← repK_len rl, ← repK_len l2, szl]; exact q.1, ?_⟩
          refine q.2 Z2 _ σ ((x0.trans ok0 x2).put h0 hF2 hn2) x2.grow ?_
          exact (es.ext x2).put ht rfl rfl e1 (.od hF2 hn2 upd_same (repK_merge l2 (x2.repK rl)))
      · exact q.elim
  · exact h.elim
theorem s_aug {i : Nat} {x : Str} {op : Bop} {e : E} {e' : Expr} {py : Pos} (h1 : c.N[i]? = some x) (h2 : L2.Loc X.env.scope x ∧ (X.fn x = true ∨ X.env.scope.names.lookup x = some .local)) (he : PE X e' (tO G (oE F cg e))) :
    PS X (.AugAssign (.Name x py) op.py e' pos) (tS G Z0 H0 (wS F cg (.aug i op e))) := by
  by_cases hop : op = .add ∨ op = .sub
  · have ip : PIp X op.py (ipI fun a b => if op = .add then a + b else a - b) := by
      rcases hop with rfl | rfl
      · exact ip_add
      · exact ip_sub
    refine PS.weak (ps_aug (i := i) (by rw [g.N]; exact g.nd) (by rw [g.N]; exact h1) h2.1 he ip h2.2) fun D σ H h => ?_
    obtain ⟨Z, env, x0, es, h⟩ := h
    unfold wS at h
    split at h
    · rename_i a ht
      obtain ⟨v, e1, r⟩ := es.ok.get i _ ht
      have ev := r.toD.int
      subst ev
      refine ⟨.int a, e1, Z, env, x0.ok, es.ok, oE_mono g e env _ _ (fun d q Z1 H1 y x1 r1 => ?_) h.2⟩
      cases d with
      | int b =>
        have e2 := r1.int
        subst e2
        exact ⟨a, b, rfl, rfl, q Z1 H1 _ (x0.trans ok0 x1) x1.grow ((es.ext x1).data (.int _))⟩
      | _ => exact False.elim q
    · exact h.elim
  · refine ⟨fun pins s σ H D I h => ?_⟩
    obtain ⟨Z, env, x0, es, h⟩ := h
    unfold wS at h
    split at h
    · exact absurd h.1 hop
    · exact h.elim
theorem s_lput {i : Nat} {x : Str} {ke e : E} {ke' e' : Expr} {p p2 : Pos} (h1 : c.N[i]? = some x) (h2 : visB sc x = true) (h3 : okN x = true) (hk : PE X ke' (tO G (oE F cg ke))) (hpk : plainB ke' = true) (he : PE X e' (tE G (wE F cg e))) (hs : swapsWithSole [.Subscript (.Name x p) ke' p2] e' pos.line X.env = pure false) (hw : swappedStores [.Subscript (.Name x p) ke' p2] e' X.env = pure none) :
    PS X (.Assign [.Subscript (.Name x p) ke' p2] e' pos) (tS G Z0 H0 (wS F cg (.lput i ke e))) := by
  obtain ⟨k1, k2, _⟩ := okN_of h3
  refine PS.weak (ps_asg he (pg_sub (pe_var (i := i) (by rw [g.N]; exact h1) (by rw [g.sc]; exact visB_of h2) k1 k2) hk set_list (by
    intro v
    cases ke' <;> first | rfl | (cases hpk; done))) hs hw rfl) fun D σ H h => ?_
  obtain ⟨Z, env, x0, es, h⟩ := h
  unfold wS at h
  split at h
  · rename_i ds ht
    obtain ⟨v, e1, r⟩ := es.ok.get i _ ht
    cases r with
    | @ol a _ vs hF hn hH rl =>
      have h0 := es.own i _ a ht rfl e1
      refine ⟨Z, env, x0.ok, es.ok, wE_mono g.mono e env _ _ (fun t q => ?_) h⟩
      intro Z1 H1 y x1 r1 f1
      obtain ⟨Z2, x2, r2, _⟩ := frz x1 x0.ok r1 f1
      refine ⟨.ref a, e1, Z2, env, x2.ok, (es.ext x2).ok, oE_mono g ke env _ _ (fun kd q => ?_) q⟩
      intro Z3 H3 w x3 r3
      cases kd with
      | int n =>
        have ew := r3.int
        subst ew
        cases hj : ixN ds.length n with
        | none =>
          dsimp only at q
          rw [hj] at q
          exact q.elim
        | some j =>
          dsimp only at q
          rw [hj] at q
          have x23 := x2.trans x0.ok x3
          have hne : H a ≠ none := by rw [hH]; exact fun z => nomatch z
          have hH3 := x23.keep a _ hH hn
          have hF3 := x23.freeF hF hne
          have hn3 := x23.nd hne hn
          refine ⟨a, vs, n, j, rfl, rfl, hH3, by rw [← rl.length]; exact hj, ?_⟩
          refine q Z3 _ σ ((x0.trans ok0 x23).put h0 hF3 hn3) x23.grow ?_
          exact (es.ext x23).put ht rfl rfl e1 (.ol hF3 hn3 upd_same (RepL.set (x3.repF r2) j (x23.repL rl)))
      | _ => exact False.elim q
  · exact h.elim
theorem pop_tail {tg : Tg} {i : Nat} {ds r : List D} {d : D} {D : Ends} {Z Z1 : Zt} {H H1 : Hp} {σ : St} {env : Env} {vs vr : List V} {v : V} {a : Addr} (x0 : Ext G Z0 H0 Z H) (es : EnvS G H0 Z H σ env) (ht : slot env i = some (.ol ds)) (e1 : σ[i]? = some (some (.ref a))) (hF : Z.F a = none) (hn : Z.nd a) (hH : H a = some (.lst vs)) (x1 : Ext G Z H Z1 H1)
    (rr : RepL G Z1 r vr) (rd : RepF G Z1 d v) (q : match wTg tg d (env.set i (some (.ol r))) with | some env' => (kS G Z0 H0 Z D).nx env' | none => False) : gOf X.K tg v σ (upd H1 a (.lst vr)) fun σ2 H2 => D.nx σ2 H2 := by
  have hne : H a ≠ none := by rw [hH]; exact fun z => nomatch z
  have hF2 := x1.freeF hF hne
  have hn2 := x1.nd hne hn
  have h0 := es.own i _ a ht rfl e1
  have x2 := (x0.trans ok0 x1).put (o := .lst vr) h0 hF2 hn2
  have es2 := (es.ext x1).put (o := .lst vr) (t' := .ol r) ht rfl rfl e1 (.ol hF2 hn2 upd_same rr)
  cases hwt : wTg tg d (env.set i (some (.ol r))) with
  | none => rw [hwt] at q; exact q.elim
  | some env' =>
    rw [hwt] at q
    exact g.K ▸ gOfS x2.ok es2 rd hwt fun σ' e' => q Z1 _ σ' x2 x1.grow e'
theorem s_pop0 {tg : Tg} {i : Nat} {x : Str} {tg' : Expr} {p apos cpos : Pos} (hg : isTg c osc tg tg' = true) (h1 : c.N[i]? = some x) (h2 : visB sc x = true) (h3 : okN x = true) (hl : (apos.endLine == cpos.line) = true) :
    PS X (.Assign [tg'] (.Call (.Attribute (.Name x p) "pop" apos) [] [] cpos) pos) (tS G Z0 H0 (wS F cg (.pop tg i .none))) := by
  obtain ⟨k1, k2, _⟩ := okN_of h3
  have pe := pe_bm0 PySem.F.plainAttrs_list PySem.F.slot_list_pop PySem.F.type_list_pop mt_pop (pe_var (X := X) (i := i) (pos := p) (by rw [g.N]; exact h1) (by rw [g.sc]; exact visB_of h2) k1 k2) (cpos := cpos) (plain_base rfl _ _) hl
  have key : PS X (.Assign [tg'] (.Call (.Attribute (.Name x p) "pop" apos) [] [] cpos) pos) (tAsg (tBM0 X.K "list" rPop (tVar i)) (gOf X.K tg)) := by
    cases tg with
    | name j =>
      cases tg' <;> first | (cases hg; done) | skip
      simp only [isTg, Bool.and_eq_true, decide_eq_true_eq] at hg
      obtain ⟨o1, o2⟩ := g.own _ hg.2
      exact ps_set (i := j) (by rw [g.N]; exact g.nd) (by rw [g.N]; exact hg.1) o1 pe (swaps_no _ _ _ rfl fun _ _ _ _ z => nomatch z) o2
    | tup is =>
      cases tg' <;> first | (cases hg; done) | skip
      exact ps_asg pe (g_tg (tg := .tup is) g hg) rfl rfl rfl
  refine PS.weak key fun D σ H h => ?_
  obtain ⟨Z, env, x0, es, h⟩ := h
  unfold wS wP at h
  split at h
  · rename_i ds ht
    obtain ⟨v, e1, r⟩ := es.ok.get i _ ht
    cases r with
    | @ol a _ vs hF hn hH rl =>
      refine ⟨.ref a, e1, .inl ⟨rfl, vs, .inl (.inl hH)⟩, ?_⟩
      unfold popAt at h
      cases hd : ds[ds.length - 1]? with
      | none => rw [hd] at h; exact h.elim
      | some d =>
        rw [hd] at h
        obtain ⟨w, w1, w2⟩ := rl.getD hd
        refine ⟨a, vs, w, rfl, rfl, hH, by rw [← rl.length]; exact w1, ?_⟩
        have hdl : ∀ {as : List LC.D} {bs : List V}, RepL G Z as bs → RepL G Z as.dropLast bs.dropLast := fun {as bs} q => by
          rw [List.dropLast_eq_take, List.dropLast_eq_take, q.length]
          exact q.take _
        exact pop_tail g ok0 x0 es ht e1 hF hn hH (.refl x0.ok) (hdl rl) w2 h
  · exact h.elim
theorem s_pop1 {tg : Tg} {i : Nat} {x : Str} {e : E} {tg' e' : Expr} {p apos cpos : Pos} (hg : isTg c osc tg tg' = true) (h1 : c.N[i]? = some x) (h2 : visB sc x = true) (h3 : okN x = true) (he : PE X e' (tO G (oE F cg e))) (hpe : plainB e' = true) (hl : (apos.endLine == cpos.line) = true) :
    PS X (.Assign [tg'] (.Call (.Attribute (.Name x p) "pop" apos) [e'] [] cpos) pos) (tS G Z0 H0 (wS F cg (.pop tg i (.some e)))) := by
  obtain ⟨k1, k2, _⟩ := okN_of h3
  have hs := plain_star hpe [] X.env
  have few : ((backTo cpos (starEach [e'] X.env)).all (fun x => !x.1) && (backToKw cpos (keywordEach [] X.env)).all (fun x => x.1.isSome)
      && decide ([e'].length + ([] : List Keyword).length + (if ([] : List Keyword).isEmpty then 0 else 1) < 30)) = true := by
    rw [hs]
    rfl
  have pe := pe_bm PySem.F.plainAttrs_list PySem.F.slot_list_pop PySem.F.type_list_pop mt_popAt (pe_var (X := X) (i := i) (pos := p) (by rw [g.N]; exact h1) (by rw [g.sc]; exact visB_of h2) k1 k2) (pa_cons he pa_nil hs) (cpos := cpos) (plain_base rfl _ _) few hl hs rfl
  have key : PS X (.Assign [tg'] (.Call (.Attribute (.Name x p) "pop" apos) [e'] [] cpos) pos) (tAsg (tBM X.K "list" rPopAt (tVar i) (tCons (tO G (oE F cg e)) tNil)) (gOf X.K tg)) := by
    cases tg with
    | name j =>
      cases tg' <;> first | (cases hg; done) | skip
      simp only [isTg, Bool.and_eq_true, decide_eq_true_eq] at hg
      obtain ⟨o1, o2⟩ := g.own _ hg.2
      exact ps_set (i := j) (by rw [g.N]; exact g.nd) (by rw [g.N]; exact hg.1) o1 pe (swaps_no _ _ _ rfl fun _ _ _ _ z => nomatch z) o2
    | tup is =>
      cases tg' <;> first | (cases hg; done) | skip
      exact ps_asg pe (g_tg (tg := .tup is) g hg) rfl rfl rfl
  refine PS.weak key fun D σ H h => ?_
  obtain ⟨Z, env, x0, es, h⟩ := h
  unfold wS wP at h
  split at h
  · rename_i ds ht
    obtain ⟨v, e1, r⟩ := es.ok.get i _ ht
    cases r with
    | @ol a _ vs hF hn hH rl =>
      refine ⟨.ref a, e1, .inl ⟨rfl, vs, .inl (.inl hH)⟩, Z, env, x0.ok, es.ok, oE_mono g e env _ _ (fun y q Z1 H1 w x1 r1 => ?_) h⟩
      cases y with
      | int n =>
        have e2 := r1.int
        subst e2
        have q : match (if 0 ≤ n ∧ n < 1152921504606846976 then (ds[n.toNat]?).map fun d => (d, ds.eraseIdx n.toNat) else none) with
          | some (d, r) => match wTg tg d (env.set i (some (.ol r))) with
            | some env' => (kS G Z0 H0 Z D).nx env'
            | none => False
          | none => False := q
        by_cases hb : 0 ≤ n ∧ n < 1152921504606846976
        · rw [if_pos hb] at q
          cases hd : ds[n.toNat]? with
          | none => rw [hd] at q; exact q.elim
          | some d =>
            rw [hd] at q
            obtain ⟨w, w1, w2⟩ := rl.getD hd
            have hlt : n.toNat < vs.length := (List.getElem?_eq_some_iff.mp w1).1
            have her : ∀ {as : List LC.D} {bs : List V} (j : Nat), RepL G Z as bs → RepL G Z (as.eraseIdx j) (bs.eraseIdx j) := fun {as bs} j q => by
              rw [List.eraseIdx_eq_take_drop_succ, List.eraseIdx_eq_take_drop_succ]
              exact (q.take _).append (q.drop _)
            refine ⟨a, vs, n, n.toNat, w, rfl, rfl, x1.keep a _ hH hn, by omega, by omega, seqIndex_of hb.1 (by omega), w1, ?_⟩
            exact pop_tail g ok0 x0 es ht e1 hF hn hH x1 (x1.repL (her _ rl)) (x1.repF w2) q
        · rw [if_neg hb] at q
          exact q.elim
      | _ => exact False.elim q
  · exact h.elim
end
end LC

namespace L2
open PySem PySem.Spec PyProof.Rows
section
variable {X : Cx}
theorem list_choice {α : Type} {P : Nat → α → Prop} : ∀ n : Nat, (∀ j, j < n → ∃ x, P j x) → ∃ l : List α, l.length = n ∧ ∀ j x, l[j]? = some x → P j x
  | 0, _ => ⟨[], rfl, fun j x e => by simp at e⟩
  | n + 1, h => by
    obtain ⟨l, e1, e2⟩ := list_choice n fun j hj => h j (Nat.lt_succ_of_lt hj)
    obtain ⟨x, hx⟩ := h n (Nat.lt_succ_self n)
    refine ⟨l ++ [x], by rw [List.length_append, e1]; rfl, fun j y e => ?_⟩
    by_cases hj : j < l.length
    · rw [List.getElem?_append_left hj] at e
      exact e2 j y e
    · rw [List.getElem?_append_right (by omega)] at e
      have : j - l.length = 0 := by
        have := (List.getElem?_eq_some_iff.mp e).1
        rw [List.length_singleton] at this
        omega
      rw [this] at e
      cases e
      rw [show j = n by omega]
      exact hx
theorem isTuple_of {h : Heap} {a : Addr} {its : Array Value} (x : IsTup h a its) : h.IsTuple a its := x
theorem call_dictPT (hcalm : X.calm = true) : CallR X (.type "dict") (fun xs H Q => ∃ (a : Addr) (ob : Obj) (ps : List Addr) (kvs : List (Key × V)), xs = [.ref a] ∧ H a = some (.frz ob (.tup (ps.map V.ref))) ∧ ob.cls = .type "tuple" ∧ ob.dict = none ∧ Paired (fun p kv => SqT X.K H p [kV kv.1, kv.2]) ps kvs ∧
    ∀ p, H p = none → Q (.ref p) (upd H p (.dK (mergeK [] kvs)))) := by
  intro pins s σ H xs us Q I r q
  obtain ⟨a, ob, ps, kvs, ex, hq, hcl, hdc, hp, q⟩ := q
  subst ex
  obtain ⟨u, eu, rx⟩ := vals1 r
  subst eu
  cases rx
  obtain ⟨hget, hz, its, rv, o', ho', hc', n, hdat⟩ := (show ObjOk X.prog X.w H s.heap a (.frz ob (.tup (ps.map V.ref))) from I.hok a _ hq)
  rw [hget] at ho'
  cases ho'
  have ei := refs_at rv
  subst ei
  rw [List.length_map] at hz
  obtain ⟨prs, rel, hl, hpr⟩ := pairs_of I hp
  obtain ⟨vs, hlen, hvs⟩ := list_choice (P := fun j (x : Value × Value) => ∃ (b : Addr) (q : Key × Value), prs[j]? = some q ∧ ps[j]? = some b ∧ IsTup s.heap b #[x.1, x.2] ∧ keyIs q.1 x.1 = true ∧ x.2 = q.2) prs.length fun j hj => by
    obtain ⟨b, u, e1, e2, e3⟩ := hpr j prs[j] (List.getElem?_eq_getElem hj)
    exact ⟨(u, prs[j].2), b, prs[j], List.getElem?_eq_getElem hj, e1, e2, e3, rfl⟩
  refine PySem.call_dict_pairs (knd := mixKind X.prog X.w) (kvs := prs) (PairArg.tuple a (ps.map Value.ref).toArray (fun j => ps.getD j 0) vs) (I.ok.hd hcalm) ⟨⟨ob, n, hget, hcl, hdc, hdat⟩, ?_, fun j k v e => ?_⟩ ⟨hlen.symm, fun j k v e => ?_⟩ (by rw [hlen, hl]; exact hz) fun h' tk hd' k => ?_
  · rw [List.size_toArray, List.length_map, hlen, hl]
  · obtain ⟨b, q, e1, e2, e3, e4, e5⟩ := hvs j _ e
    refine ⟨?_, .inl ?_⟩
    · rw [List.getElem?_toArray, List.getElem?_map, e2]
      show some (Value.ref b) = some (Value.ref (ps.getD j 0))
      rw [List.getD_eq_getElem?_getD, e2]
      rfl
    · show s.heap.IsTuple (ps.getD j 0) _
      rw [List.getD_eq_getElem?_getD, e2]
      exact isTuple_of e3
  · obtain ⟨b, q, e1, e2, e3, e4, e5⟩ := hvs j _ e
    have e5 : v = q.2 := e5
    refine ⟨q.1, by rw [e1, e5], e4⟩
  · have hm : (s.heap.objs.size == sysModules) = false := beq_eq_false_iff_ne.mpr (Nat.ne_of_gt I.big)
    have hlen : (mergeK [] kvs).length ≤ sizeLine := by
      refine Nat.le_trans (length_mergeK kvs []) ?_
      rw [List.length_nil, Nat.zero_add, rel.length, hl]
      exact hz
    exact ⟨.ref s.heap.objs.size, upd H s.heap.objs.size (.dK (mergeK [] kvs)), I.laid (t' := tk) (fun b o e => k b o (by simp) e) (Nat.le_refl _) (show ObjOk X.prog X.w _ _ _ (.dK (mergeK [] kvs)) from ⟨hlen, hm, merged [] prs, KV.merge rel .nil, hd'⟩), rfl, q _ (I.hok.fresh (Nat.le_refl _))⟩
end
end L2
namespace LC
open PySem L2
section
variable {c : Cs} {G : Gx} {F : Nat → List D → (D → Prop) → Prop} {cg : Nat → D} {k : Nat} {sc osc : Scope} {X : Cx} {pos : Pos}
theorem Ext.lays {Z : Zt} {H H' : Hp} (ok : ZOk G Z H) {ts : List Addr} (hk : ∀ b o, H b = some o → H' b = some o) (hn : ∀ t ∈ ts, H t = none) : Ext G Z H ⟨fun b => if b ∈ ts then H' b else Z.F b, Z.dk⟩ H' := by
  have eq : ∀ b, H b ≠ none → H' b = H b := fun b hb => by
    cases q : H b with
    | none => exact absurd q hb
    | some o => exact hk b o q
  have out : ∀ b, H b ≠ none → b ∉ ts := fun b hb z => hb (hn b z)
  refine ⟨⟨fun b o e => ?_, fun x y e => ?_, ok.dj⟩, fun b o e => ?_, fun p e => e, fun b o e _ => hk b o e, fun b o e n => ?_, fun p e => .inl e⟩
  · have e' : (if b ∈ ts then H' b else Z.F b) = some o := e
    by_cases hb : b ∈ ts
    · rw [if_pos hb] at e'
      exact e'
    · rw [if_neg hb] at e'
      exact hk b o (ok.le b o e')
  · obtain ⟨h1, h2, h3⟩ := ok.dk x y e
    obtain ⟨t1, t2⟩ := G.there _ _ _ h1
    refine ⟨G.loc _ _ _ _ h1 (eq x t1) (eq y t2), ?_, ?_⟩
    · show (if x ∈ ts then H' x else Z.F x) = none
      rw [if_neg (out x t1)]
      exact h2
    · show (if y ∈ ts then H' y else Z.F y) = none
      rw [if_neg (out y t2)]
      exact h3
  · show (if b ∈ ts then H' b else Z.F b) = some o
    have : H b = some o := ok.le b o e
    rw [if_neg (out b (by rw [this]; exact fun z => nomatch z))]
    exact e
  · have e' : (if b ∈ ts then H' b else Z.F b) = some o := e
    by_cases hb : b ∈ ts
    · exact hn b hb
    · rw [if_neg hb, n] at e'
      cases e'
theorem items_rel {Z : Zt} {H H' : Hp} {ts0 : List Addr} (hF : ∀ t ∈ ts0, Z.F t = H' t) : ∀ {kvs : List (Key × D)} {vs : List (Key × V)} {ts : List Addr}, RepK G Z kvs vs → (∀ t ∈ ts, t ∈ ts0) → Paired (fun (t : Addr) (q : Key × V) => H' t = some (.tup [kV q.1, q.2])) ts vs → RepL G Z (itemsD kvs) (ts.map V.ref)
  | _, _, _, .nil, _, .nil => .nil
  | _, _, _, .cons gk r t, hin, .cons e p => by
    refine .cons (.tup (.inl (.inl ?_)) (.cons (key_back gk) (.cons r .nil))) (items_rel (H := H) hF t (fun x hx => hin x (List.mem_cons_of_mem _ hx)) p)
    rw [hF _ (hin _ List.mem_cons_self)]
    exact e
theorem pairs_rel {Z : Zt} {H : Hp} (ok : ZOk G Z H) : ∀ {ds : List D} {vs : List V} {kvs : List (Key × D)}, RepL G Z ds vs → pairsD ds = some kvs → ∃ ps kv, vs = ps.map V.ref ∧ RepK G Z kvs kv ∧ Paired (fun (p : Addr) (q : Key × V) => SqT G.K H p [kV q.1, q.2]) ps kv
  | _, _, kvs, .nil, h => by
    cases h
    exact ⟨[], [], rfl, .nil, .nil⟩
  | _, _, kvs, .cons (d := d) (v := v) r t, h => by
    cases d with
    | tup xs =>
      match xs, r, h with
      | [], _, h => cases h
      | [_], _, h => cases h
      | _ :: _ :: _ :: _, _, h => cases h
      | [k, d], r, h =>
        cases hk : k.key with
        | none =>
          rw [pairsD, hk] at h
          cases h
        | some key =>
          rw [pairsD, hk] at h
          have h : (pairsD _).map ((key, d) :: ·) = some kvs := h
          obtain ⟨kvs', e, rfl⟩ := Option.map_eq_some_iff.mp h
          obtain ⟨ps, kv, e1, r1, p1⟩ := pairs_rel ok t e
          obtain ⟨a, ws, ev, s, s2, rl⟩ := r.toD.tup ok
          subst ev
          cases rl with | cons q1 rl => ?_
          cases rl with | cons q2 rl => ?_
          cases rl
          obtain ⟨ek, gk⟩ := key_rep (H := H) hk q1.toD
          subst ek
          exact ⟨a :: ps, (key, _) :: kv, by rw [e1]; rfl, .cons gk q2 r1, .cons s2 p1⟩
    | _ => cases h
theorem repK_mergeD {Z : Zt} : ∀ {kvs : List (Key × D)} {kv : List (Key × V)} {acc : List (Key × D)} {av : List (Key × V)}, RepK G Z kvs kv → RepK G Z acc av → RepK G Z (kvs.foldl (fun acc kv => kput acc kv.1 kv.2) acc) (mergeK av kv)
  | _, _, _, _, .nil, ha => ha
  | _, _, _, _, .cons gk r t, ha => by
    have := repK_mergeD t (repK_put gk r ha)
    exact this
variable (g : Good c G F cg k sc osc X)
include g
theorem e_litems {a : E} {a' : Expr} {p apos cpos : Pos} (h1 : glbB sc "list" = true) (ha : PE X a' (tO G (oE F cg a))) (hp : plainB a' = true) (hl : (apos.endLine == cpos.line) = true) : PE X (.Call (.Name "list" p) [.Call (.Attribute a' "items" apos) [] [] cpos] [] pos) (tE G (wE F cg (.litems a))) := by
  refine PE.weak (LiI.pe_listItems g.calm ha (g.gl_of h1) (g.blt _ (by decide)) PyProof.Rows.boot_list (plain_base hp _ _) hl) fun σ H Q h => ?_
  obtain ⟨Z, env, ok, eo, h⟩ := h
  unfold wE at h
  refine ⟨Z, env, ok, eo, oE_mono g a env _ _ (fun d q Z1 H1 v x1 r1 => ?_) h⟩
  cases d with
  | dct kvs =>
    obtain ⟨d0, vs, ev, hd, rk⟩ := r1.dct x1.ok
    subst ev
    refine ⟨d0, vs, rfl, hd, fun H' p0 ts hk hp0 hts hnp hl hpr => ?_⟩
    have xl := Ext.lays x1.ok hk hts
    have q : kT G Z H Q (.ol (itemsD kvs)) := q
    have nF : (if p0 ∈ ts then H' p0 else Z1.F p0) = none := by
      rw [if_neg hnp]
      exact x1.ok.freeF hp0
    refine q _ H' (.ref p0) (x1.trans ok xl) (.ol nF (x1.ok.ndOf hp0) hl ?_) (x1.free ok hp0)
    refine items_rel (H := H1) (H' := H') (ts0 := ts) (fun t ht => ?_) (xl.repK rk) (fun _ z => z) hpr
    show (if t ∈ ts then H' t else Z1.F t) = H' t
    rw [if_pos ht]
  | _ => exact q.elim
theorem e_dictof {a : E} {a' : Expr} {p : Pos} (h1 : glbB sc "dict" = true) (ha : PE X a' (tO G (oE F cg a))) (hp : plainB a' = true) : PE X (.Call (.Name "dict" p) [a'] [] pos) (tE G (wE F cg (.dictof a))) := by
  have R : CallR X (.type "dict") fun vs H Q => ∃ Z d v, ZOk G Z H ∧ vs = [v] ∧ RepD G Z H d v ∧ wDict d (kT G Z H Q) := by
    intro pins s σ H xs us Q I r h
    obtain ⟨Z, d, v, ok, rfl, rd, q⟩ := h
    cases d with
    | dct kvs =>
      obtain ⟨d0, vs, ev, hd, rk⟩ := rd.dct ok
      subst ev
      exact call_dictD pins s σ H _ us Q I r ⟨d0, vs, rfl, .inl hd, fun p hp => kT.od ok q hp rk⟩
    | lst ds =>
      obtain ⟨kvs, e, q⟩ := q
      obtain ⟨l, vs, ev, hl, rl⟩ := rd.lst ok
      subst ev
      obtain ⟨ps, kv, e1, r1, p1⟩ := pairs_rel ok rl e
      subst e1
      exact call_dictP g.calm pins s σ H _ us Q I r ⟨l, ps, kv, rfl, .inl (.inl hl), g.K ▸ p1, fun p hp => kT.od ok q hp (repK_mergeD r1 .nil)⟩
    | tpk ds =>
      obtain ⟨kvs, e, q⟩ := q
      obtain ⟨l, o, vs, ev, hl, hl2, h1, h2, rl⟩ := rd.tpk ok
      subst ev
      obtain ⟨ps, kv, e1, r1, p1⟩ := pairs_rel ok rl e
      subst e1
      exact call_dictPT g.calm pins s σ H _ us Q I r ⟨l, o, ps, kv, rfl, hl2, h1, h2, g.K ▸ p1, fun p hp => kT.od ok q hp (repK_mergeD r1 .nil)⟩
    | _ => exact q.elim
  refine PE.weak (pe_callTy R (g.gl_of h1) (g.blt _ (by decide)) PyProof.Rows.boot_dict (pa_cons ha pa_nil (plain_star hp _ _)) (by decide) (by decide) (plain_star hp _ _) rfl) fun σ H Q h => ?_
  obtain ⟨Z, env, ok, eo, h⟩ := h
  unfold wE at h
  refine ⟨Z, env, ok, eo, oE_mono g a env _ _ (fun d q Z1 H1 v x1 r1 => ?_) h⟩
  exact ⟨Z1, d, v, x1.ok, rfl, r1, wDict_mono (fun t q => kT.ext x1 ok q) q⟩
omit g in
theorem insL {vs : List V} {v : V} {n : Nat} (h : n ≤ vs.length) : (vs.insertIdx n v).length = vs.length + 1 := List.length_insertIdx_of_le_length h v
def tLent (G : Gx) (F : Nat → List D → (D → Prop) → Prop) (cg : Nat → D) (i p : Nat) (es : Es) : TA := fun σ H Q => ∃ Z env, ZOk G Z H ∧ EnvOk G Z H σ env ∧ ∃ v, σ[i]? = some (some v) ∧ wV F cg es env (fun ds => ∀ Z' H' vs, Ext G Z H Z' H' → RepL G Z' ds vs → p ≤ vs.length ∧ Q (vs.insertIdx p v) H')
theorem pa_lent {i : Nat} (hE : ∀ (e : E) {e' : Expr}, isE c sc e e' = true → PE X e' (tE G (wE F cg e)) ∧ plainB e' = true) (hEs : ∀ (es : Es) {es' : List Expr}, isEs c sc es es' = true → PA X es' (tV G (wV F cg es)) ∧ ∀ e ∈ es', plainB e = true) :
    ∀ (p : Nat) (es : Es) {es' : List Expr}, isLent c sc i p es es' = true → PA X es' (tLent G F cg i p es) ∧ (∀ e ∈ es', plainB e = true) ∧ es' ≠ []
  | 0, es, es', h => by
    match es', h with
    | .Name z pz :: r, h =>
      unfold isLent at h
      simp only [Bool.and_eq_true, decide_eq_true_eq] at h
      obtain ⟨⟨⟨h1, h2⟩, h3⟩, h4⟩ := h
      obtain ⟨k1, k2, _⟩ := okN_of h3
      obtain ⟨A, B⟩ := hEs es h4
      refine ⟨PA.weak (pa_cons (pe_var (i := i) (by rw [g.N]; exact h1) (by rw [g.sc]; exact visB_of h2) k1 k2) A (plain_star rfl _ _)) fun σ H Q h => ?_, fun e he => ?_, fun z => nomatch z⟩
      · obtain ⟨Z, env, ok, eo, v, ev, h⟩ := h
        refine ⟨v, ev, Z, env, ok, eo, wV_mono g.mono es env _ _ (fun ds q Z' H' vs x r => ?_) h⟩
        exact (q Z' H' vs x r).2
      · rcases List.mem_cons.mp he with rfl | he
        · rfl
        · exact B e he
  | p + 1, .nil, es', h => by
    unfold isLent at h
    exact nomatch h
  | p + 1, .cons e r, es', h => by
    match es', h with
    | e' :: r', h =>
      unfold isLent at h
      rw [Bool.and_eq_true] at h
      obtain ⟨A, pA⟩ := hE e h.1
      obtain ⟨B, pB, _⟩ := pa_lent hE hEs p r h.2
      refine ⟨PA.weak (pa_cons A B (plain_star pA _ _)) fun σ H Q h => ?_, fun x hx => ?_, fun z => nomatch z⟩
      · obtain ⟨Z, env, ok, eo, v, ev, h⟩ := h
        refine ⟨Z, env, ok, eo, wE_mono g.mono e env _ _ (fun t q => ?_) h⟩
        intro Z1 H1 v1 x1 r1 f1
        obtain ⟨Z2, x2, r2, _⟩ := frz x1 ok r1 f1
        refine ⟨Z2, env, x2.ok, eo.ext x2, v, ev, wV_mono g.mono r env _ _ (fun ds q Z3 H3 vs x3 r3 => ?_) q⟩
        have := q _ _ _ (x2.trans ok x3) (.cons (x3.repF r2) r3)
        rw [List.length_cons] at this
        exact ⟨by omega, this.2⟩
      · rcases List.mem_cons.mp hx with rfl | hx
        · exact pA
        · exact pB x hx
omit g in
theorem ins_get {vs : List V} {v : V} : ∀ {n : Nat}, n ≤ vs.length → (vs.insertIdx n v)[n]? = some v := fun {n} h => by
  rw [List.getElem?_insertIdx_self]
  simp only [h, if_true]
def cutH (H : Hp) (a : Addr) : Hp := fun b => if b = a then none else H b
omit g in
theorem cut_upd {H : Hp} {a : Addr} {o : HO} (h : H a = some o) : H = upd (cutH H a) a o := by
  funext b
  by_cases hb : b = a
  · subst hb
    rw [upd_same]
    exact h
  · rw [upd_ne hb]
    unfold cutH
    rw [if_neg hb]
omit g in
theorem ZOk.cut {Z : Zt} {H : Hp} {a : Addr} (ok : ZOk G Z H) (hF : Z.F a = none) (hn : Z.nd a) : ZOk G Z (cutH H a) := by
  refine ⟨fun b o e => ?_, fun x y e => ?_, ok.dj⟩
  · unfold cutH
    rw [if_neg (fun z => by rw [z, hF] at e; cases e)]
    exact ok.le b o e
  · obtain ⟨h1, h2, h3⟩ := ok.dk x y e
    obtain ⟨n1, n2⟩ := hn _ e
    refine ⟨G.loc _ _ _ _ h1 ?_ ?_, h2, h3⟩
    · unfold cutH
      rw [if_neg (Ne.symm n1)]
    · unfold cutH
      rw [if_neg (Ne.symm n2)]
omit g in
theorem Ext.cutOff {Z0 Z : Zt} {H0 H : Hp} {a : Addr} (x : Ext G Z0 H0 Z H) (h0 : H0 a = none) (hF : Z.F a = none) (hn : Z.nd a) : Ext G Z0 H0 Z (cutH H a) := by
  refine ⟨x.ok.cut hF hn, x.fr, x.dk, fun b o e n => ?_, x.newF, x.newD⟩
  unfold cutH
  rw [if_neg (fun z => by rw [z, h0] at e; cases e)]
  exact x.keep b o e n
omit g in
theorem RepT.cut {Z : Zt} {H : Hp} {a b : Addr} {t : T} (r : RepT G Z H t (.ref b)) (h : T.own t = true → b ≠ a) : RepT G Z (cutH H a) t (.ref b) := by
  have k : ∀ {o}, b ≠ a → H b = some o → cutH H a b = some o := fun {o} n e => by
    unfold cutH
    rw [if_neg n]
    exact e
  cases r with
  | v r => exact .v r
  | ol hF hn hH r => exact .ol hF hn (k (h rfl) hH) r
  | od hF hn hH r => exact .od hF hn (k (h rfl) hH) r
  | op hp hF hn hH r => exact .op hp hF hn (k (h rfl) hH) r
  | ob hp hF hn hH hc r => exact .ob hp hF hn (k (h rfl) hH) hc r
theorem s_lend {Z0 : Zt} {H0 : Hp} (ok0 : ZOk G Z0 H0) {x : Str} {j p i : Nat} {es : Es} {es' : List Expr} {px cpos : Pos} (hx : (x, j, p) ∈ c.lfs.l) (h1 : glbB sc x = true) (h2 : okN x = true) (ha : PA X es' (tLent G F cg i p es)) (hp : ∀ e ∈ es', plainB e = true) (hne : es' ≠ []) (hq : (backTo cpos (starEach es'.tail X.env)).any (·.1) = false) :
    PS X (.Expr (.Call (.Name x px) es' [] cpos) pos) (tS G Z0 H0 (wS F cg (.lend x j p i es))) := by
  obtain ⟨f, fd, ps, m1, FO, kp, bs, pl, ln⟩ := g.lf x j p hx
  cases es' with
  | nil => exact absurd rfl hne
  | cons e1 r1 =>
    refine PS.weak (ps_expr (pe_call FO g.room (g.gl_of h1) m1 kp bs .nil pass0 ha (okN_of h2).1 (plain_star (hp _ List.mem_cons_self) _ _) hq) rfl) fun D σ H h => ?_
    obtain ⟨Z, env, x0, es0, h⟩ := h
    unfold wS at h
    split at h
    · rename_i kvs ht
      obtain ⟨v, ev, r⟩ := es0.ok.get i _ ht
      cases r with
      | @od a _ kv hF hn hH rk =>
        have h0 := es0.own i _ a ht rfl ev
        refine ⟨Z, env, x0.ok, es0.ok, .ref a, ev, wV_mono g.mono es env _ _ (fun ds q Z1 H1 vs x1 r1 => ?_) h⟩
        have hne : H a ≠ none := by rw [hH]; exact fun z => nomatch z
        have hH1 := x1.keep a _ hH hn
        have hF1 := x1.freeF hF hne
        have hn1 := x1.nd hne hn
        have es1 := es0.ext x1
        have x01 := x0.trans ok0 x1
        have lds := ln _ _ _ q
        have lvs := r1.length
        refine ⟨by omega, ?_⟩
        show spLent G ps.length p (F j) (vs.insertIdx p (.ref a) ++ []) H1 _ E0
        rw [List.append_nil]
        have hc : cutH H1 a a = none := if_pos rfl
        refine ⟨by rw [insL (by omega)]; omega, a, cutH H1 a, Z1, kvs, kv, vs, ds, rfl, by omega, cut_upd hH1, hc, x1.ok.cut hF1 hn1, x1.repK rk, r1, g.mono _ _ _ _ (fun d q => ?_) q⟩
        cases d with
        | dct kvs' =>
          intro Z2 H2 kv' x2 f2 n2 e2 rk2
          have xc := x01.cutOff h0 hF1 hn1
          have q : ∀ Z' H' σ', Ext G Z0 H0 Z' H' → Grow Z Z' → EnvS G H0 Z' H' σ' (env.set i (some (.od kvs'))) → D.nx σ' H' := q
          refine q Z2 H2 σ (xc.trans ok0 x2) (x1.grow.trans x2.grow) ?_
          have sl : ∀ j u, slot (env.set i (some (.od kvs'))) j = some u → (j = i ∧ u = .od kvs') ∨ (j ≠ i ∧ slot env j = some u) := fun j u h => by
            rw [slot_set] at h
            by_cases hj : i = j
            · rw [if_pos hj] at h
              split at h
              · cases h; exact .inl ⟨hj.symm, rfl⟩
              · cases h
            · rw [if_neg hj] at h; exact .inr ⟨fun z => hj z.symm, h⟩
          refine ⟨⟨by rw [List.length_set]; exact es0.ok.len, fun j u hj => ?_⟩, fun j u b hj ho hσ => ?_, fun j l u w b hjl hj hl2 ho1 ho2 h5 h6 => ?_⟩
          · rcases sl j u hj with ⟨ej, eu⟩ | ⟨nj, hj⟩
            · rw [ej, eu]
              exact ⟨_, ev, .od f2 n2 e2 rk2⟩
            · obtain ⟨w, k1, k2⟩ := es1.ok.get j u hj
              refine ⟨w, k1, x2.repT ?_⟩
              cases w with
              | ref b => exact k2.cut fun ho z => es0.inj i j _ u a (Ne.symm nj) ht hj rfl ho ev (by rw [k1, z])
              | _ => cases k2 with | v k2 => exact .v k2
          · rcases sl j u hj with ⟨ej, eu⟩ | ⟨nj, hj⟩
            · rw [ej, ev] at hσ
              cases hσ
              exact h0
            · exact es0.own j u b hj ho hσ
          · rcases sl j u hj with ⟨ej, eu⟩ | ⟨nj, hj⟩
            · rcases sl l w hl2 with ⟨el, ew⟩ | ⟨nl, hl2⟩
              · exact hjl (ej.trans el.symm)
              · rw [ej] at h5
                exact es0.inj i l _ w b (Ne.symm nl) ht hl2 rfl ho2 h5 h6
            · rcases sl l w hl2 with ⟨el, ew⟩ | ⟨nl, hl2⟩
              · rw [el] at h6
                exact es0.inj j i u _ b nj hj ht ho1 rfl h5 h6
              · exact es0.inj j l u w b hjl hj hl2 ho1 ho2 h5 h6
        | _ => exact q.elim
    · rename_i kvs ht
      obtain ⟨v, ev, r⟩ := es0.ok.get i _ ht
      cases r with
      | @op a _ kv hpa hF hn hH rk =>
        have h0 := es0.own i _ a ht rfl ev
        refine ⟨Z, env, x0.ok, es0.ok, .ref a, ev, wV_mono g.mono es env _ _ (fun ds q Z1 H1 vs x1 r1 => ?_) h⟩
        have hne : H a ≠ none := by rw [hH]; exact fun z => nomatch z
        have hH1 := x1.keep a _ hH hn
        have hF1 := x1.freeF hF hne
        have hn1 := x1.nd hne hn
        have es1 := es0.ext x1
        have x01 := x0.trans ok0 x1
        have lds := ln _ _ _ q
        have lvs := r1.length
        refine ⟨by omega, ?_⟩
        show spLent G ps.length p (F j) (vs.insertIdx p (.ref a) ++ []) H1 _ E0
        rw [List.append_nil]
        have hc : cutH H1 a a = none := if_pos rfl
        refine ⟨by rw [insL (by omega)]; omega, a, cutH H1 a, Z1, kvs, kv, vs, ds, rfl, by omega, cut_upd hH1, hc, x1.ok.cut hF1 hn1, x1.repK rk, r1, g.mono _ _ _ _ (fun d q => ?_) q⟩
        cases d with
        | dct kvs' =>
          intro Z2 H2 kv' x2 f2 n2 e2 rk2
          have xc := x01.cutOff h0 hF1 hn1
          have q : ∀ Z' H' σ', Ext G Z0 H0 Z' H' → Grow Z Z' → EnvS G H0 Z' H' σ' (env.set i (some (.op kvs'))) → D.nx σ' H' := q
          refine q Z2 H2 σ (xc.trans ok0 x2) (x1.grow.trans x2.grow) ?_
          have sl : ∀ j u, slot (env.set i (some (.op kvs'))) j = some u → (j = i ∧ u = .op kvs') ∨ (j ≠ i ∧ slot env j = some u) := fun j u h => by
            rw [slot_set] at h
            by_cases hj : i = j
            · rw [if_pos hj] at h
              split at h
              · cases h; exact .inl ⟨hj.symm, rfl⟩
              · cases h
            · rw [if_neg hj] at h; exact .inr ⟨fun z => hj z.symm, h⟩
          refine ⟨⟨by rw [List.length_set]; exact es0.ok.len, fun j u hj => ?_⟩, fun j u b hj ho hσ => ?_, fun j l u w b hjl hj hl2 ho1 ho2 h5 h6 => ?_⟩
          · rcases sl j u hj with ⟨ej, eu⟩ | ⟨nj, hj⟩
            · rw [ej, eu]
              exact ⟨_, ev, .op hpa f2 n2 e2 rk2⟩
            · obtain ⟨w, k1, k2⟩ := es1.ok.get j u hj
              refine ⟨w, k1, x2.repT ?_⟩
              cases w with
              | ref b => exact k2.cut fun ho z => es0.inj i j _ u a (Ne.symm nj) ht hj rfl ho ev (by rw [k1, z])
              | _ => cases k2 with | v k2 => exact .v k2
          · rcases sl j u hj with ⟨ej, eu⟩ | ⟨nj, hj⟩
            · rw [ej, ev] at hσ
              cases hσ
              exact h0
            · exact es0.own j u b hj ho hσ
          · rcases sl j u hj with ⟨ej, eu⟩ | ⟨nj, hj⟩
            · rcases sl l w hl2 with ⟨el, ew⟩ | ⟨nl, hl2⟩
              · exact hjl (ej.trans el.symm)
              · rw [ej] at h5
                exact es0.inj i l _ w b (Ne.symm nl) ht hl2 rfl ho2 h5 h6
            · rcases sl l w hl2 with ⟨el, ew⟩ | ⟨nl, hl2⟩
              · rw [el] at h6
                exact es0.inj j i u _ b nj hj ht ho1 rfl h5 h6
              · exact es0.inj j l u w b hjl hj hl2 ho1 ho2 h5 h6
        | _ => exact q.elim
    · exact h.elim
end
end LC

namespace L2
open PySem PySem.Spec PyProof.Rows
section
variable {X : Cx}
theorem call_tupleK : CallR X (.type "tuple") (fun xs H Q => ∃ p ys, xs = [.ref p] ∧ SqL X.K H p ys ∧ ∀ l o, H l = none → o.cls = .type "tuple" → o.dict = none → Q (.ref l) (upd H l (.frz o (.tup ys)))) := by
  intro pins s σ H xs us Q I r h
  obtain ⟨p, ys, rfl, hq, q⟩ := h
  obtain ⟨u, rfl, rx⟩ := vals1 r
  cases rx
  obtain ⟨its, r', pl, hz⟩ := I.list hq
  have hlen := r'.length
  refine call_tuple_list pl.isList (fun h' kp => ?_) (by simp only [List.size_toArray] <;> omega)
  have I1 : Inv X pins σ H { s with heap := h' } := I.kept (t' := s.toks) kp
  have I2 : Inv X pins σ (upd H h'.objs.size (.frz { cls := .type "tuple", data := .seq its.toArray } (.tup ys))) { s with heap := h'.push { cls := .type "tuple", data := .seq its.toArray } } :=
    I1.laid (t' := s.toks) (fun b o e => Heap.get?_push_of_some _ e) (Nat.le_refl _) (show ObjOk X.prog X.w _ _ _ (.frz _ (.tup ys)) from ⟨Heap.get?_push_size _ rfl, hz, its, r', IsTup.new _ _⟩)
  exact ⟨.ref h'.objs.size, _, I2, rfl, q _ _ (I1.hok.fresh (Nat.le_refl _)) rfl rfl⟩
theorem pe_makeX {C f : Addr} {x : Str} {p pos : Pos} {e : Expr} {es : List Expr} {t : TA} (M : Mk X.K C f) (hg : Gl X x) (hm : X.mg x = some (.ref C))
    (ha : PA X (e :: es) t) (hdb : (x == ("__debug__" : Str)) = false) (he : starEach (e :: es) X.env = (false, eval e X.env) :: starEach es X.env) (hpl : (backTo pos (starEach es X.env)).any (·.1) = false) :
    PE X (.Call (.Name x p) (e :: es) [] pos) (fun σ H Q => t σ H fun vs H1 => ∃ k fd ps sp, FnOk X.prog X.w X.K X.mg X.base CX0 k f fd ps sp ∧ Room (k + 1) X.A ∧ Binds X.K fd ps [] ∧
      ∀ x dx, H1 x = none → H1 dx = none → dx ≠ x → sp (.ref x :: (vs ++ [])) (upd (upd H1 dx (.own x)) x (.ins C dx [])) (fun v H2 => v = .non ∧ Q (.ref x) H2) E0) := by
  refine ⟨fun pins s σ H Q I h => ?_⟩
  refine wpAny_Call_Name_kw (ld_glob I hg hm ?_ hdb)
  refine PySem.W.callWith_K (h₀ := X.base) I.ok.mod.kin M.kp (thn (ha.run pos pins s σ H _ I h) fun us s1 ⟨vs, H1, I1, r, k, fd, ps, sp, F, hr, hb, q⟩ => ⟨I1.kIn, ?_⟩) he hpl
  exact run_make M F hr hb .nil pass0 I1 r q
end
theorem meth_tree {o : Expr} {m : Str} {apos pos : Pos} {args : List Expr} {env : Env} (hb : attributeBase o m env (eval o env) = eval o env)
    (few : methodCallForm (args.length + ([] : List Keyword).length) (backTo pos (starEach args env)) (backToKw pos (keywordEach [] env)) = true) (hl : (apos.endLine == pos.line) = true) :
    eval (.Call (.Attribute o m apos) args [] pos) env = (do
      let ov ← eval o env
      standAt apos.atName
      let (f, first) ← holding [ov] (getMethod ov m (do return (← importBound o env).getD true))
      callWith pos f first (backTo pos (starEach args env)) (backToKw pos (keywordEach [] env))) := by
  refine mcall_of hb fun ov => ?_
  unfold methodCall calleeOf methodCallPos
  rw [few, hl]
  rfl
end L2
namespace LC
open PySem L2
section
variable {G : Gx} {Z : Zt}
theorem repK_fld {f : Str} {d : D} : ∀ {ks : List (Key × D)} {fs : List (Str × V)}, RepK G Z ks (kfs fs) → kget ks (.inr f) = some d → ∃ v, fs.lookup f = some v ∧ RepF G Z d v
  | [], [], _, e => nomatch e
  | [], _ :: _, r, _ => nomatch r
  | (k, d') :: ks, [], r, _ => nomatch r
  | (k, d') :: ks, (g, v) :: fs, r, e => by
    have r' : RepK G Z ((k, d') :: ks) ((.inr g, v) :: kfs fs) := r
    cases r' with
    | cons gk rf t =>
      unfold kget at e
      rw [List.find?_cons] at e
      rw [List.lookup_cons]
      by_cases h : g = f
      · subst h
        simp only [decide_true] at e
        cases e
        rw [beq_self_eq_true]
        exact ⟨v, rfl, rf⟩
      · have e1 : decide ((Sum.inr g : Key) = .inr f) = false := decide_eq_false fun q => h (Sum.inr.inj q)
        simp only [e1] at e
        have e2 : (f == g) = false := beq_eq_false_iff_ne.mpr (Ne.symm h)
        rw [e2]
        exact repK_fld t e
theorem repK_noFld {f : Str} : ∀ {ks : List (Key × D)} {fs : List (Str × V)}, RepK G Z ks (kfs fs) → kget ks (.inr f) = none → fs.lookup f = none
  | [], [], _, e => rfl
  | [], _ :: _, r, _ => nomatch r
  | (k, d') :: ks, [], r, _ => nomatch r
  | (k, d') :: ks, (g, v) :: fs, r, e => by
    have r' : RepK G Z ((k, d') :: ks) ((.inr g, v) :: kfs fs) := r
    cases r' with
    | cons gk rf t =>
      unfold kget at e
      rw [List.find?_cons] at e
      rw [List.lookup_cons]
      by_cases h : g = f
      · subst h
        simp at e
      · have e1 : decide ((Sum.inr g : Key) = .inr f) = false := decide_eq_false fun q => h (Sum.inr.inj q)
        simp only [e1] at e
        have e2 : (f == g) = false := beq_eq_false_iff_ne.mpr (Ne.symm h)
        rw [e2]
        exact repK_noFld t e
theorem repK_putF {f : Str} {d : D} {v : V} (gk : KeyG (.inr f)) (rf : RepF G Z d v) : ∀ {ks : List (Key × D)} {fs : List (Str × V)}, RepK G Z ks (kfs fs) → RepK G Z (kputF (.inr f) d ks) (kfs (putF f v fs))
  | [], [], _ => .cons gk rf .nil
  | [], _ :: _, r => nomatch r
  | (k, d') :: ks, [], r => nomatch r
  | (k, d') :: ks, (g, w) :: fs, r => by
    have r' : RepK G Z ((k, d') :: ks) ((.inr g, w) :: kfs fs) := r
    cases r' with
    | cons gk' rf' t =>
      unfold kputF putF
      by_cases h : g = f
      · subst h
        rw [if_pos rfl, if_pos rfl]
        exact .cons gk' rf t
      · rw [if_neg h, if_neg (fun q => h (Sum.inr.inj q))]
        exact .cons gk' rf' (repK_putF gk rf t)
end
section
variable {c : Cs} {G : Gx} {F : Nat → List D → (D → Prop) → Prop} {cg : Nat → D} {k : Nat} {sc osc : Scope} {X : Cx} {pos : Pos}
theorem cl_fld (g : Good c G F cg k sc osc X) {ci : Nat} {x : List Nat} {C : Addr} (h : c.lfs.cl.any (CD.hasF ci x) = true) (e : G.ca ci = some C) : Cls X.K C ∧ NoAttr X.K C (mkS x) := by
  obtain ⟨d, hd, h⟩ := List.any_eq_true.mp h
  unfold CD.hasF at h
  simp only [Bool.and_eq_true, beq_iff_eq] at h
  obtain ⟨C', e1, e2, _, e3, _⟩ := g.cl d hd
  rw [h.1, e] at e1
  cases e1
  exact ⟨e2, e3 x (List.contains_iff_mem.mp h.2)⟩
theorem cl_meth (g : Good c G F cg k sc osc X) {ci j : Nat} {m : List Nat} (h : c.lfs.cl.any (CD.hasM ci m j) = true) : ∃ C f, G.ca ci = some C ∧ Cls X.K C ∧ Meth X.K C (mkS m) f ∧ G.fa j = some f := by
  obtain ⟨d, hd, h⟩ := List.any_eq_true.mp h
  unfold CD.hasM at h
  simp only [Bool.and_eq_true, beq_iff_eq] at h
  obtain ⟨C', e1, e2, _, _, e4, _⟩ := g.cl d hd
  obtain ⟨f, f1, f2⟩ := e4 m j (List.contains_iff_mem.mp h.2)
  exact ⟨C', f, h.1 ▸ e1, e2, f1, f2⟩
variable (g : Good c G F cg k sc osc X)
include g
theorem e_tpkof {a : E} {a' : Expr} {p : Pos} (h1 : glbB sc "tuple" = true) (ha : PE X a' (tO G (oE F cg a))) (hp : plainB a' = true) : PE X (.Call (.Name "tuple" p) [a'] [] pos) (tE G (wE F cg (.tpkof a))) := by
  refine PE.weak (pe_callTy call_tupleK (g.gl_of h1) (g.blt _ (by decide)) (by decide +kernel) (pa_cons ha pa_nil (plain_star hp _ _)) (by decide) (by decide) (plain_star hp _ _) rfl) fun σ H Q h => ?_
  obtain ⟨Z, env, ok, eo, h⟩ := h
  unfold wE at h
  refine ⟨Z, env, ok, eo, oE_mono g a env _ _ (fun d q Z1 H1 v x1 r1 => ?_) h⟩
  cases d with
  | lst ds =>
    obtain ⟨l, vs, ev, hl, rl⟩ := r1.lst x1.ok
    subst ev
    have q : kT G Z H Q (.v (.tpk ds)) := q
    refine ⟨l, vs, rfl, .inl (.inl hl), fun p o hp hc hd => ?_⟩
    exact (kT.ext x1 ok q) _ _ _ (.lay x1.ok hp) (.v (.tpk upd_same hc hd (rl.mono (Ext.lay x1.ok hp).fr fun _ e => e))) True.intro
  | _ => exact q.elim
theorem e_tp {a : E} {a' : Expr} (ha : PE X a' (tO G (oE F cg a))) : PE X a' (tE G (wE F cg (.tp a))) := by
  refine PE.weak ha fun σ H Q h => ?_
  obtain ⟨Z, env, ok, eo, h⟩ := h
  unfold wE at h
  refine ⟨Z, env, ok, eo, oE_mono g a env _ _ (fun d q Z1 H1 v x1 r1 => ?_) h⟩
  cases d with
  | tpk ds =>
    obtain ⟨l, o, vs, ev, hF, _, _, _, rl⟩ := r1.tpk x1.ok
    subst ev
    have q : kT G Z H Q (.v (.tup ds)) := q
    exact (kT.ext x1 ok q).d x1.ok (.tup (.inl (.inr ⟨o, hF⟩)) rl)
  | tup ds =>
    obtain ⟨l, vs, ev, hF, _, rl⟩ := r1.tup x1.ok
    subst ev
    have q : kT G Z H Q (.v (.tup ds)) := q
    exact (kT.ext x1 ok q).d x1.ok (.tup hF rl)
  | _ => exact q.elim
theorem e_fld {ci : Nat} {a : E} {x : List Nat} {a' : Expr} (hx : c.lfs.cl.any (CD.hasF ci x) = true) (ha : PE X a' (tO G (oE F cg a))) (hp : plainB a' = true) : PE X (.Attribute a' (mkS x) pos) (tE G (wE F cg (.fld ci a x))) := by
  refine PE.weak (pe_fld ha (plain_base hp _ _)) fun σ H Q h => ?_
  obtain ⟨Z, env, ok, eo, h⟩ := h
  unfold wE at h
  refine ⟨Z, env, ok, eo, oE_mono g a env _ _ (fun d q Z1 H1 v x1 r1 => ?_) h⟩
  cases d with
  | obj c' ks =>
    obtain ⟨b, C, dx, fs, ev, hH, hc, rk⟩ := r1.obj x1.ok
    subst ev
    obtain ⟨q1, q2⟩ := q
    subst q1
    obtain ⟨k1, k2⟩ := cl_fld g hx hc
    cases hk : kget ks (.inr (mkS x)) with
    | none => rw [hk] at q2; exact q2.elim
    | some d =>
      rw [hk] at q2
      obtain ⟨v, e1, e2⟩ := repK_fld rk hk
      have q2 : kT G Z H Q (.v d) := q2
      exact ⟨b, C, dx, fs, v, rfl, hH, k1, k2, e1, (kT.ext x1 ok q2).d x1.ok e2⟩
  | _ => exact q.elim
theorem e_meth {ci j : Nat} {a : E} {m : List Nat} {es : Es} {a' e' : Expr} {es' : List Expr} {apos : Pos} (hx : c.lfs.cl.any (CD.hasM ci m j) = true) (ha : PE X a' (tE G (wE F cg a))) (hp : plainB a' = true) (he : PA X (e' :: es') (tV G (wV F cg es))) (hpe : ∀ e ∈ e' :: es', plainB e = true) (hpl : (backTo pos (starEach es' X.env)).any (·.1) = false)
    (few : methodCallForm ((e' :: es').length + ([] : List Keyword).length) (backTo pos (starEach (e' :: es') X.env)) (backToKw pos (keywordEach [] X.env)) = true) (hl : (apos.endLine == pos.line) = true) : PE X (.Call (.Attribute a' (mkS m) apos) (e' :: es') [] pos) (tE G (wE F cg (.meth ci a m j es))) := by
  obtain ⟨C, f, hC, cl, mt, hf⟩ := cl_meth g hx
  obtain ⟨fd, ps, FO, kp, bs, ln, dfl⟩ := g.fo j f hf
  refine PE.weak (pe_meth ha cl mt FO g.room bs .nil pass0 he (plain_star (hpe _ List.mem_cons_self) _ _) hpl (meth_tree (plain_base hp _ _) few hl)) fun σ H Q h => ?_
  obtain ⟨Z, env, ok, eo, h⟩ := h
  unfold wE at h
  refine ⟨Z, env, ok, eo, wE_mono g.mono a env _ _ (fun t q => ?_) h⟩
  intro Z1 H1 v x1 r1 f1
  cases r1 with
  | v r1 =>
    cases r1 with
    | @obj b C' dx c' ks fs hF hc rk =>
      obtain ⟨⟨q1, q2⟩, q⟩ := q
      subst q1
      rw [hC] at hc
      cases hc
      refine ⟨b, dx, fs, rfl, x1.ok.le _ _ hF, repK_noFld rk (Option.isNone_iff_eq_none.mp q2), ?_⟩
      refine ⟨Z1, env, x1.ok, eo.ext x1, wV_mono g.mono es env _ _ (fun ds q Z2 H2 vs x2 r2 => ?_) q⟩
      show spOf G ps.length (F j) (.ref b :: (vs ++ [])) H2 _ E0
      rw [List.append_nil]
      have rl : RepL G Z2 (.obj c' ks :: ds) (.ref b :: vs) := .cons (x2.repF (.obj hF hC rk)) r2
      refine ⟨by rw [← rl.length]; exact ln _ _ q, Z2, _, x2.ok, rl, g.mono _ _ _ _ (fun d q Z3 H3 w x3 r3 => ?_) q⟩
      exact q _ _ w ((x1.trans ok x2).trans ok x3) (.v r3) True.intro
    | _ => exact q.elim
  | _ => exact q.elim
theorem e_mk {x : Str} {ci j : Nat} {es : Es} {e' : Expr} {es' : List Expr} {p : Pos} (hx : c.lfs.cl.any (CD.hasI x ci j) = true) (h1 : glbB sc x = true) (h2 : okN x = true) (ha : PA X (e' :: es') (tV G (wV F cg es))) (hp : plainB e' = true) (hq : (backTo pos (starEach es' X.env)).any (·.1) = false) :
    PE X (.Call (.Name x p) (e' :: es') [] pos) (tE G (wE F cg (.mk x ci j es))) := by
  obtain ⟨d, hd, hx⟩ := List.any_eq_true.mp hx
  unfold CD.hasI at hx
  simp only [Bool.and_eq_true, beq_iff_eq] at hx
  obtain ⟨⟨d1, d2⟩, d3⟩ := hx
  subst d1 d2 d3
  obtain ⟨C, hC, cl, hm, _, _, fI, fd, ps, M, bs, FO⟩ := g.cl d hd
  refine PE.weak (pe_makeX M (g.gl_of h1) hm ha (okN_of h2).1 (plain_star hp _ _) hq) fun σ H Q h => ?_
  obtain ⟨Z, env, ok, eo, h⟩ := h
  unfold wE at h
  refine ⟨Z, env, ok, eo, wV_mono g.mono es env _ _ (fun ds q Z1 H1 vs x1 r1 => ?_) h⟩
  obtain ⟨ln, k', hk, FK⟩ := FO _ _ q
  refine ⟨k', fd, ps, _, FK, g.room.mono hk, bs, fun x dx hn hdn hne => ?_⟩
  rw [List.append_nil]
  have hl := r1.length
  have xl := Ext.lay (a := dx) (o := .own x) x1.ok hdn
  have hxn : upd H1 dx (HO.own x) x = none := by
    rw [upd_ne (Ne.symm hne)]
    exact hn
  refine ⟨by rw [List.length_cons]; omega, x, C, dx, upd H1 dx (.own x), _, vs, ds, rfl, hC, rfl, hxn, xl.ok, xl.repL r1, g.mono _ _ _ _ (fun v q => ?_) q⟩
  cases v with
  | obj c' ks =>
    obtain ⟨q1, q⟩ := q
    subst q1
    refine ⟨rfl, fun Z' H' dx' fs x2 hF hnd hH rk => ⟨rfl, ?_⟩⟩
    have x3 := (x1.trans ok xl).trans ok x2
    have hx0 : H x = none := x1.free ok hn
    have up : ∀ b o, Z'.F b = some o → upd Z'.F x (.ins C dx' fs) b = some o := fun b o e => by
      by_cases hb : b = x
      · subst hb; rw [hF] at e; cases e
      · rw [upd_ne hb]; exact e
    exact q _ _ _ (x3.freeze ok hH hx0 hnd) (.v (.obj upd_same hC (rk.mono (Z' := ⟨upd Z'.F x (.ins C dx' fs), Z'.dk⟩) up fun _ e => e))) True.intro
  | _ => exact q.elim
theorem s_sfld {Z0 : Zt} {H0 : Hp} (ok0 : ZOk G Z0 H0) {i ci : Nat} {z : Str} {x : List Nat} {e : E} {e' : Expr} {p p2 : Pos} (h1 : c.N[i]? = some z) (h2 : visB sc z = true) (h3 : okN z = true) (gx : StrG x) (hx : c.lfs.cl.any (CD.hasF ci x) = true) (he : PE X e' (tE G (wE F cg e))) (hs : swapsWith e' (some (.Attribute (.Name z p) (mkS x) p2)) pos.line X.env = pure false) :
    PS X (.Assign [.Attribute (.Name z p) (mkS x) p2] e' pos) (tS G Z0 H0 (wS F cg (.sfld i ci x e))) := by
  obtain ⟨k1, k2, _⟩ := okN_of h3
  refine PS.weak (ps_fld (pe_var (i := i) (by rw [g.N]; exact h1) (by rw [g.sc]; exact visB_of h2) k1 k2) he hs) fun D σ H h => ?_
  obtain ⟨Z, env, x0, es, h⟩ := h
  unfold wS at h
  split at h
  · rename_i c' ks ht
    obtain ⟨v, e1, r⟩ := es.ok.get i _ ht
    cases r with
    | @ob a C dx _ _ fs hpa hF hn hH hc rl =>
      obtain ⟨⟨hcc, hlen⟩, h⟩ := h
      subst hcc
      obtain ⟨k1, k2⟩ := cl_fld g hx hc
      have h0 := es.own i _ a ht rfl e1
      refine ⟨Z, env, x0.ok, es.ok, wE_mono g.mono e env _ _ (fun t q => ?_) h⟩
      intro Z1 H1 y x1 r1 f1
      obtain ⟨Z2, x2, r2, _⟩ := frz x1 x0.ok r1 f1
      have hne : H a ≠ none := by rw [hH]; exact fun z => nomatch z
      have hH2 := x2.keep a _ hH hn
      have hF2 := x2.freeF hF hne
      have hn2 := x2.nd hne hn
      have hlf : fs.length < 1000 := by
        have := repK_len rl
        unfold kfs at this
        rw [List.length_map] at this
        omega
      refine ⟨.ref a, e1, a, C, dx, fs, rfl, hH2, k1, k2, hlf, ?_⟩
      refine q Z2 _ σ ((x0.trans ok0 x2).put h0 hF2 hn2) x2.grow ?_
      exact (es.ext x2).put ht rfl rfl e1 (.ob hpa hF2 hn2 upd_same hc (repK_putF ⟨x, rfl, gx⟩ r2 (x2.repK rl)))
  · exact h.elim
theorem s_apop {Z0 : Zt} {H0 : Hp} (ok0 : ZOk G Z0 H0) {i j : Nat} {x z : Str} {e : E} {e' : Expr} {p p2 apos apos2 cpos cpos2 : Pos} (h1 : c.N[i]? = some x) (h2 : visB sc x = true) (h3 : okN x = true) (hl : (apos.endLine == cpos.line) = true) (k1 : c.N[j]? = some z) (k2 : visB sc z = true) (k3 : okN z = true) (kl : (apos2.endLine == cpos2.line) = true) (he : PE X e' (tO G (oE F cg e))) (hpe : plainB e' = true) :
    PS X (.Expr (.Call (.Attribute (.Name x p) "append" apos) [.Call (.Attribute (.Name z p2) "pop" apos2) [e'] [] cpos2] [] cpos) pos) (tS G Z0 H0 (wS F cg (.apop i j e))) := by
  obtain ⟨o1, o2, _⟩ := okN_of h3
  obtain ⟨o3, o4, _⟩ := okN_of k3
  have hs := plain_star hpe [] X.env
  have few1 : ((backTo cpos2 (starEach [e'] X.env)).all (fun x => !x.1) && (backToKw cpos2 (keywordEach [] X.env)).all (fun x => x.1.isSome)
      && decide ([e'].length + ([] : List Keyword).length + (if ([] : List Keyword).isEmpty then 0 else 1) < 30)) = true := by
    rw [hs]
    rfl
  have pp := pe_bm PySem.F.plainAttrs_list PySem.F.slot_list_pop PySem.F.type_list_pop mt_popAt (pe_var (X := X) (i := j) (pos := p2) (by rw [g.N]; exact k1) (by rw [g.sc]; exact visB_of k2) o3 o4) (pa_cons he pa_nil hs) (cpos := cpos2) (plain_base rfl _ _) few1 kl hs rfl
  have hs2 : starEach [.Call (.Attribute (.Name z p2) "pop" apos2) [e'] [] cpos2] X.env = (false, eval (.Call (.Attribute (.Name z p2) "pop" apos2) [e'] [] cpos2) X.env) :: starEach [] X.env := rfl
  refine PS.weak (ps_expr (pe_bm PySem.F.plainAttrs_list PySem.F.slot_list_append PySem.F.type_list_append mt_append (pe_var (X := X) (i := i) (pos := p) (by rw [g.N]; exact h1) (by rw [g.sc]; exact visB_of h2) o1 o2) (pa_cons pp pa_nil hs2) (cpos := cpos) (plain_base rfl _ _) (by rw [hs2]; rfl) hl hs2 rfl) rfl) fun D σ H h => ?_
  obtain ⟨Z, env, x0, es, h⟩ := h
  unfold wS at h
  split at h
  · rename_i ds es' hti htj
    obtain ⟨hij, h⟩ := h
    obtain ⟨vi, ei, ri⟩ := es.ok.get i _ hti
    obtain ⟨vj, ej, rj⟩ := es.ok.get j _ htj
    cases ri with
    | @ol ai _ wi fi ni Hi li =>
      cases rj with
      | @ol aj _ wj fj nj Hj lj =>
        have nij : ai ≠ aj := fun q => es.inj i j _ _ ai hij hti htj rfl rfl ei (by rw [q]; exact ej)
        refine ⟨.ref ai, ei, .inl ⟨rfl, wi, .inl (.inl Hi)⟩, .ref aj, ej, .inl ⟨rfl, wj, .inl (.inl Hj)⟩, Z, env, x0.ok, es.ok, oE_mono g e env _ _ (fun y q Z1 H1 w x1 r1 => ?_) h⟩
        cases y with
        | int n =>
          have e2 := r1.int
          subst e2
          obtain ⟨hb, q⟩ := q
          cases hd : es'[n.toNat]? with
          | none => rw [hd] at q; exact q.elim
          | some d =>
            rw [hd] at q
            obtain ⟨ql, q⟩ := q
            obtain ⟨w, w1, w2⟩ := lj.getD hd
            have hlt : n.toNat < wj.length := (List.getElem?_eq_some_iff.mp w1).1
            have her : ∀ {as : List LC.D} {bs : List V} (j : Nat), RepL G Z as bs → RepL G Z (as.eraseIdx j) (bs.eraseIdx j) := fun {as bs} j q => by
              rw [List.eraseIdx_eq_take_drop_succ, List.eraseIdx_eq_take_drop_succ]
              exact (q.take _).append (q.drop _)
            have hnj : H aj ≠ none := by rw [Hj]; exact fun z => nomatch z
            have hni : H ai ≠ none := by rw [Hi]; exact fun z => nomatch z
            have h0j := es.own j _ aj htj rfl ej
            have h0i := es.own i _ ai hti rfl ei
            have fj1 := x1.freeF fj hnj
            have nj1 := x1.nd hnj nj
            have fi1 := x1.freeF fi hni
            have ni1 := x1.nd hni ni
            have es2 := (es.ext x1).put (o := .lst (wj.eraseIdx n.toNat)) (t' := .ol (es'.eraseIdx n.toNat)) htj rfl rfl ej (.ol fj1 nj1 upd_same (x1.repL (her _ lj)))
            have x2 := (x0.trans ok0 x1).put (o := .lst (wj.eraseIdx n.toNat)) h0j fj1 nj1
            have hti2 : slot (env.set j (some (.ol (es'.eraseIdx n.toNat)))) i = some (.ol ds) := by
              rw [slot_set, if_neg (Ne.symm hij)]
              exact hti
            have Hi2 : upd H1 aj (.lst (wj.eraseIdx n.toNat)) ai = some (.lst wi) := by
              rw [upd_ne nij]
              exact x1.keep ai _ Hi ni
            refine ⟨aj, wj, n, n.toNat, w, rfl, rfl, x1.keep aj _ Hj nj, by omega, by omega, seqIndex_of hb.1 (by omega), w1, ?_⟩
            refine ⟨ai, wi, w, rfl, rfl, Hi2, by rw [← li.length, szl]; exact ql, ?_⟩
            have es3 := es2.put (o := .lst (wi ++ [w])) (t' := .ol (ds ++ [d])) hti2 rfl rfl ei (.ol fi1 ni1 upd_same ((x1.repL li).append (.cons (x1.repF w2) .nil)))
            exact q Z1 _ σ (x2.put (o := .lst (wi ++ [w])) h0i fi1 ni1) x1.grow es3
        | _ => exact q.elim
  · exact h.elim
end
end LC

namespace LC
open PySem L2
structure SE (G : Gx) (F : Nat → List D → (D → Prop) → Prop) (cg : Nat → D) (X : Cx) (e : E) (e' : Expr) : Prop where
  p : plainB e' = true
  v : PE X e' (tE G (wE F cg e))
  o : PE X e' (tO G (oE F cg e))
  t : tst e = true → PT X e' (tT G (wE F cg e))
structure SEs (G : Gx) (F : Nat → List D → (D → Prop) → Prop) (cg : Nat → D) (X : Cx) (es : Es) (es' : List Expr) : Prop where
  p : ∀ e ∈ es', plainB e = true
  v : PA X es' (tV G (wV F cg es))
  o : PA X es' (tOs G (wOs F cg es))
  nil : es' = [] → es = .nil
  one : ∀ e', es' = [e'] → ∃ e, es = .cons e .nil ∧ SE G F cg X e e'
  conj : es' ≠ [] → ∀ pos, PE X (.BoolOp .And es' pos) (tE G (wAnd F cg es))
  disj : es' ≠ [] → ∀ pos, PE X (.BoolOp .Or es' pos) (tE G (wOr F cg es))
  tconj : es' ≠ [] → tsts es = true → ∀ pos, PW X (.BoolOp .And es' pos) (tT G (wAnd F cg es))
  tdisj : es' ≠ [] → tsts es = true → ∀ pos, PW X (.BoolOp .Or es' pos) (tT G (wOr F cg es))
theorem star_none {env : PySem.Env} {pos : Pos} : ∀ (es : List Expr), (∀ e ∈ es, plainB e = true) → (backTo pos (starEach es env)).any (·.1) = false
  | [], _ => rfl
  | e :: es, h => by
    rw [plain_star (h e (List.mem_cons_self ..))]
    show (false || (backTo pos (starEach es env)).any (·.1)) = false
    rw [star_none es fun z hz => h z (List.mem_cons_of_mem _ hz)]
    rfl
theorem mem_tail {α : Type} {x : α} {l : List α} (h : x ∈ l.tail) : x ∈ l := by
  cases l with
  | nil => cases h
  | cons a r => exact List.mem_cons_of_mem _ h
section
variable {c : Cs} {G : Gx} {F : Nat → List D → (D → Prop) → Prop} {cg : Nat → D} {k : Nat}
theorem SE.mk' {sc osc : Scope} {X : Cx} {e : E} {e' : Expr} (g : Good c G F cg k sc osc X) (hv : isVar e = false) (p : plainB e' = true) (v : PE X e' (tE G (wE F cg e))) (t : tst e = true → PT X e' (tT G (wE F cg e))) : SE G F cg X e e' := ⟨p, v, o_of hv v g.mono, t⟩
theorem SE.val {sc osc : Scope} {X : Cx} {e : E} {e' : Expr} (g : Good c G F cg k sc osc X) (hv : isVar e = false) (p : plainB e' = true) (v : PE X e' (tE G (wE F cg e)))
    (he : ∀ whole, isTrue e' X.env whole = (do let v ← whole; standAt e'.pos; holding [v] (truthy v))) : SE G F cg X e e' := ⟨p, v, o_of hv v g.mono, fun _ => t_val v g.mono he⟩
theorem prs {a b : Bool} (h : (!a || b) = true) : a = true → b = true := fun z => by
  subst z
  exact h
mutual
theorem sE : ∀ (e : E) {e' : Expr} {sc osc : Scope} {X : Cx}, Good c G F cg k sc osc X → isE c sc e e' = true → SE G F cg X e e'
  | .var i, e', sc, osc, X, g, h => by
    unfold isE at h
    split at h
    · simp only [Bool.and_eq_true, decide_eq_true_eq] at h
      exact ⟨rfl, e_var g h.1.1 h.1.2 h.2, o_var g h.1.1 h.1.2 h.2, fun _ => t_val (e_var g h.1.1 h.1.2 h.2) g.mono fun _ => rfl⟩
    · cases h
  | .non, e', sc, osc, X, g, h => by
    unfold isE at h
    split at h
    · rename_i j p
      exact .val g rfl rfl (e_const (F := F) (cg := cg) (G := G) (e := .non) (pe_non (X := X) (j := j) (pos := p)) (fun _ _ => rfl) fun _ => .non) fun _ => rfl
    · cases h
  | .bl b, e', sc, osc, X, g, h => by
    unfold isE at h
    split at h
    · rename_i j p
      have e1 := beq_iff_eq.mp h
      subst e1
      exact .val g rfl rfl (e_const (F := F) (cg := cg) (G := G) (e := .bl b) (pe_bl (X := X) (j := j) (pos := p)) (fun _ _ => rfl) fun _ => .bl b) fun _ => rfl
    · cases h
  | .int b, e', sc, osc, X, g, h => by
    unfold isE at h
    split at h
    · rename_i j p
      have e1 := beq_iff_eq.mp h
      subst e1
      exact .val g rfl rfl (e_const (F := F) (cg := cg) (G := G) (e := .int b) (pe_int (X := X) (j := j) (pos := p)) (fun _ _ => rfl) fun _ => .int b) fun _ => rfl
    · cases h
  | .str x, e', sc, osc, X, g, h => by
    unfold isE at h
    split at h
    · rename_i y j p
      simp only [Bool.and_eq_true, decide_eq_true_eq] at h
      have e1 : y = mkS x := by
        rw [← h.1.1]
        unfold mkS
        simp
      subst e1
      exact .val g rfl rfl (e_const (F := F) (cg := cg) (G := G) (e := .str x) (pe_str (X := X) (j := j) (pos := p)) (fun _ _ => rfl) fun _ => .str ⟨h.1.2, fun z hz => by
        have := List.all_eq_true.mp h.2 z hz
        simpa using this⟩) fun _ => rfl
    · cases h
  | .glob x j, e', sc, osc, X, g, h => by
    unfold isE at h
    split at h
    · simp only [Bool.and_eq_true, beq_iff_eq] at h
      obtain ⟨⟨⟨e1, h1⟩, h2⟩, h3⟩ := h
      subst e1
      obtain ⟨u, m1, go⟩ := g.gl x j h1
      exact .val g rfl rfl (e_glob g (g.gl_of h2) h3 m1 go) fun _ => rfl
    · cases h
  | .gin n x j a, e', sc, osc, X, g, h => by
    unfold isE at h
    split at h
    · simp only [Bool.and_eq_true, beq_iff_eq] at h
      obtain ⟨⟨⟨⟨⟨e0, e1⟩, h1⟩, h2⟩, h3⟩, h4⟩ := h
      subst e0
      subst e1
      obtain ⟨u, m1, go⟩ := g.gl x j h1
      have A := sE a g h4
      exact .mk' g rfl rfl (e_gin g (g.gl_of h2) h3 m1 go A.o) fun _ => t_gin g (g.gl_of h2) h3 m1 go A.o
    · cases h
  | .gix x j a, e', sc, osc, X, g, h => by
    unfold isE at h
    split at h
    · simp only [Bool.and_eq_true, beq_iff_eq] at h
      obtain ⟨⟨⟨⟨e1, h1⟩, h2⟩, h3⟩, h4⟩ := h
      subst e1
      obtain ⟨u, m1, go⟩ := g.gl x j h1
      have A := sE a g h4
      exact .val g rfl rfl (e_gix g (g.gl_of h2) h3 m1 go A.o (plain_ix A.p)) fun _ => rfl
    · cases h
  | .fnv x j, e', sc, osc, X, g, h => by
    unfold isE at h
    split at h
    · simp only [Bool.and_eq_true, beq_iff_eq] at h
      obtain ⟨⟨⟨e1, h1⟩, h2⟩, h3⟩ := h
      subst e1
      obtain ⟨f, m1, m2⟩ := g.fn x j h1
      exact .val g rfl rfl (e_const (F := F) (cg := cg) (G := G) (e := .fnv x j) (pe_glob (v := .ref f) (g.gl_of h2) m1 rfl (okN_of h3).1) (fun _ _ => rfl) fun _ => .fn m2) fun _ => rfl
    · cases h
  | .tup es, e', sc, osc, X, g, h => by
    unfold isE at h
    split at h
    · exact .val g rfl rfl (e_tup (F := F) (cg := cg) (G := G) (sEs es g h).v g.mono) fun _ => rfl
    · cases h
  | .lst es, e', sc, osc, X, g, h => by
    unfold isE at h
    split at h
    · exact .val g rfl rfl (e_lst (F := F) (cg := cg) (G := G) (sEs es g h).v g.mono) fun _ => rfl
    · cases h
  | .dict0, e', sc, osc, X, g, h => by
    unfold isE at h
    split at h
    · exact .val g rfl rfl (e_dict0 (F := F) (cg := cg) (G := G) (X := X)) fun _ => rfl
    · cases h
  | .dict ps, e', sc, osc, X, g, h => by
    unfold isE at h
    split at h
    · rename_i ks vs pos
      simp only [Bool.and_eq_true, decide_eq_true_eq] at h
      obtain ⟨⟨h1, h2⟩, h3⟩ := h
      obtain ⟨A, B, C⟩ := sPs ps (pos := pos) g h1
      refine .val g rfl rfl (e_disp (F := F) (cg := cg) (G := G) g A B C (fun z => ?_) h3) fun _ => rfl
      subst z
      cases h2
    · cases h
  | .rev a, e', sc, osc, X, g, h => by
    unfold isE at h
    split at h
    · exact .val g rfl rfl (e_rev g (sE a g h).o) fun _ => rfl
    · cases h
  | .sset a, e', sc, osc, X, g, h => by
    unfold isE at h
    split at h
    · simp only [Bool.and_eq_true, beq_iff_eq] at h
      obtain ⟨⟨⟨⟨e1, h1⟩, e2⟩, h2⟩, h3⟩ := h
      subst e1 e2
      have A := sE a g h3
      exact .val g rfl rfl (e_sset g h1 h2 A.o A.p) fun _ => rfl
    · cases h
  | .lset a, e', sc, osc, X, g, h => by
    unfold isE at h
    split at h
    · simp only [Bool.and_eq_true, beq_iff_eq] at h
      obtain ⟨⟨⟨⟨e1, h1⟩, e2⟩, h2⟩, h3⟩ := h
      subst e1 e2
      have A := sE a g h3
      exact .val g rfl rfl (e_lset g h1 h2 A.o A.p) fun _ => rfl
    · cases h
  | .dget a ke .none, e', sc, osc, X, g, h => by
    unfold isE at h
    split at h
    · simp only [Bool.and_eq_true, beq_iff_eq] at h
      obtain ⟨⟨⟨e1, h1⟩, h2⟩, h3⟩ := h
      subst e1
      have A := sE a g h1
      have B := sE ke g h2
      exact .val g rfl rfl (e_dget1 g A.o B.o A.p B.p (beq_iff_eq.mpr h3)) fun _ => rfl
    · cases h
  | .dget a ke (.some de), e', sc, osc, X, g, h => by
    unfold isE at h
    split at h
    · simp only [Bool.and_eq_true, beq_iff_eq] at h
      obtain ⟨⟨⟨⟨e1, h1⟩, h2⟩, h4⟩, h3⟩ := h
      subst e1
      have A := sE a g h1
      have B := sE ke g h2
      have C := sE de g h4
      exact .val g rfl rfl (e_dget2 g A.o B.o C.v A.p B.p C.p (beq_iff_eq.mpr h3)) fun _ => rfl
    · cases h
  | .listr (.range1 a), e', sc, osc, X, g, h => by
    unfold isE at h
    split at h
    · simp only [Bool.and_eq_true, beq_iff_eq] at h
      obtain ⟨⟨⟨e1, h1⟩, _⟩, h2⟩ := h
      subst e1
      unfold isI at h2
      split at h2
      · simp only [Bool.and_eq_true, beq_iff_eq] at h2
        obtain ⟨⟨e2, h3⟩, h4⟩ := h2
        subst e2
        have A := sE a g h4
        exact .val g rfl rfl (e_listr1 g h1 h3 A.o A.p) fun _ => rfl
      · cases h2
    · cases h
  | .listr (.range2 a b), e', sc, osc, X, g, h => by
    unfold isE at h
    split at h
    · simp only [Bool.and_eq_true, beq_iff_eq] at h
      obtain ⟨⟨⟨e1, h1⟩, _⟩, h2⟩ := h
      subst e1
      unfold isI at h2
      split at h2
      · simp only [Bool.and_eq_true, beq_iff_eq] at h2
        obtain ⟨⟨⟨e2, h3⟩, h4⟩, h5⟩ := h2
        subst e2
        have A := sE a g h4
        have B := sE b g h5
        exact .val g rfl rfl (e_listr2 g h1 h3 A.o B.o A.p B.p) fun _ => rfl
      · cases h2
    · cases h
  | .listr (.of a), e', sc, osc, X, g, h => by
    unfold isE at h
    split at h
    · simp [I.rng] at h
    · cases h
  | .listr (.zip a b), e', sc, osc, X, g, h => by
    unfold isE at h
    split at h
    · simp [I.rng] at h
    · cases h
  | .listr (.range3 a b d), e', sc, osc, X, g, h => by
    unfold isE at h
    split at h
    · simp [I.rng] at h
    · cases h
  | .listr (.enum a), e', sc, osc, X, g, h => by
    unfold isE at h
    split at h
    · simp [I.rng] at h
    · cases h
  | .bin op a b, e', sc, osc, X, g, h => by
    unfold isE at h
    split at h
    · simp only [Bool.and_eq_true, beq_iff_eq] at h
      obtain ⟨⟨e1, h1⟩, h2⟩ := h
      subst e1
      exact .val g rfl rfl (e_bin g (op := op) (sE a g h1).o (sE b g h2).o) fun _ => rfl
    · cases h
  | .neg a, e', sc, osc, X, g, h => by
    unfold isE at h
    split at h
    · exact .val g rfl rfl (e_neg g (sE a g h).o) fun _ => rfl
    · cases h
  | .cmp op a b, e', sc, osc, X, g, h => by
    unfold isE at h
    split at h
    · simp only [Bool.and_eq_true, beq_iff_eq] at h
      obtain ⟨⟨e1, h1⟩, h2⟩ := h
      subst e1
      have A := sE a g h1
      have B := sE b g h2
      exact .mk' g rfl rfl (e_cmp g (op := op) A.o B.o (plain_mark _ B.p)) fun _ => t_cmp g (op := op) A.o B.o (plain_mark _ B.p)
    · cases h
  | .chain op op2 a b d, e', sc, osc, X, g, h => by
    unfold isE at h
    split at h
    · simp only [Bool.and_eq_true, beq_iff_eq] at h
      obtain ⟨⟨⟨⟨e1, e2⟩, h1⟩, h2⟩, h3⟩ := h
      subst e1 e2
      have A := sE a g h1
      have B := sE b g h2
      have C := sE d g h3
      exact .mk' g rfl rfl (e_chain g A.o B.o C.o (plain_last _ _ C.p)) fun _ => t_chain g A.o B.o C.o (plain_last _ _ C.p)
    · cases h
  | .conj es, e', sc, osc, X, g, h => by
    unfold isE at h
    split at h
    · rename_i es' pos
      have A := sEs es g h
      by_cases hn : es' = []
      · have e1 := A.nil hn
        subst e1
        exact .mk' g rfl rfl ⟨fun _ _ _ _ _ _ z => by obtain ⟨Z, env, _, _, q⟩ := z; exact q.elim⟩ fun _ => ⟨fun _ _ _ _ _ _ z => by obtain ⟨Z, env, _, _, q⟩ := z; exact q.elim⟩
      · exact .mk' g rfl rfl (A.conj hn pos) fun ht => (A.tconj hn ht pos).pt
    · cases h
  | .disj es, e', sc, osc, X, g, h => by
    unfold isE at h
    split at h
    · rename_i es' pos
      have A := sEs es g h
      by_cases hn : es' = []
      · have e1 := A.nil hn
        subst e1
        exact .mk' g rfl rfl ⟨fun _ _ _ _ _ _ z => by obtain ⟨Z, env, _, _, q⟩ := z; exact q.elim⟩ fun _ => ⟨fun _ _ _ _ _ _ z => by obtain ⟨Z, env, _, _, q⟩ := z; exact q.elim⟩
      · exact .mk' g rfl rfl (A.disj hn pos) fun ht => (A.tdisj hn ht pos).pt
    · cases h
  | .not a, e', sc, osc, X, g, h => by
    unfold isE at h
    split at h
    · have A := sE a g h
      exact .mk' g rfl rfl (e_not g A.v) fun ht => t_not g (A.t ht)
    · cases h
  | .ite t a b, e', sc, osc, X, g, h => by
    unfold isE at h
    split at h
    · simp only [Bool.and_eq_true] at h
      obtain ⟨⟨⟨h0, h1⟩, h2⟩, h3⟩ := h
      exact .mk' g rfl rfl (e_ite g ((sE t g h1).t h0) (sE a g h2).v (sE b g h3).v) fun ht => by cases ht
    · cases h
  | .ix a i, e', sc, osc, X, g, h => by
    unfold isE at h
    split at h
    · simp only [Bool.and_eq_true] at h
      have I := sE i g h.2
      exact .val g rfl rfl (e_ix g (sE a g h.1).o I.o (plain_ix I.p)) fun _ => rfl
    · cases h
  | .cut a lo hi, e', sc, osc, X, g, h => by
    unfold isE at h
    split at h
    · simp only [Bool.and_eq_true] at h
      exact .val g rfl rfl (e_cut g (sE a g h.1.1).o (sEo lo g h.1.2) (sEo hi g h.2)) fun _ => rfl
    · cases h
  | .call x j es, e', sc, osc, X, g, h => by
    unfold isE at h
    split at h
    · rename_i y p es' pos
      simp only [Bool.and_eq_true, beq_iff_eq] at h
      obtain ⟨⟨⟨⟨e1, h1⟩, h2⟩, h3⟩, h4⟩ := h
      subst e1
      have A := sEs es g h4
      refine .val g rfl ?_ (e_call g (pos := pos) (p := p) h1 h2 h3 A.v A.nil (fun e r z => A.p e (by rw [z]; exact List.mem_cons_self ..)) (star_none _ fun z hz => A.p z (mem_tail hz))) fun _ => rfl
      cases es' with
      | nil =>
        show (!(x == ("super" : Str))) = true
        rw [(okN_of h3).2.2.2]
        rfl
      | cons _ _ => rfl
    · cases h
  | .callb x j es, e', sc, osc, X, g, h => by
    unfold isE at h
    split at h
    · rename_i y p es' pos
      simp only [Bool.and_eq_true, beq_iff_eq] at h
      obtain ⟨⟨⟨⟨⟨e1, h1⟩, h2⟩, h3⟩, h4⟩, h5⟩ := h
      subst e1
      have A := sEs es g h4
      cases es' with
      | nil => cases h5
      | cons e1 r1 =>
        exact .val g rfl rfl (e_callb g (pos := pos) (p := p) h1 h2 h3 A.o (A.p _ (List.mem_cons_self ..)) (star_none _ fun z hz => A.p z (List.mem_cons_of_mem _ hz))) fun _ => rfl
    · cases h
  | .calld x j es ds, e', sc, osc, X, g, h => by
    unfold isE at h
    split at h
    · rename_i y p es' pos
      simp only [Bool.and_eq_true, beq_iff_eq] at h
      obtain ⟨⟨⟨⟨⟨⟨e1, h1⟩, h2⟩, h3⟩, h4⟩, h5⟩, h6⟩ := h
      subst e1
      have A := sEs es g h4
      obtain ⟨q, hq, e5⟩ := List.any_eq_true.mp h5
      simp only [Bool.and_eq_true, beq_iff_eq] at e5
      have e7 := D.sames_ok e5.2
      obtain ⟨q1, q2⟩ := q
      cases e5.1
      cases e7
      cases es' with
      | nil => cases h6
      | cons e1 r1 =>
        exact .val g rfl rfl (e_calld g (pos := pos) (p := p) h1 h2 h3 hq A.v (A.p _ (List.mem_cons_self ..)) (star_none _ fun z hz => A.p z (List.mem_cons_of_mem _ hz))) fun _ => rfl
    · cases h
  | .callv i es, e', sc, osc, X, g, h => by
    unfold isE at h
    split at h
    · rename_i y p es' pos
      simp only [Bool.and_eq_true, decide_eq_true_eq] at h
      obtain ⟨⟨⟨⟨h1, h2⟩, h3⟩, h4⟩, h5⟩ := h
      have A := sEs es g h4
      cases es' with
      | nil => cases h5
      | cons e1 r1 =>
        exact .val g rfl rfl (e_callv g (pos := pos) (p := p) h1 h2 h3 A.v (A.p _ (List.mem_cons_self ..)) (star_none _ fun z hz => A.p z (List.mem_cons_of_mem _ hz))) fun _ => rfl
    · cases h
  | .bi b es, e', sc, osc, X, g, h => by
    unfold isE at h
    split at h
    · rename_i y p es' pos
      simp only [Bool.and_eq_true, beq_iff_eq] at h
      obtain ⟨⟨⟨⟨e1, h0⟩, h1⟩, h2⟩, h3⟩ := h
      subst e1
      have A := sEs es g h2
      cases es' with
      | nil => cases h3
      | cons e1 r1 =>
        exact .val g rfl rfl (e_bi g (pos := pos) (p := p) (b := b) h1 A.o (A.p _ (List.mem_cons_self ..)) (star_none _ fun z hz => A.p z (List.mem_cons_of_mem _ hz))) fun _ => rfl
    · cases h
  | .mt m a es, e', sc, osc, X, g, h => by
    unfold isE at h
    split at h
    · rename_i a' y apos es' pos
      simp only [Bool.and_eq_true, beq_iff_eq, decide_eq_true_eq] at h
      obtain ⟨⟨⟨⟨e1, h1⟩, h2⟩, h3⟩, h4⟩ := h
      subst e1
      have A := sE a g h1
      have B := sEs es g h2
      cases es' with
      | nil =>
        have e1 := B.nil rfl
        subst e1
        refine .val g rfl ?_ (e_mt0 g (pos := pos) (m := m) h3.symm A.o A.p (beq_iff_eq.mpr h4)) fun _ => rfl
        rfl
      | cons e1 r1 =>
        cases r1 with
        | nil =>
          exact .val g rfl rfl (e_mt g (pos := pos) (m := m) h3.symm A.o B.o A.p (B.p _ (List.mem_cons_self ..)) (beq_iff_eq.mpr h4)) fun _ => rfl
        | cons _ _ => cases m <;> cases h3
    · cases h
  | .isinst a t, e', sc, osc, X, g, h => by
    unfold isE at h
    split at h
    · simp only [Bool.and_eq_true, beq_iff_eq] at h
      obtain ⟨⟨⟨⟨e1, h1⟩, h2⟩, e2⟩, h3⟩ := h
      subst e1 e2
      have A := sE a g h2
      exact .val g rfl rfl (e_isinst g (t := t) h1 h3 A.o A.p) fun _ => rfl
    · cases h
  | .dictof a, e', sc, osc, X, g, h => by
    unfold isE at h
    split at h
    · simp only [Bool.and_eq_true, beq_iff_eq] at h
      obtain ⟨⟨e1, h1⟩, h2⟩ := h
      subst e1
      have A := sE a g h2
      exact .val g rfl rfl (e_dictof g h1 A.o A.p) fun _ => rfl
    · cases h
  | .litems a, e', sc, osc, X, g, h => by
    unfold isE at h
    split at h
    · simp only [Bool.and_eq_true, beq_iff_eq] at h
      obtain ⟨⟨⟨⟨e1, h1⟩, e2⟩, h2⟩, h3⟩ := h
      subst e1 e2
      have A := sE a g h2
      exact .val g rfl rfl (e_litems g h1 A.o A.p (beq_iff_eq.mpr h3)) fun _ => rfl
    · cases h
  | .tpkof a, e', sc, osc, X, g, h => by
    unfold isE at h
    split at h
    · simp only [Bool.and_eq_true, beq_iff_eq] at h
      obtain ⟨⟨e1, h1⟩, h2⟩ := h
      subst e1
      have A := sE a g h2
      exact .val g rfl rfl (e_tpkof g h1 A.o A.p) fun _ => rfl
    · cases h
  | .tp a, e', sc, osc, X, g, h => by
    unfold isE at h
    rw [Bool.and_eq_true] at h
    have A := sE a g h.2
    exact .mk' g rfl A.p (e_tp g A.o) fun z => nomatch z
  | .fld ci a x, e', sc, osc, X, g, h => by
    unfold isE at h
    split at h
    · simp only [Bool.and_eq_true, decide_eq_true_eq] at h
      obtain ⟨⟨e1, h1⟩, h2⟩ := h
      subst e1
      have A := sE a g h2
      exact .val g rfl rfl (e_fld g h1 A.o A.p) fun _ => rfl
    · cases h
  | .meth ci a m j es, e', sc, osc, X, g, h => by
    unfold isE at h
    split at h
    · rename_i a' y apos es' pos
      simp only [Bool.and_eq_true, decide_eq_true_eq] at h
      obtain ⟨⟨⟨⟨⟨⟨e1, h1⟩, h2⟩, h3⟩, h4⟩, h5⟩, h6⟩ := h
      subst e1
      have A := sE a g h2
      have B := sEs es g h3
      cases es' with
      | nil => cases h4
      | cons e1 r1 =>
        have no := star_none (env := X.env) (pos := pos) (e1 :: r1) B.p
        refine .val g rfl rfl (e_meth g (pos := pos) h1 A.v A.p B.v B.p (star_none _ fun z hz => B.p z (List.mem_cons_of_mem _ hz)) ?_ h6) fun _ => rfl
        unfold methodCallForm
        have al : (backTo pos (starEach (e1 :: r1) X.env)).all (fun x => !x.1) = true := by
          rw [List.all_eq_true]
          intro z hz
          have := List.any_eq_false.mp no z hz
          simpa using this
        rw [al]
        have l1 : (e1 :: r1).length + ([] : List Keyword).length + (if ((backToKw pos (keywordEach [] X.env)).isEmpty) = true then 0 else 1) < 30 := by
          show (e1 :: r1).length + 0 + 0 < 30
          omega
        simp only [Bool.true_and]
        rw [decide_eq_true l1]
        rfl
    · cases h
  | .mk x ci j es, e', sc, osc, X, g, h => by
    unfold isE at h
    split at h
    · rename_i y p es' pos
      simp only [Bool.and_eq_true, beq_iff_eq] at h
      obtain ⟨⟨⟨⟨⟨e1, h1⟩, h2⟩, h3⟩, h4⟩, h5⟩ := h
      subst e1
      have A := sEs es g h4
      cases es' with
      | nil => cases h5
      | cons e1 r1 =>
        exact .val g rfl rfl (e_mk g (pos := pos) (p := p) h1 h2 h3 A.v (A.p _ (List.mem_cons_self ..)) (star_none _ fun z hz => A.p z (List.mem_cons_of_mem _ hz))) fun _ => rfl
    · cases h
  | .lc elt tg it cond own, e', sc, osc, X, g, h => by
    unfold isE at h
    split at h
    · simp only [Bool.and_eq_true] at h
      obtain ⟨⟨⟨⟨⟨⟨⟨h1, hpr⟩, h2⟩, h3⟩, h4⟩, h5⟩, h6⟩, h7⟩ := h
      exact .val g rfl rfl (e_lc g h2 h4 ((sI it g h1).1 (prs hpr)) h3 (fun Y gY => sCs cond gY h5 h6) (fun Y gY => (sE elt gY h7).v) (sI it g h1).2.2) fun _ => rfl
    · cases h
theorem sPs : ∀ (ps : Ps) {ks : List (Option Expr)} {vs : List Expr} {pos : Pos} {sc osc : Scope} {X : Cx}, Good c G F cg k sc osc X → isPs c sc ps ks vs = true → PPs X pos ks vs (trsOf G F cg ps) ∧ ks.all (·.isSome) = true ∧ ks.length = vs.length
  | .nil, ks, vs, pos, sc, osc, X, g, h => by
    unfold isPs at h
    simp only [Bool.and_eq_true] at h
    have e1 := List.isEmpty_iff.mp h.1
    have e2 := List.isEmpty_iff.mp h.2
    subst e1 e2
    exact ⟨pps_nil, rfl, rfl⟩
  | .cons a b r, ks, vs, pos, sc, osc, X, g, h => by
    unfold isPs at h
    split at h
    · simp only [Bool.and_eq_true] at h
      obtain ⟨⟨h1, h2⟩, h3⟩ := h
      obtain ⟨A, B, C⟩ := sPs r (pos := pos) g h3
      refine ⟨pps_cons (sE a g h1).o (sE b g h2).v A, ?_, ?_⟩
      · rw [List.all_cons, B]
        rfl
      · rw [List.length_cons, List.length_cons, C]
    · cases h
theorem sEs : ∀ (es : Es) {es' : List Expr} {sc osc : Scope} {X : Cx}, Good c G F cg k sc osc X → isEs c sc es es' = true → SEs G F cg X es es'
  | .nil, es', sc, osc, X, g, h => by
    unfold isEs at h
    have e1 := List.isEmpty_iff.mp h
    subst e1
    exact ⟨(fun _ z => nomatch z), v_nil, os_nil, fun _ => rfl, (fun _ z => nomatch z), fun z => absurd rfl z, fun z => absurd rfl z, fun z => absurd rfl z, fun z => absurd rfl z⟩
  | .cons e r, es', sc, osc, X, g, h => by
    unfold isEs at h
    split at h
    · rename_i e' r'
      simp only [Bool.and_eq_true] at h
      have A := sE e g h.1
      have B := sEs r g h.2
      refine ⟨fun z hz => ?_, v_cons g A.v B.v A.p, os_cons g A.o B.o A.p, (fun z => nomatch z), fun z hz => ?_, fun _ pos => ?_, fun _ pos => ?_, fun _ ht pos => ?_, fun _ ht pos => ?_⟩
      · rcases List.mem_cons.mp hz with rfl | hz
        · exact A.p
        · exact B.p z hz
      · cases hz
        exact ⟨e, by rw [B.nil rfl], A⟩
      · cases r' with
        | nil =>
          have e1 := B.nil rfl
          subst e1
          exact e_and1 g A.v
        | cons b' r2' =>
          cases r with
          | nil => exact absurd h.2 (by simp [isEs])
          | cons b r2 => exact e_and g A.v (B.conj (fun z => nomatch z) pos)
      · cases r' with
        | nil =>
          have e1 := B.nil rfl
          subst e1
          exact e_or1 g A.v
        | cons b' r2' =>
          cases r with
          | nil => exact absurd h.2 (by simp [isEs])
          | cons b r2 => exact e_or g A.v (B.disj (fun z => nomatch z) pos)
      · simp only [tsts, Bool.and_eq_true] at ht
        cases r' with
        | nil =>
          have e1 := B.nil rfl
          subst e1
          exact w_and1 g (A.t ht.1)
        | cons b' r2' =>
          cases r with
          | nil => exact absurd h.2 (by simp [isEs])
          | cons b r2 => exact w_and g (A.t ht.1) (B.tconj (fun z => nomatch z) ht.2 pos)
      · simp only [tsts, Bool.and_eq_true] at ht
        cases r' with
        | nil =>
          have e1 := B.nil rfl
          subst e1
          exact w_or1 g (A.t ht.1)
        | cons b' r2' =>
          cases r with
          | nil => exact absurd h.2 (by simp [isEs])
          | cons b r2 => exact w_or g (A.t ht.1) (B.tdisj (fun z => nomatch z) ht.2 pos)
    · cases h
theorem sEo : ∀ (e : Eo) {e' : Option Expr} {sc osc : Scope} {X : Cx}, Good c G F cg k sc osc X → isEo c sc e e' = true → PO X e' (tP G (wP F cg e))
  | .none, e', sc, osc, X, g, h => by
    unfold isEo at h
    have e1 := Option.isNone_iff_eq_none.mp h
    subst e1
    exact p_none
  | .some e, e', sc, osc, X, g, h => by
    unfold isEo at h
    split at h
    · exact p_some g (sE e g h).o
    · cases h
theorem sCs : ∀ (es : Es) {es' : List Expr} {sc osc : Scope} {X : Cx}, Good c G F cg k sc osc X → tsts es = true → isEs c sc es es' = true → PTs X es' (tTs G (wCs F cg es))
  | .nil, es', sc, osc, X, g, ht, h => by
    unfold isEs at h
    have e1 := List.isEmpty_iff.mp h
    subst e1
    exact c_nil
  | .cons e r, es', sc, osc, X, g, ht, h => by
    unfold isEs at h
    split at h
    · simp only [Bool.and_eq_true] at h
      simp only [tsts, Bool.and_eq_true] at ht
      have A := sE e g h.1
      cases r with
      | nil =>
        have e1 : _ = [] := List.isEmpty_iff.mp (show List.isEmpty _ = true from h.2)
        subst e1
        exact c_one (A.t ht.1)
      | cons b r2 => exact ⟨fun _ _ _ _ _ _ z => by obtain ⟨Z, env, _, _, q⟩ := z; exact q.elim⟩
    · cases h
theorem sI : ∀ (it : I) {e' : Expr} {sc osc : Scope} {X : Cx}, Good c G F cg k sc osc X → isI c sc it e' = true → (∀ {tg : Expr}, (it.pairs = true → isTupE tg = true) → PI X tg e' (tI G (wI F cg it))) ∧ (∀ {tg : Expr}, (it.pairs = true → isTupE tg = true) → PI X tg e' (tIf G it (wI F cg it))) ∧ plainB e' = true
  | .of e, e', sc, osc, X, g, h => by
    unfold isI at h
    have A := sE e g h
    exact ⟨fun _ => i_of g A.o, fun _ => if_of g A.v, A.p⟩
  | .range1 a, e', sc, osc, X, g, h => by
    unfold isI at h
    split at h
    · simp only [Bool.and_eq_true, beq_iff_eq] at h
      obtain ⟨⟨e1, h1⟩, h2⟩ := h
      subst e1
      have A := sE a g h2
      exact ⟨fun _ => i_of0 g (i_range1 g h1 A.o A.p), fun _ => if_of0 g (i_range1 g h1 A.o A.p), rfl⟩
    · cases h
  | .range2 a b, e', sc, osc, X, g, h => by
    unfold isI at h
    split at h
    · simp only [Bool.and_eq_true, beq_iff_eq] at h
      obtain ⟨⟨⟨e1, h1⟩, h2⟩, h3⟩ := h
      subst e1
      have A := sE a g h2
      have B := sE b g h3
      exact ⟨fun _ => i_of0 g (i_range2 g h1 A.o B.o A.p B.p), fun _ => if_of0 g (i_range2 g h1 A.o B.o A.p B.p), rfl⟩
    · cases h
  | .range3 a b d, e', sc, osc, X, g, h => by
    unfold isI at h
    split at h
    · simp only [Bool.and_eq_true, beq_iff_eq] at h
      obtain ⟨⟨⟨⟨e1, h1⟩, h2⟩, h3⟩, h4⟩ := h
      subst e1
      have A := sE a g h2
      have B := sE b g h3
      have C := sE d g h4
      exact ⟨fun _ => i_of0 g (i_range3 g h1 A.o B.o C.o A.p B.p C.p), fun _ => if_of0 g (i_range3 g h1 A.o B.o C.o A.p B.p C.p), rfl⟩
    · cases h
  | .zip a b, e', sc, osc, X, g, h => by
    unfold isI at h
    split at h
    · simp only [Bool.and_eq_true, beq_iff_eq] at h
      obtain ⟨⟨⟨e1, h1⟩, h2⟩, h3⟩ := h
      subst e1
      have A := sE a g h2
      have B := sE b g h3
      refine ⟨fun {tg} ht => ?_, fun {tg} ht => ?_, rfl⟩
      · have ht := ht rfl
        cases tg <;> first | (cases ht; done) | exact i_zip g h1 A.o B.o A.p B.p
      · have ht := ht rfl
        cases tg <;> first | (cases ht; done) | exact if_zip g h1 A.v B.v A.p B.p
    · cases h
  | .enum a, e', sc, osc, X, g, h => by
    unfold isI at h
    split at h
    · simp only [Bool.and_eq_true, beq_iff_eq] at h
      obtain ⟨⟨e1, h1⟩, h2⟩ := h
      subst e1
      have A := sE a g h2
      refine ⟨fun {tg} ht => ?_, fun {tg} ht => ?_, rfl⟩
      · have ht := ht rfl
        cases tg <;> first | (cases ht; done) | exact i_enum g h1 A.o A.p
      · have ht := ht rfl
        cases tg <;> first | (cases ht; done) | exact if_enum g h1 A.v A.p
    · cases h
end
end
end LC

namespace LC
open PySem L2
section
variable {c : Cs} {G : Gx} {F : Nat → List D → (D → Prop) → Prop} {cg : Nat → D} {k : Nat} {sc : Scope} {X : Cx} {Z0 : Zt} {H0 : Hp}
theorem sw_cell {X : Cx} {x : Str} {elt : Expr} {gs : List Comprehension} {scope : Scope} {pos p : Pos} {l : Nat} (h : X.env.scope.names.lookup x = some .cell) : swapsWith (.ListComp elt gs scope pos) (some (.Name x p)) l X.env = pure false := by
  have e : (X.env.kindOf x == some NameKind.local) = false := by
    unfold Env.kindOf
    rw [h]
    rfl
  unfold swapsWith
  simp [e]
theorem own_self (g : Good c G F cg k sc sc X) {x : Str} (h : locB sc x = true) : L2.Loc X.env.scope x ∧ (X.fn x = true ∨ X.env.scope.names.lookup x = some .local) := g.own x h
mutual
theorem sS (g : Good c G F cg k sc sc X) (ok0 : ZOk G Z0 H0) (hp : PassesOwn (model X.prog X.w) X.A X.env X.xe) (hk : sc.kind = .function) : ∀ (s : S) {s' : Stmt}, isS c sc s s' = true → PS X s' (tS G Z0 H0 (wS F cg s))
  | .asg i e, s', h => by
    unfold isS at h
    split at h
    · rename_i x py e' pos
      simp only [Bool.and_eq_true, decide_eq_true_eq] at h
      obtain ⟨⟨⟨h1, h2⟩, h3⟩, h4⟩ := h
      have A := sE e g h3
      by_cases hl : isLc e = true
      · cases e with
        | lc elt tg it cond own =>
          unfold isE at h3
          split at h3
          · rename_i elt' tg' it' ifs' scope lpos
            unfold lineOk at h4
            by_cases hcell : sc.names.lookup x = some .cell
            · have hcell' : X.env.scope.names.lookup x = some .cell := by rw [g.sc]; exact hcell
              exact s_asg g ok0 h1 (own_self g h2) A.v (sw_cell hcell')
            have h4 : ((py.line == lpos.line) && (match sc.names.lookup x with | some .local => true | _ => false) && !(scope.names.any fun (n, k) => n == x && (k == .local || k == .cell))) = true := by
              revert h4
              cases hq : sc.names.lookup x with
              | none => exact fun z => z
              | some z => cases z <;> first | exact fun z => z | (exact (hcell hq).elim)
            simp only [Bool.and_eq_true] at h4
            simp only [Bool.and_eq_true] at h3
            obtain ⟨⟨⟨⟨⟨⟨⟨k1, kpr⟩, k2⟩, k3⟩, k4⟩, k5⟩, k6⟩, k7⟩ := h3
            obtain ⟨⟨l1, l2⟩, l3⟩ := h4
            have hloc : sc.names.lookup x = some .local := by
              revert l2
              cases sc.names.lookup x with
              | none => exact fun z => nomatch z
              | some z => cases z <;> first | exact fun _ => rfl | exact fun q => nomatch q
            have hloc' : X.env.scope.names.lookup x = some .local := by rw [g.sc]; exact hloc
            exact s_asgLc g ok0 h1 hloc' (sw_true (by rw [g.sc]; exact hk) hloc' l1 (by simpa using l3)) k2 k4 ((sI it g k1).1 (prs kpr)) k3 (fun Y gY => sCs cond gY k5 k6) (fun Y gY => (sE elt gY k7).v) (sI it g k1).2.2
          · cases h3
        | _ => cases hl
      · refine s_asg g ok0 h1 (own_self g h2) A.v (swaps_no _ _ _ A.p fun a b d p z => ?_)
        subst z
        cases e <;> first | (exact hl rfl) | (simp [isE] at h3; done) | (rename_i o; cases o <;> (simp [isE] at h3; done))
    · cases h
  | .unp is e, s', h => by
    unfold isS at h
    split at h
    · simp only [Bool.and_eq_true] at h
      obtain ⟨⟨h1, h2⟩, h3⟩ := h
      have A := sE e g h2
      have key : ∀ {es' : List Expr} {n : Nat} {p : Pos} (l : Nat) {e' : Expr}, isE c sc e e' = true → swapsWithSole [.Tuple es' n p] e' l X.env = pure false ∧ swappedStores [.Tuple es' n p] e' X.env = pure none := fun {es' n p} l {e'} hh => by
        cases e with
        | var i => cases e' <;> first | exact ⟨rfl, rfl⟩ | (simp [isE] at hh; done)
        | ix a i => cases e' <;> first | exact ⟨rfl, rfl⟩ | (simp [isE] at hh; done)
        | gix x j a => cases e' <;> first | exact ⟨rfl, rfl⟩ | (simp [isE] at hh; done)
        | call x j es => cases e' <;> first | exact ⟨rfl, rfl⟩ | (simp [isE] at hh; done)
        | lc a b c d f => cases e' <;> first | exact ⟨rfl, rfl⟩ | (simp [isE] at hh; done)
        | _ => cases h3
      exact s_unp g ok0 h1 A.v (key _ h2).1 (key 0 h2).2
    · cases h
  | .ret e, s', h => by
    unfold isS at h
    split at h
    · by_cases hv : isVar e = true
      · cases e with
        | var i =>
          unfold isE at h
          split at h
          · simp only [Bool.and_eq_true, decide_eq_true_eq] at h
            exact s_retv g ok0 h.1.1 h.1.2 h.2
          · cases h
        | _ => cases hv
      · exact s_ret g ok0 (by simpa using hv) (sE e g h).v
    · cases h
  | .retn, s', h => by
    unfold isS at h
    split at h
    · exact s_retn ok0
    · cases h
  | .ifs t a b, s', h => by
    unfold isS at h
    split at h
    · simp only [Bool.and_eq_true] at h
      obtain ⟨⟨⟨h0, h1⟩, h2⟩, h3⟩ := h
      exact s_if g ok0 ((sE t g h1).t h0) (sSs g ok0 hp hk a h2) (sSs g ok0 hp hk b h3)
    · cases h
  | .fors tg it body, s', h => by
    unfold isS at h
    split at h
    · simp only [Bool.and_eq_true] at h
      obtain ⟨⟨⟨hpr, h1⟩, h2⟩, h3⟩ := h
      have A := sI it g h2
      exact s_for g ok0 hp (A.2.1 (prs hpr)) h1 (sBs g ok0 hp hk body h3) A.2.2
    · cases h
  | .whiles t body, s', h => by
    unfold isS at h
    split at h
    · simp only [Bool.and_eq_true] at h
      obtain ⟨⟨h0, h1⟩, h2⟩ := h
      exact s_while g ok0 hp ((sE t g h1).t h0) (sSs g ok0 hp hk body h2)
    · cases h
  | .append i e, s', h => by
    unfold isS at h
    split at h
    · simp only [Bool.and_eq_true, decide_eq_true_eq, beq_iff_eq] at h
      obtain ⟨⟨⟨⟨⟨h1, h2⟩, h3⟩, h4⟩, h5⟩, h6⟩ := h
      subst h4
      have A := sE e g h5
      exact s_append g ok0 h1 h2 h3 A.v A.p (beq_iff_eq.mpr h6)
    · cases h
  | .extend i e, s', h => by
    unfold isS at h
    split at h
    · simp only [Bool.and_eq_true, decide_eq_true_eq, beq_iff_eq] at h
      obtain ⟨⟨⟨⟨⟨h1, h2⟩, h3⟩, h4⟩, h5⟩, h6⟩ := h
      subst h4
      have A := sE e g h5
      exact s_extend g ok0 h1 h2 h3 A.o A.p (beq_iff_eq.mpr h6)
    · cases h
  | .dupd i e, s', h => by
    unfold isS at h
    split at h
    · simp only [Bool.and_eq_true, decide_eq_true_eq, beq_iff_eq] at h
      obtain ⟨⟨⟨⟨⟨h1, h2⟩, h3⟩, h4⟩, h5⟩, h6⟩ := h
      subst h4
      have A := sE e g h5
      exact s_dupd g ok0 h1 h2 h3 A.v A.p (beq_iff_eq.mpr h6)
    · cases h
  | .aug i op e, s', h => by
    unfold isS at h
    split at h
    · simp only [Bool.and_eq_true, decide_eq_true_eq, beq_iff_eq] at h
      obtain ⟨⟨⟨h1, h2⟩, h3⟩, h4⟩ := h
      subst h3
      exact s_aug g ok0 h1 (own_self g h2) (sE e g h4).o
    · cases h
  | .pop tg i e, s', h => by
    unfold isS at h
    split at h
    · simp only [Bool.and_eq_true, decide_eq_true_eq, beq_iff_eq] at h
      obtain ⟨⟨⟨⟨⟨⟨h1, h2⟩, h3⟩, h4⟩, h5⟩, h6⟩, h7⟩ := h
      subst h5
      split at h7
      · exact s_pop0 g ok0 h1 h2 h3 h4 (beq_iff_eq.mpr h6)
      · rename_i e1 e2
        have A := sE e1 g h7
        exact s_pop1 g ok0 h1 h2 h3 h4 A.o A.p (beq_iff_eq.mpr h6)
      · cases h7
    · cases h
  | .lput i ke e, s', h => by
    unfold isS at h
    split at h
    · simp only [Bool.and_eq_true, decide_eq_true_eq] at h
      obtain ⟨⟨⟨⟨⟨h1, h2⟩, h3⟩, h4⟩, h5⟩, h6⟩ := h
      have A := sE e g h5
      have B := sE ke g h4
      have key : ∀ {x : Str} {p p2 : Pos} {ke' : Expr} (l : Nat) {e' : Expr}, isE c sc e e' = true → plainB e' = true → swapsWithSole [.Subscript (.Name x p) ke' p2] e' l X.env = pure false ∧ swappedStores [.Subscript (.Name x p) ke' p2] e' X.env = pure none := fun {x p p2 ke'} l {e'} hh hpl => by
        cases e' <;> first | exact ⟨rfl, rfl⟩ | (cases hpl; done) | (cases e <;> first | (cases h6; done) | (simp [isE] at hh; done) | (rename_i o; cases o <;> (simp [isE] at hh; done)))
      exact s_lput g ok0 h1 h2 h3 B.o B.p A.v (key _ h5 A.p).1 (key 0 h5 A.p).2
    · cases h
  | .dput i ke e, s', h => by
    unfold isS at h
    split at h
    · simp only [Bool.and_eq_true, decide_eq_true_eq] at h
      obtain ⟨⟨⟨⟨⟨h1, h2⟩, h3⟩, h4⟩, h5⟩, h6⟩ := h
      have A := sE e g h5
      have B := sE ke g h4
      refine s_dput g ok0 h1 h2 h3 B.o A.v (swaps_no _ _ _ A.p fun a b d p z => ?_)
      subst z
      cases e <;> first | (cases h6; done) | (simp [isE] at h5; done) | (rename_i o; cases o <;> (simp [isE] at h5; done))
    · cases h
  | .par i j es, s', h => by
    unfold isS at h
    split at h
    · simp only [Bool.and_eq_true, decide_eq_true_eq, Bool.not_eq_true'] at h
      obtain ⟨⟨⟨⟨⟨⟨⟨h1, h2⟩, h3⟩, h4⟩, h5⟩, h6⟩, h7⟩, h8⟩ := h
      have A := sEs es g h8
      have lo : ∀ {x : Str}, locO sc x = true → sc.names.lookup x = some .local := fun {x} q => by
        unfold locO at q
        split at q
        · assumption
        · cases q
      exact s_par g ok0 hk h1 h2 h3 h4 (lo h5) (lo h6) h7 (A.p _ (List.mem_cons_of_mem _ (List.mem_cons_self ..))) A.v
    · cases h
  | .sfld i ci x e, s', h => by
    unfold isS at h
    split at h
    · simp only [Bool.and_eq_true, decide_eq_true_eq] at h
      obtain ⟨⟨⟨⟨⟨⟨⟨⟨h1, h2⟩, h3⟩, e1⟩, h4⟩, h5⟩, h6⟩, h7⟩, h8⟩ := h
      subst e1
      have A := sE e g h7
      refine s_sfld g ok0 h1 h2 h3 ⟨h4, fun z hz => by
        have := List.all_eq_true.mp h5 z hz
        simpa using this⟩ h6 A.v (swaps_no _ _ _ A.p fun a b d p z => ?_)
      subst z
      cases e <;> first | (cases h8; done) | (simp [isE] at h7; done) | (rename_i o; cases o <;> (simp [isE] at h7; done))
    · cases h
  | .apop i j e, s', h => by
    unfold isS at h
    split at h
    · simp only [Bool.and_eq_true, decide_eq_true_eq, beq_iff_eq] at h
      obtain ⟨⟨⟨⟨⟨⟨⟨⟨⟨⟨h1, h2⟩, h3⟩, e1⟩, h4⟩, k1⟩, k2⟩, k3⟩, e2⟩, k4⟩, h5⟩ := h
      subst e1 e2
      have A := sE e g h5
      exact s_apop g ok0 h1 h2 h3 (beq_iff_eq.mpr h4) k1 k2 k3 (beq_iff_eq.mpr k4) A.o A.p
    · cases h
  | .freeze i, s', h => by
    unfold isS at h
    cases h
  | .lock i, s', h => by
    unfold isS at h
    cases h
  | .pass, s', h => by
    unfold isS at h
    split at h
    · exact s_pass ok0
    · cases h
  | .expr e, s', h => by
    unfold isS at h
    split at h
    · simp only [Bool.and_eq_true] at h
      have A := sE e g h.1
      refine s_expr g ok0 A.v (swaps_no _ _ _ A.p fun a b d p z => ?_)
      subst z
      have h2 := h.1
      have h3 := h.2
      cases e <;> first | (cases h3; done) | (simp [isE] at h2; done) | (rename_i o; cases o <;> (simp [isE] at h2; done))
    · cases h
  | .lend x j p i es, s', h => by
    unfold isS at h
    split at h
    · rename_i y py es' cpos pos
      simp only [Bool.and_eq_true, beq_iff_eq] at h
      obtain ⟨⟨⟨⟨e1, h1⟩, h2⟩, h3⟩, h4⟩ := h
      subst e1
      obtain ⟨A, B, C⟩ := pa_lent g (fun e e' he => ⟨(sE e g he).v, (sE e g he).p⟩) (fun es es' he => ⟨(sEs es g he).v, (sEs es g he).p⟩) p es h4
      exact s_lend g ok0 (List.contains_iff_mem.mp h1) h2 h3 A B C (star_none _ fun z hz => B z (mem_tail hz))
    · cases h
theorem sBs (g : Good c G F cg k sc sc X) (ok0 : ZOk G Z0 H0) (hp : PassesOwn (model X.prog X.w) X.A X.env X.xe) (hk : sc.kind = .function) : ∀ (ss : Ss) {ss' : List Stmt}, isBs c sc ss ss' = true → PSs X ss' (tB G Z0 H0 (wSs F cg ss))
  | .nil, ss', h => by
    unfold isBs at h
    have e1 := List.isEmpty_iff.mp h
    subst e1
    exact PSs.weak (ss_nil g) fun _ _ _ h => h.2
  | .skip t r, ss', h => by
    unfold isBs at h
    split at h
    · simp only [Bool.and_eq_true] at h
      exact ss_skip g ok0 ((sE t g h.1.2).t h.1.1) (sBs g ok0 hp hk r h.2)
    · cases h
  | .cons s r, ss', h => by
    unfold isBs at h
    split at h
    · exact ss_freezeB g ok0 (sBs g ok0 hp hk r h)
    · exact ss_lockB g ok0 (sBs g ok0 hp hk r h)
    · split at h
      · simp only [Bool.and_eq_true] at h
        exact ss_consB g ok0 (sS g ok0 hp hk s h.1) (sBs g ok0 hp hk r h.2)
      · cases h
theorem sSs (g : Good c G F cg k sc sc X) (ok0 : ZOk G Z0 H0) (hp : PassesOwn (model X.prog X.w) X.A X.env X.xe) (hk : sc.kind = .function) : ∀ (ss : Ss) {ss' : List Stmt}, isSs c sc ss ss' = true → PSs X ss' (tS G Z0 H0 (wSs F cg ss))
  | .nil, ss', h => by
    unfold isSs at h
    have e1 := List.isEmpty_iff.mp h
    subst e1
    exact ss_nil g
  | .skip t r, ss', h => by
    unfold isSs at h
    cases h
  | .cons s r, ss', h => by
    unfold isSs at h
    split at h
    · exact ss_freeze g ok0 (sSs g ok0 hp hk r h)
    · exact ss_lock g ok0 (sSs g ok0 hp hk r h)
    · split at h
      · simp only [Bool.and_eq_true] at h
        exact ss_cons g (sS g ok0 hp hk s h.1) (sSs g ok0 hp hk r h.2)
      · cases h
end
end
inductive Fn where
  | body (n m : Nat) (b : Ss)
  | prim (n : Nat) (p : List D → (D → Prop) → Prop)
  | lent (n m p : Nat) (b : Ss)
  | init (c n m : Nat) (b : Ss)
def start0 (ds : List D) (m : Nat) : Env := ds.map (fun d => some (T.v d)) ++ List.replicate m none
def startL (kvs : List (Key × D)) (ds : List D) (m p : Nat) : Env := (ds.map (fun d => some (T.v d))).insertIdx p (some (.op kvs)) ++ List.replicate m none
def lentK (p : Nat) (Q : D → Prop) : Kn := ⟨fun env => match slot env p with
  | some (.op kvs) => Q (.dct kvs)
  | _ => False, fun _ => False⟩
def startI (c : Nat) (ds : List D) (m : Nat) : Env := some (.ob c []) :: ds.map (fun d => some (T.v d)) ++ List.replicate m none
def initK (Q : D → Prop) : Kn := ⟨fun env => match slot env 0 with
  | some (.ob c ks) => Q (.obj c ks)
  | _ => False, fun _ => False⟩
theorem initK_mono {Q Q' : D → Prop} (h : ∀ d, Q d → Q' d) (env : Env) (x : (initK Q).nx env) : (initK Q').nx env := by
  unfold initK at x ⊢
  dsimp only at x ⊢
  cases hs : slot env 0 with
  | none =>
    rw [hs] at x
    exact x.elim
  | some t =>
    rw [hs] at x
    cases t <;> first | exact h _ x | exact x.elim
theorem lentK_mono {p : Nat} {Q Q' : D → Prop} (h : ∀ d, Q d → Q' d) (env : Env) (x : (lentK p Q).nx env) : (lentK p Q').nx env := by
  unfold lentK at x ⊢
  dsimp only at x ⊢
  cases hs : slot env p with
  | none =>
    rw [hs] at x
    exact x.elim
  | some t =>
    rw [hs] at x
    cases t <;> first | exact h _ x | exact x.elim
def Phi (tab : List Fn) (cg : Nat → D) : Nat → Nat → List D → (D → Prop) → Prop
  | 0, _, _, _ => False
  | k + 1, j, ds, Q => match tab[j]? with
    | some (.body n m b) => ds.length = n ∧ wSs (Phi tab cg k) cg b (start0 ds m) ⟨fun _ => Q .non, Q⟩
    | some (.prim n p) => (ds.length = n ∧ 5 ≤ k) ∧ p ds Q
    | some (.lent n m p b) => match ds with
      | .dct kvs :: r => (r.length + 1 = n ∧ p < n) ∧ wSs (Phi tab cg k) cg b (startL kvs r m p) (lentK p Q)
      | _ => False
    | some (.init c n m b) => match k with
      | k' + 1 => ds.length + 1 = n ∧ wSs (Phi tab cg k') cg b (startI c ds m) (initK Q)
      | 0 => False
    | none => False
def Mono (tab : List Fn) : Prop := ∀ n p, Fn.prim n p ∈ tab → ∀ ds Q Q', (∀ d, Q d → Q' d) → p ds Q → p ds Q'
theorem Phi_mono {tab : List Fn} {cg : Nat → D} (hm : Mono tab) : ∀ (k j : Nat) (ds : List D) (Q Q' : D → Prop), (∀ d, Q d → Q' d) → Phi tab cg k j ds Q → Phi tab cg k j ds Q'
  | 0, _, _, _, _, _, h => h.elim
  | k + 1, j, ds, Q, Q', hQ, h => by
    unfold Phi at h ⊢
    split at h
    · exact ⟨h.1, wSs_mono (Phi_mono hm k) _ _ _ _ ⟨fun _ q => hQ _ q, hQ⟩ h.2⟩
    · rename_i n p e
      exact ⟨h.1, hm n p (List.mem_of_getElem? e) ds Q Q' hQ h.2⟩
    · split at h
      · exact ⟨h.1, wSs_mono (Phi_mono hm k) _ _ _ _ ⟨fun env q => lentK_mono hQ env q, fun _ q => q⟩ h.2⟩
      · exact h.elim
    · cases k with
      | zero => exact h.elim
      | succ k' => exact ⟨h.1, wSs_mono (Phi_mono hm k') _ _ _ _ ⟨fun env q => initK_mono hQ env q, fun _ q => q⟩ h.2⟩
    · exact h.elim
def DflOk (K : PySem.W.Frag) (G : Gx) (dfs : List (Nat × List D)) (j : Nat) (fd : FuncData) (ps : List Str) : Prop := ∀ dl, (j, dl) ∈ dfs → ∃ dvs us, (∀ Z, RepL G Z dl dvs) ∧ Vals dvs us ∧ Binds K fd ps us
inductive Known (P : Program) (w : World) (K : PySem.W.Frag) (mg : Str → Option Value) (base : Heap) (G : Gx) (fns gls : List (Str × Nat)) (dfs : List (Nat × List D)) (lfs : Lf) (tab : List Fn) (j : Nat) (f : Addr) : Prop
  | body {x qual : Str} {st : Stmt} {dvs : List V} {kws : List (Str × V)} {fd : FuncData} {N ps : List Str} {b : Ss} (e : tab[j]? = some (.body ps.length (N.length - ps.length) b)) (F : FunD K x qual (defArgs st) (defBody st) (defScope st) dvs kws f fd) (S : FnScope N ps (defScope st)) (bs : Binds K fd ps []) (df : DflOk K G dfs j fd ps) (h : isSs ⟨N, fns, gls, dfs, lfs⟩ (defScope st) b (defBody st) = true)
  | prim {fd : FuncData} {ps : List Str} {p : List D → (D → Prop) → Prop} (e : tab[j]? = some (.prim ps.length p)) (kp : PySem.W.keepIn K (.ref f) = true) (bs : Binds K fd ps []) (df : DflOk K G dfs j fd ps) (ok : FnOk P w K mg base CX0 5 f fd ps (spOf G ps.length p))
structure KnownL (K : PySem.W.Frag) (fns gls : List (Str × Nat)) (dfs : List (Nat × List D)) (lfs : Lf) (tab : List Fn) (j p : Nat) (f : Addr) : Prop where
  ex : ∃ (x qual : Str) (st : Stmt) (dvs : List V) (kws : List (Str × V)) (fd : FuncData) (N ps : List Str) (b : Ss), tab[j]? = some (.lent ps.length (N.length - ps.length) p b) ∧ FunD K x qual (defArgs st) (defBody st) (defScope st) dvs kws f fd ∧ FnScope N ps (defScope st) ∧ Binds K fd ps [] ∧ p < ps.length ∧ isSs ⟨N, fns, gls, dfs, lfs⟩ (defScope st) b (defBody st) = true
structure KnownC (K : PySem.W.Frag) (mg : Str → Option Value) (G : Gx) (fns gls : List (Str × Nat)) (dfs : List (Nat × List D)) (lfs : Lf) (tab : List Fn) (d : CD) : Prop where
  ex : ∃ C, G.ca d.c = some C ∧ Cls K C ∧ mg d.x = some (.ref C) ∧ (∀ x ∈ d.fs, NoAttr K C (mkS x)) ∧ (∀ m j, (m, j) ∈ d.ms → ∃ f, Meth K C (mkS m) f ∧ G.fa j = some f) ∧
    ∃ (fI : Addr) (x qual : Str) (st : Stmt) (dvs : List V) (kws : List (Str × V)) (fd : FuncData) (N ps : List Str) (b : Ss), Mk K C fI ∧ tab[d.j]? = some (.init d.c ps.length (N.length - ps.length) b) ∧ FunD K x qual (defArgs st) (defBody st) (defScope st) dvs kws fI fd ∧ FnScope N ps (defScope st) ∧ Binds K fd ps [] ∧ isSs ⟨N, fns, gls, dfs, lfs⟩ (defScope st) b (defBody st) = true
structure World1 (P : Program) (w : World) (K : PySem.W.Frag) (mg : Str → Option Value) (base : Heap) (G : Gx) (fns gls : List (Str × Nat)) (dfs : List (Nat × List D)) (lfs : Lf) (tab : List Fn) (cg : Nat → D) : Prop where
  eK : G.K = K
  blt : ∀ b, b ∈ bltNames → mg b = none
  gl : ∀ x j, gls.lookup x = some j → ∃ u, mg x = some u ∧ GlOk G K w u (cg j)
  fn : ∀ x j, fns.lookup x = some j → ∃ f, mg x = some (.ref f) ∧ G.fa j = some f
  kn : ∀ j f, G.fa j = some f → Known P w K mg base G fns gls dfs lfs tab j f
  mono : Mono tab
  kl : ∀ x j p, (x, j, p) ∈ lfs.l → ∃ f, mg x = some (.ref f) ∧ KnownL K fns gls dfs lfs tab j p f
  kc : ∀ d ∈ lfs.cl, KnownC K mg G fns gls dfs lfs tab d
theorem repL_start {G : Gx} {Z : Zt} {H H0 : Hp} {N : List Str} : ∀ {ds : List D} {vs : List V}, RepL G Z ds vs → vs.length ≤ N.length → EnvS G H0 Z H (L2.start N vs) (start0 ds (N.length - ds.length)) := fun {ds vs} r hl => by
  have hd := r.length
  have get : ∀ i t, slot (start0 ds (N.length - ds.length)) i = some t → ∃ d v, t = .v d ∧ (L2.start N vs)[i]? = some (some v) ∧ RepF G Z d v := fun i t h => by
    unfold slot start0 at h
    by_cases hi : i < ds.length
    · rw [List.getElem?_append_left (by rw [List.length_map]; exact hi), List.getElem?_map, List.getElem?_eq_getElem hi] at h
      cases h
      obtain ⟨v, h1, h2⟩ := r.getD (List.getElem?_eq_getElem hi)
      refine ⟨_, v, rfl, ?_, h2⟩
      unfold L2.start
      rw [List.getElem?_append_left (by rw [List.length_map, ← hd]; exact hi), List.getElem?_map, h1]
      rfl
    · rw [List.getElem?_append_right (by rw [List.length_map]; omega), List.getElem?_replicate] at h
      split at h <;> cases h
  refine ⟨⟨?_, fun i t h => ?_⟩, fun i t a h1 h2 _ => ?_, fun i j t u a _ h1 _ h3 => ?_⟩
  · unfold L2.start start0
    rw [List.length_append, List.length_append, List.length_map, List.length_map, List.length_replicate, List.length_replicate, hd]
  · obtain ⟨d, v, e, h1, h2⟩ := get i t h
    exact ⟨v, h1, by rw [e]; exact .v h2⟩
  · obtain ⟨d, v, e, _⟩ := get i t h1
    rw [e] at h2
    cases h2
  · obtain ⟨d, v, e, _⟩ := get i t h1
    rw [e] at h3
    cases h3
def Gx.at_ (G : Gx) (q : Option Addr) : Gx := { G with pa := q }
mutual
theorem RepF.at_ {G : Gx} {Z : Zt} (q : Option Addr) : ∀ {d : D} {v : V}, RepF G Z d v → RepF (G.at_ q) Z d v
  | _, _, .non => .non
  | _, _, .bl b => .bl b
  | _, _, .int i => .int i
  | _, _, .str x => .str x
  | _, _, .tup s r => .tup s (RepL.at_ q r)
  | _, _, .lst s r => .lst s (RepL.at_ q r)
  | _, _, .dct s r => .dct s (RepK.at_ q r)
  | _, _, .lck s r => .lck s (RepK.at_ q r)
  | _, _, .tpk s h1 h2 r => .tpk s h1 h2 (RepL.at_ q r)
  | _, _, .obj s h r => .obj s h (RepK.at_ q r)
  | _, _, .fn s => .fn s
  | _, _, .deck s => .deck s
  | _, _, .script s h => .script s h
theorem RepL.at_ {G : Gx} {Z : Zt} (q : Option Addr) : ∀ {d : List D} {v : List V}, RepL G Z d v → RepL (G.at_ q) Z d v
  | _, _, .nil => .nil
  | _, _, .cons r t => .cons (RepF.at_ q r) (RepL.at_ q t)
theorem RepK.at_ {G : Gx} {Z : Zt} (q : Option Addr) : ∀ {d : List (Key × D)} {v : List (Key × V)}, RepK G Z d v → RepK (G.at_ q) Z d v
  | _, _, .nil => .nil
  | _, _, .cons g r t => .cons g (RepF.at_ q r) (RepK.at_ q t)
end
section
variable {G : Gx} {q : Option Addr}
theorem repF_at : RepF (G.at_ q) = RepF G := by
  funext Z d v
  exact propext ⟨fun r => r.at_ G.pa, fun r => r.at_ q⟩
theorem repL_at : RepL (G.at_ q) = RepL G := by
  funext Z d v
  exact propext ⟨fun r => r.at_ G.pa, fun r => r.at_ q⟩
theorem repK_at : RepK (G.at_ q) = RepK G := by
  funext Z d v
  exact propext ⟨fun r => r.at_ G.pa, fun r => r.at_ q⟩
theorem zOk_at : ZOk (G.at_ q) = ZOk G := by
  funext Z H
  exact propext ⟨fun h => ⟨h.le, h.dk, h.dj⟩, fun h => ⟨h.le, h.dk, h.dj⟩⟩
theorem ext_at : Ext (G.at_ q) = Ext G := by
  funext Z H Z' H'
  refine propext ⟨fun h => ⟨?_, h.fr, h.dk, h.keep, h.newF, h.newD⟩, fun h => ⟨?_, h.fr, h.dk, h.keep, h.newF, h.newD⟩⟩
  · rw [← zOk_at]; exact h.ok
  · rw [zOk_at]; exact h.ok
theorem spOf_at : spOf (G.at_ q) = spOf G := by
  funext n f
  unfold spOf
  simp only [repF_at, repL_at, zOk_at, ext_at]
theorem spLent_at : spLent (G.at_ q) = spLent G := by
  funext n p f
  unfold spLent
  simp only [repL_at, repK_at, zOk_at, ext_at]
theorem spInit_at : spInit (G.at_ q) = spInit G := by
  funext c n f
  unfold spInit
  simp only [repL_at, repK_at, zOk_at, ext_at]
  rfl
theorem glOk_at {K : PySem.W.Frag} {w : World} {u : Value} {d : D} (h : GlOk G K w u d) : GlOk (G.at_ q) K w u d := by
  unfold GlOk at h ⊢
  simp only [repF_at]
  exact h
theorem dflOk_at {K : PySem.W.Frag} {dfs : List (Nat × List D)} {j : Nat} {fd : FuncData} {ps : List Str} (h : DflOk K G dfs j fd ps) : DflOk K (G.at_ q) dfs j fd ps := by
  unfold DflOk at h ⊢
  simp only [repL_at]
  exact h
end
theorem repL_startL {G : Gx} {Z : Zt} {H1 : Hp} {a : Addr} {N : List Str} {kvs : List (Key × D)} {kv : List (Key × V)} {ds : List D} {vs' : List V} {p : Nat} (hpa : G.pa = some a) (ok : ZOk G Z H1) (h1 : H1 a = none) (rk : RepK G Z kvs kv) (rl : RepL G Z ds vs') (hpl : p ≤ vs'.length) (hl : vs'.length + 1 ≤ N.length) :
    EnvS G H1 Z (upd H1 a (.dK kv)) (L2.start N (vs'.insertIdx p (.ref a))) (startL kvs ds (N.length - (vs'.length + 1)) p) := by
  have hd := rl.length
  have hM : (ds.map fun d => some (T.v d)).length = vs'.length := by rw [List.length_map, hd]
  have li : ((ds.map fun d => some (T.v d)).insertIdx p (some (.op kvs))).length = vs'.length + 1 := by rw [List.length_insertIdx_of_le_length (by omega), hM]
  have lv : (vs'.insertIdx p (V.ref a)).length = vs'.length + 1 := insL hpl
  have get : ∀ i t, slot (startL kvs ds (N.length - (vs'.length + 1)) p) i = some t → (i = p ∧ t = .op kvs ∧ (L2.start N (vs'.insertIdx p (V.ref a)))[i]? = some (some (.ref a))) ∨ ∃ d v, t = .v d ∧ (L2.start N (vs'.insertIdx p (V.ref a)))[i]? = some (some v) ∧ RepF G Z d v := fun i t h => by
    unfold slot startL at h
    by_cases hi : i < vs'.length + 1
    · rw [List.getElem?_append_left (by rw [li]; exact hi), List.getElem?_insertIdx] at h
      have hs : (L2.start N (vs'.insertIdx p (V.ref a)))[i]? = ((vs'.insertIdx p (V.ref a))[i]?).map some := by
        unfold L2.start
        rw [List.getElem?_append_left (by rw [List.length_map, lv]; exact hi), List.getElem?_map]
      rw [hs, List.getElem?_insertIdx]
      by_cases h1 : i < p
      · rw [if_pos h1] at h ⊢
        rw [List.getElem?_map] at h
        cases hq : ds[i]? with
        | none => rw [hq] at h; cases h
        | some d =>
          rw [hq] at h
          cases h
          obtain ⟨v, e1, e2⟩ := rl.getD hq
          exact .inr ⟨d, v, rfl, by rw [e1]; rfl, e2⟩
      · rw [if_neg h1] at h ⊢
        by_cases h2 : i = p
        · rw [if_pos h2, if_pos (by omega)] at h
          rw [if_pos h2, if_pos (by omega)]
          cases h
          exact .inl ⟨h2, rfl, rfl⟩
        · rw [if_neg h2] at h ⊢
          rw [List.getElem?_map] at h
          cases hq : ds[i - 1]? with
          | none => rw [hq] at h; cases h
          | some d =>
            rw [hq] at h
            cases h
            obtain ⟨v, e1, e2⟩ := rl.getD hq
            exact .inr ⟨d, v, rfl, by rw [e1]; rfl, e2⟩
    · rw [List.getElem?_append_right (by rw [li]; omega), List.getElem?_replicate] at h
      split at h <;> cases h
  refine ⟨⟨?_, fun i t h => ?_⟩, fun i t b h2 h3 h4 => ?_, fun i j t u b hij e1 e2 o1 o2 => ?_⟩
  · unfold L2.start startL
    rw [List.length_append, List.length_append, li, List.length_map, lv, List.length_replicate, List.length_replicate]
  · rcases get i t h with ⟨e0, e1, e2⟩ | ⟨d, v, e, e1, e2⟩
    · subst e1
      exact ⟨_, e2, .op hpa (ok.freeF h1) (ok.ndOf h1) upd_same rk⟩
    · subst e
      exact ⟨v, e1, .v e2⟩
  · rcases get i t h2 with ⟨e0, e1, e2⟩ | ⟨d, v, e, e1, e2⟩
    · rw [e2] at h4
      cases h4
      exact h1
    · subst e
      cases h3
  · rcases get i t e1 with ⟨q0, q1, q2⟩ | ⟨d, v, e, q1, q2⟩
    · rcases get j u e2 with ⟨r0, r1, r2⟩ | ⟨d, v, e, r1, r2⟩
      · exact absurd (q0.trans r0.symm) hij
      · subst e
        cases o2
    · subst e
      cases o1
theorem repL_startG {G : Gx} {Z : Zt} {H1 : Hp} {a : Addr} {N : List Str} {t0 : T} {o : HO} {ds : List D} {vs' : List V} {p : Nat} (ok : ZOk G Z H1) (h1 : H1 a = none) (r0 : RepT G Z (upd H1 a o) t0 (.ref a)) (rl : RepL G Z ds vs') (hpl : p ≤ vs'.length) (hl : vs'.length + 1 ≤ N.length) :
    EnvS G H1 Z (upd H1 a o) (L2.start N (vs'.insertIdx p (.ref a))) ((ds.map (fun d => some (T.v d))).insertIdx p (some t0) ++ List.replicate (N.length - (vs'.length + 1)) none) := by
  have hd := rl.length
  have hM : (ds.map fun d => some (T.v d)).length = vs'.length := by rw [List.length_map, hd]
  have li : ((ds.map fun d => some (T.v d)).insertIdx p (some t0)).length = vs'.length + 1 := by rw [List.length_insertIdx_of_le_length (by omega), hM]
  have lv : (vs'.insertIdx p (V.ref a)).length = vs'.length + 1 := insL hpl
  have get : ∀ i t, slot ((ds.map (fun d => some (T.v d))).insertIdx p (some t0) ++ List.replicate (N.length - (vs'.length + 1)) none) i = some t → (i = p ∧ t = t0 ∧ (L2.start N (vs'.insertIdx p (V.ref a)))[i]? = some (some (.ref a))) ∨ ∃ d v, t = .v d ∧ (L2.start N (vs'.insertIdx p (V.ref a)))[i]? = some (some v) ∧ RepF G Z d v := fun i t h => by
    unfold slot at h
    by_cases hi : i < vs'.length + 1
    · rw [List.getElem?_append_left (by rw [li]; exact hi), List.getElem?_insertIdx] at h
      have hs : (L2.start N (vs'.insertIdx p (V.ref a)))[i]? = ((vs'.insertIdx p (V.ref a))[i]?).map some := by
        unfold L2.start
        rw [List.getElem?_append_left (by rw [List.length_map, lv]; exact hi), List.getElem?_map]
      rw [hs, List.getElem?_insertIdx]
      by_cases h1 : i < p
      · rw [if_pos h1] at h ⊢
        rw [List.getElem?_map] at h
        cases hq : ds[i]? with
        | none => rw [hq] at h; cases h
        | some d =>
          rw [hq] at h
          cases h
          obtain ⟨v, e1, e2⟩ := rl.getD hq
          exact .inr ⟨d, v, rfl, by rw [e1]; rfl, e2⟩
      · rw [if_neg h1] at h ⊢
        by_cases h2 : i = p
        · rw [if_pos h2, if_pos (by omega)] at h
          rw [if_pos h2, if_pos (by omega)]
          cases h
          exact .inl ⟨h2, rfl, rfl⟩
        · rw [if_neg h2] at h ⊢
          rw [List.getElem?_map] at h
          cases hq : ds[i - 1]? with
          | none => rw [hq] at h; cases h
          | some d =>
            rw [hq] at h
            cases h
            obtain ⟨v, e1, e2⟩ := rl.getD hq
            exact .inr ⟨d, v, rfl, by rw [e1]; rfl, e2⟩
    · rw [List.getElem?_append_right (by rw [li]; omega), List.getElem?_replicate] at h
      split at h <;> cases h
  refine ⟨⟨?_, fun i t h => ?_⟩, fun i t b h2 h3 h4 => ?_, fun i j t u b hij e1 e2 o1 o2 => ?_⟩
  · unfold L2.start
    rw [List.length_append, List.length_append, li, List.length_map, lv, List.length_replicate, List.length_replicate]
  · rcases get i t h with ⟨e0, e1, e2⟩ | ⟨d, v, e, e1, e2⟩
    · subst e1
      exact ⟨_, e2, r0⟩
    · subst e
      exact ⟨v, e1, .v e2⟩
  · rcases get i t h2 with ⟨e0, e1, e2⟩ | ⟨d, v, e, e1, e2⟩
    · rw [e2] at h4
      cases h4
      exact h1
    · subst e
      cases h3
  · rcases get i t e1 with ⟨q0, q1, q2⟩ | ⟨d, v, e, q1, q2⟩
    · rcases get j u e2 with ⟨r0, r1, r2⟩ | ⟨d, v, e, r1, r2⟩
      · exact absurd (q0.trans r0.symm) hij
      · subst e
        cases o2
    · subst e
      cases o1
def ClOk (P : Program) (w : World) (K : PySem.W.Frag) (mg : Str → Option Value) (base : Heap) (G : Gx) (F : Nat → List D → (D → Prop) → Prop) (k : Nat) (d : CD) : Prop := ∃ C, G.ca d.c = some C ∧ Cls K C ∧ mg d.x = some (.ref C) ∧ (∀ x ∈ d.fs, NoAttr K C (mkS x)) ∧ (∀ m j, (m, j) ∈ d.ms → ∃ f, Meth K C (mkS m) f ∧ G.fa j = some f) ∧
    ∃ fI fd ps, Mk K C fI ∧ Binds K fd ps [] ∧ ∀ ds Q, F d.j ds Q → ds.length + 1 = ps.length ∧ ∃ k', k' + 1 ≤ k ∧ FnOk P w K mg base CX0 k' fI fd ps (spInit G d.c ps.length (F d.j))
theorem phi_cls_at {P : Program} {w : World} {K : PySem.W.Frag} {mg : Str → Option Value} {base : Heap} {G : Gx} {q : Option Addr} {F : Nat → List D → (D → Prop) → Prop} {k : Nat} {d : CD} (h : ClOk P w K mg base G F k d) : ClOk P w K mg base (G.at_ q) F k d := by
  unfold ClOk at h ⊢
  rw [spInit_at]
  exact h
mutual
theorem phi_ok {P : Program} {w : World} {K : PySem.W.Frag} {mg : Str → Option Value} {base : Heap} {G : Gx} {fns gls : List (Str × Nat)} {dfs : List (Nat × List D)} {lfs : Lf} {tab : List Fn} {cg : Nat → D} (W : World1 P w K mg base G fns gls dfs lfs tab cg) :
    ∀ (k j : Nat) (f : Addr), G.fa j = some f → ∃ fd ps, FnOk P w K mg base CX0 k f fd ps (spOf G ps.length (Phi tab cg k j)) ∧ PySem.W.keepIn K (.ref f) = true ∧ Binds K fd ps [] ∧ (∀ ds Q, Phi tab cg k j ds Q → ds.length = ps.length) ∧ DflOk K G dfs j fd ps
  | 0, j, f, hf => by
    have never : ∀ {fd : FuncData} {ps : List Str}, FnOk P w K mg base CX0 0 f fd ps (spOf G ps.length (Phi tab cg 0 j)) := fun {fd ps} => ⟨fun vs H Q E h => h.1, fun A outer s H args us vs Q E _ _ _ _ h => by
      obtain ⟨_, Z, ds, _, _, q⟩ := h
      exact q.elim⟩
    cases W.kn j f hf with
    | body e F S bs df h => exact ⟨_, _, never, F.kp, bs, fun _ _ h => False.elim h, df⟩
    | prim e kp bs df ok => exact ⟨_, _, never, kp, bs, fun _ _ h => False.elim h, df⟩
  | k + 1, j, f, hf => by
    cases W.kn j f hf with
    | @body x qual st dvs kws fd N ps b e F S bs df h =>
      have ln : ∀ ds Q, Phi tab cg (k + 1) j ds Q → ds.length = ps.length := fun ds Q q => by
        unfold Phi at q
        rw [e] at q
        exact q.1
      refine ⟨fd, ps, F.ok S (fun vs H Q E h => h.1) fun cdv A outer s H vs Q E hr hsp => ?_, F.kp, bs, ln, df⟩
      obtain ⟨hl, Z, ds, ok, rl, q⟩ := hsp
      unfold Phi at q
      rw [e] at q
      have gd : Good ⟨N, fns, gls, dfs, lfs⟩ G (Phi tab cg k) cg k (defScope st) (defScope st) (cxOf CX0 P w K mg base N qual (defScope st) f cdv A outer s H E).nox :=
        ⟨rfl, S.nd, rfl, fun x hx => ⟨locB_of hx, .inl rfl⟩, W.eK, rfl, hr, W.blt, W.gl, W.fn, fun j f hf => phi_ok W k j f hf, Phi_mono W.mono k, phi_lent W k, phi_cls W k⟩
      refine ⟨_, (sSs (Z0 := Z) (H0 := H) gd ok PassesOwn.never S.kind b h).nox, Z, start0 ds (N.length - ds.length), .refl ok, repL_start rl ?_, ?_⟩
      · have := congrArg List.length S.pre
        rw [List.length_take] at this
        omega
      · have q2 := q.2
        rw [← q.1] at q2
        refine wSs_mono (Phi_mono W.mono k) b _ ⟨fun _ => ∀ Z' H' v, Ext G Z H Z' H' → RepF G Z' .non v → Q v H', fun d => ∀ Z' H' v, Ext G Z H Z' H' → RepF G Z' d v → Q v H'⟩ _ ⟨fun env' z Z' H' σ' x _ _ => z Z' H' .non x .non, fun d z Z' H' v x r => z Z' H' v x r⟩ q2
    | @prim fd ps p e kp bs df ok =>
      have ln : ∀ ds Q, Phi tab cg (k + 1) j ds Q → ds.length = ps.length := fun ds Q q => by
        unfold Phi at q
        rw [e] at q
        exact q.1.1
      refine ⟨fd, ps, ?_, kp, bs, ln, df⟩
      by_cases hk : 5 ≤ k
      · refine (ok.mono (show 5 ≤ k + 1 by omega)).imp fun vs H Q E h => ?_
        obtain ⟨hl, Z, ds, okz, rl, q⟩ := h
        unfold Phi at q
        rw [e] at q
        exact ⟨hl, Z, ds, okz, rl, q.2⟩
      · refine ⟨fun vs H Q E h => h.1, fun A outer s H args us vs Q E _ _ _ _ h => ?_⟩
        obtain ⟨_, Z, ds, _, _, q⟩ := h
        unfold Phi at q
        rw [e] at q
        exact absurd q.1.2 hk
theorem phi_lent {P : Program} {w : World} {K : PySem.W.Frag} {mg : Str → Option Value} {base : Heap} {G : Gx} {fns gls : List (Str × Nat)} {dfs : List (Nat × List D)} {lfs : Lf} {tab : List Fn} {cg : Nat → D} (W : World1 P w K mg base G fns gls dfs lfs tab cg) :
    ∀ (k : Nat) (x : Str) (j p : Nat), (x, j, p) ∈ lfs.l → ∃ f fd ps, mg x = some (.ref f) ∧ FnOk P w K mg base CX0 k f fd ps (spLent G ps.length p (Phi tab cg k j)) ∧ PySem.W.keepIn K (.ref f) = true ∧ Binds K fd ps [] ∧ p < ps.length ∧ ∀ d ds Q, Phi tab cg k j (d :: ds) Q → ds.length + 1 = ps.length
  | 0, x, j, p, hx => by
    obtain ⟨f, m1, ⟨x', qual, st, dvs, kws, fd, N, ps, b, e, F, S, bs, pl, h⟩⟩ := W.kl x j p hx
    refine ⟨f, fd, ps, m1, ⟨fun vs H Q E h => h.1, fun A outer s H args us vs Q E _ _ _ _ h => ?_⟩, F.kp, bs, pl, fun _ _ _ h => False.elim h⟩
    obtain ⟨_, _, _, _, _, _, _, _, _, _, _, _, _, _, _, q⟩ := h
    exact q.elim
  | k + 1, x, j, p, hx => by
    obtain ⟨f, m1, ⟨x', qual, st, dvs, kws, fd, N, ps, b, e, F, S, bs, pl, h⟩⟩ := W.kl x j p hx
    have ln : ∀ d ds Q, Phi tab cg (k + 1) j (d :: ds) Q → ds.length + 1 = ps.length := fun d ds Q q => by
      unfold Phi at q
      rw [e] at q
      cases d <;> first | exact q.elim | exact q.1.1
    refine ⟨f, fd, ps, m1, F.ok S (fun vs H Q E h => h.1) fun cdv A outer s H vs Q E hr hsp => ?_, F.kp, bs, pl, ln⟩
    obtain ⟨hl, a, H1, Z, kvs, kv, vs', ds, ev, hpl, eH, h1, ok, rk, rl, q⟩ := hsp
    subst ev eH
    unfold Phi at q
    rw [e] at q
    have gd : Good ⟨N, fns, gls, dfs, lfs⟩ (G.at_ (some a)) (Phi tab cg k) cg k (defScope st) (defScope st) (cxOf CX0 P w K mg base N qual (defScope st) f cdv A outer s (upd H1 a (.dK kv)) E).nox :=
      ⟨rfl, S.nd, rfl, fun x hx => ⟨locB_of hx, .inl rfl⟩, W.eK, rfl, hr, W.blt, fun x j hx => let ⟨u, u1, u2⟩ := W.gl x j hx; ⟨u, u1, glOk_at u2⟩, W.fn, fun j f hf => let ⟨fd, ps, a1, a2, a3, a4, a5⟩ := phi_ok W k j f hf; ⟨fd, ps, spOf_at ▸ a1, a2, a3, a4, dflOk_at a5⟩, Phi_mono W.mono k, fun x j p hx => let ⟨f, fd, ps, m, a1, a2⟩ := phi_lent W k x j p hx; ⟨f, fd, ps, m, spLent_at ▸ a1, a2⟩, fun d hd => phi_cls_at (phi_cls W k d hd)⟩
    have hN := congrArg List.length S.pre
    rw [List.length_take] at hN
    have lv := rl.length
    have li : (vs'.insertIdx p (V.ref a)).length = vs'.length + 1 := insL hpl
    rw [li] at hl
    have okA : ZOk (G.at_ (some a)) Z H1 := zOk_at ▸ ok
    refine ⟨_, (sSs (Z0 := Z) (H0 := H1) gd okA PassesOwn.never S.kind b h).nox, Z, startL kvs ds (N.length - (vs'.length + 1)) p, .own okA h1, repL_startL rfl okA h1 (repK_at ▸ rk) (repL_at ▸ rl) hpl (by omega), ?_⟩
    have q2 := q.2
    rw [← hl] at q2
    refine wSs_mono (Phi_mono W.mono k) b _ (lentK p _) _ ⟨fun env' z => ?_, fun d (z : False) => z.elim⟩ q2
    intro Z' H' σ' x _ es'
    cases hs : slot env' p with
    | none =>
      unfold lentK at z
      dsimp only at z
      rw [hs] at z
      exact z.elim
    | some t =>
      unfold lentK at z
      dsimp only at z
      rw [hs] at z
      cases t with
      | op kvs' =>
        obtain ⟨v, ev, r⟩ := es'.ok.get p _ hs
        cases r with
        | @op b _ kv' hp hF hn hH r =>
          cases hp
          rw [ext_at] at x
          rw [repK_at] at r
          exact z Z' H' kv' x hF hn hH r
      | _ => exact z.elim
theorem phi_cls {P : Program} {w : World} {K : PySem.W.Frag} {mg : Str → Option Value} {base : Heap} {G : Gx} {fns gls : List (Str × Nat)} {dfs : List (Nat × List D)} {lfs : Lf} {tab : List Fn} {cg : Nat → D} (W : World1 P w K mg base G fns gls dfs lfs tab cg) :
    ∀ (k : Nat), ∀ d ∈ lfs.cl, ClOk P w K mg base G (Phi tab cg k) k d
  | 0, d, hd => by
    obtain ⟨C, a1, a2, a3, a4, a5, fI, x, qual, st, dvs, kws, fd, N, ps, b, M, e, F, S, bs, h⟩ := (W.kc d hd).ex
    exact ⟨C, a1, a2, a3, a4, a5, fI, fd, ps, M, bs, fun ds Q q => q.elim⟩
  | 1, d, hd => by
    obtain ⟨C, a1, a2, a3, a4, a5, fI, x, qual, st, dvs, kws, fd, N, ps, b, M, e, F, S, bs, h⟩ := (W.kc d hd).ex
    refine ⟨C, a1, a2, a3, a4, a5, fI, fd, ps, M, bs, fun ds Q q => ?_⟩
    unfold Phi at q
    rw [e] at q
    exact q.elim
  | k + 2, d, hd => by
    obtain ⟨C, a1, a2, a3, a4, a5, fI, x, qual, st, dvs, kws, fd, N, ps, b, M, e, F, S, bs, h⟩ := (W.kc d hd).ex
    refine ⟨C, a1, a2, a3, a4, a5, fI, fd, ps, M, bs, fun ds Q q => ⟨?_, k + 1, Nat.le_refl _, ?_⟩⟩
    · unfold Phi at q
      rw [e] at q
      exact q.1
    clear q ds Q
    refine F.ok S (fun vs H Q E h => h.1) fun cdv A outer s H vs Q E hr hsp => ?_
    obtain ⟨hl, a, C', dx, H1, Z, vs', ds, ev, hC, eH, h1, ok, rl, q⟩ := hsp
    subst ev eH
    unfold Phi at q
    rw [e] at q
    have gd : Good ⟨N, fns, gls, dfs, lfs⟩ (G.at_ (some a)) (Phi tab cg k) cg k (defScope st) (defScope st) (cxOf CX0 P w K mg base N qual (defScope st) fI cdv A outer s (upd H1 a (.ins C' dx [])) E).nox :=
      ⟨rfl, S.nd, rfl, fun x hx => ⟨locB_of hx, .inl rfl⟩, W.eK, rfl, hr, W.blt, fun x j hx => let ⟨u, u1, u2⟩ := W.gl x j hx; ⟨u, u1, glOk_at u2⟩, W.fn, fun j f hf => let ⟨fd, ps, a1, a2, a3, a4, a5⟩ := phi_ok W k j f hf; ⟨fd, ps, spOf_at ▸ a1, a2, a3, a4, dflOk_at a5⟩, Phi_mono W.mono k, fun x j p hx => let ⟨f, fd, ps, m, a1, a2⟩ := phi_lent W k x j p hx; ⟨f, fd, ps, m, spLent_at ▸ a1, a2⟩, fun d hd => phi_cls_at (phi_cls W k d hd)⟩
    have hN := congrArg List.length S.pre
    rw [List.length_take] at hN
    have lv := rl.length
    rw [List.length_cons] at hl
    have okA : ZOk (G.at_ (some a)) Z H1 := zOk_at ▸ ok
    have r0 : RepT (G.at_ (some a)) Z (upd H1 a (.ins C' dx [])) (.ob d.c []) (.ref a) := .ob rfl (okA.freeF h1) (okA.ndOf h1) upd_same hC .nil
    refine ⟨_, (sSs (Z0 := Z) (H0 := H1) gd okA PassesOwn.never S.kind b h).nox, Z, startI d.c ds (N.length - (vs'.length + 1)), .own okA h1, repL_startG (p := 0) okA h1 r0 (repL_at ▸ rl) (Nat.zero_le _) (by omega), ?_⟩
    have q2 := q.2
    rw [← hl] at q2
    refine wSs_mono (Phi_mono W.mono k) b _ (initK _) _ ⟨fun env' z => ?_, fun d (z : False) => z.elim⟩ q2
    intro Z' H' σ' x _ es'
    cases hs : slot env' 0 with
    | none =>
      unfold initK at z
      dsimp only at z
      rw [hs] at z
      exact z.elim
    | some t =>
      unfold initK at z
      dsimp only at z
      rw [hs] at z
      cases t with
      | ob c' ks =>
        obtain ⟨v, ev, r⟩ := es'.ok.get 0 _ hs
        cases r with
        | @ob b C2 dx2 _ _ fs hp hF hn hH hc r =>
          cases hp
          rw [ext_at] at x
          rw [repK_at] at r
          obtain ⟨z1, z2⟩ := z
          subst z1
          have hc : G.ca d.c = some C2 := hc
          rw [hC] at hc
          cases hc
          exact z2 Z' H' dx2 _ x hF hn hH r
      | _ => exact z.elim
end
end LC

namespace LC
open PySem L2
section
variable {X : Cx}
theorem canI : ∀ ns : List Int, PyData.canLayAll0 (ns.map PyData.int) = true
  | [] => rfl
  | n :: r => by
    show (_ && _) = true
    rw [Bool.and_eq_true]
    exact ⟨rfl, canI r⟩
theorem depI : ∀ ns : List Int, PyData.depthAll (ns.map PyData.int) ≤ 60
  | [] => Nat.zero_le _
  | n :: r => by
    show max _ _ ≤ 60
    exact Nat.max_le.mpr ⟨Nat.zero_le _, depI r⟩
theorem dpI {K : PySem.W.Frag} {H : Hp} : ∀ ns : List Int, DpAll K H (ns.map V.int) (ns.map PyData.int)
  | [] => .nil
  | n :: r => .cons (.int n) (dpI r)
def rEqNil (K : PySem.W.Frag) : R2 := fun x y H Q => ∃ (a b : Addr) (ns : List Int), x = .ref a ∧ y = .ref b ∧ SqL K H a (ns.map V.int) ∧ SqL K H b [] ∧ Q (.bl ns.isEmpty) H
theorem op_eqNil (hu : X.A.units + 64 < cLine) : OpR X (compareOp .Eq) (rEqNil X.K) := by
  refine OpR.weak (op_eqD hu) fun x y H Q h => ?_
  obtain ⟨a, b, ns, rfl, rfl, h1, h2, q⟩ := h
  refine ⟨.list (ns.map PyData.int), .list [], .lst h1 (dpI ns), .lst h2 .nil, ?_, rfl, ?_⟩
  · unfold SeqAt.shaped
    rw [Bool.and_eq_true, decide_eq_true_eq]
    refine ⟨?_, ?_⟩
    · exact canI ns
    · have := depI ns
      show PyData.depthAll (ns.map PyData.int) + 1 ≤ 64
      omega
  · cases ns with
    | nil => exact q
    | cons n r => exact q
end
section
variable {prog : Program} {w : World} {A : Around} {E : Value → Shared → Prop} {s : Shared}
theorem ext_rev {R : Result → Shared → Prop} (calmA : A.handled = none) {it l : Addr} {xs : Array Value} (S : Addr) (res : Value) (c₀ : Nat)
    (atS : s.heap.get? S = some { cls := .type "list", data := .seq #[] c₀ }) (hit : s.heap.IsRevIter it l ((xs.size : Int) - 1)) (atL : s.heap.IsList l xs) (nli : l ≠ it) (nSi : S ≠ it) (nSl : S ≠ l) (few : xs.size ≤ sizeLine)
    (fin : ∀ g tk ys c', (∀ b o, b ≠ S → b ≠ it → s.heap.get? b = some o → g.get? b = some o) → g.get? S = some { cls := .type "list", dict := none, data := .seq ys c', slots := #[] } →
      ItemsOf (fun i v => xs[xs.size - 1 - i]? = some v) ys xs.size → R (.ok (.ret res)) { s with heap := g, toks := tk }) :
    wpAny (model prog w) A.in1 (Builtin.List.listExtendWith (.ref S) (.ref it) res)
      (fun fin s' => match fin with | .done f => R (.ok f) s' | .again c' => c'.quiet = true ∧ codeAny (model prog w) A c' R s') (fun e s' => R (.error e) s') s := by
  have Wk := (Walks.listRev (prog := prog) (w := w) (A := A.in1) calmA it l nli xs).toS
  have out : S ∉ [it, l] := by
    intro hm
    rcases List.mem_cons.mp hm with e | e
    · exact nSi e
    · exact nSl (List.mem_singleton.mp e)
  have ty : s.TypeIs (.ref it) "list_reverseiterator" := Heap.IsRevIter.typeIs hit
  have ns : Builtin.List.listSameRef (.ref S) (.ref it) = false := by simp [Builtin.List.listSameRef, nSi]
  unfold Builtin.List.listExtendWith
  refine wpAny_bind (wpAny_typeOf ty ?_)
  rw [if_neg (by rw [ns]; decide)]
  refine wpAny_bind (wpAny_pyIter_revIter hit ?_)
  refine wpAny_bind (wpAny_holding ?_)
  unfold Builtin.List.listLengthHint
  refine wpAny_bind (wpAny_specialOf ty RT.nolen_lri ?_)
  show wpAny _ A.in1 (specialOf (Value.ref it) (Str.ofString "__length_hint__") >>= fun _ => _) _ _ _
  refine wpAny_bind (wpAny_specialOf ty RT.hint_lri ?_)
  generalize nm : ("list_reverseiterator.__length_hint__" : String) = nme
  wp_delta
  rw [show splitId nme = some ("list_reverseiterator", "__length_hint__") from by subst nm; decide +kernel]
  subst nm
  refine wpAny_bind (wpAny_isInstance (b := true) ty (by rw [isSubtype_type]; kernel_rfl) ?_)
  refine wpAny_pure ?_
  rw [if_neg (by decide)]
  have z0 : ((xs.size : Nat) : Int) - 1 - ((0 : Nat) : Int) = (xs.size : Int) - 1 := by omega
  refine wpAny_pure ⟨plainId_quiet F.plain_extend_loop _, codeAny_extend_loopS Wk few _ out _ xs.size 0 _ _ _ rfl (Nat.zero_le _) ⟨Nat.zero_le _, by rw [z0]; exact hit, atL⟩ atS (ItemsOf.nil _) fun s' ys c' mv atS' got => ?_⟩
  rw [Moved.eq_with mv]
  refine fin s'.heap s'.toks ys c' (fun b o hb hi e => mv.heap b o (fun hm => ?_) e) atS' got
  rcases List.mem_cons.mp hm with e' | hm
  · exact hb e'
  · exact hi (List.mem_singleton.mp hm)
theorem init_rev {R : Result → Shared → Prop} (calmA : A.handled = none) {it l : Addr} {xs : Array Value} (S : Addr)
    (atS : s.heap.get? S = some { cls := .type "list", data := .seq #[] }) (hit : s.heap.IsRevIter it l ((xs.size : Int) - 1)) (atL : s.heap.IsList l xs) (nli : l ≠ it) (nSi : S ≠ it) (nSl : S ≠ l) (few : xs.size ≤ sizeLine)
    (fin : ∀ g tk ys c', (∀ b o, b ≠ S → b ≠ it → s.heap.get? b = some o → g.get? b = some o) → g.get? S = some { cls := .type "list", dict := none, data := .seq ys c', slots := #[] } →
      ItemsOf (fun i v => xs[xs.size - 1 - i]? = some v) ys xs.size → R (.ok (.ret .none)) { s with heap := g, toks := tk }) :
    wpAny (model prog w) A.in1 (Builtin.«list.__init__» ⟨[.ref S, .ref it], []⟩)
      (fun fin s' => match fin with | .done f => R (.ok f) s' | .again c' => c'.quiet = true ∧ codeAny (model prog w) A c' R s') (fun e s' => R (.error e) s') s := by
  show wpAny _ _ (do
    let was ← Builtin.List.listItems (.ref S)
    Builtin.List.listUpdate (.ref S) (fun _ => #[])
    letGo was.toList.reverse
    Builtin.List.listExtendWith (.ref S) (.ref it) .none) _ _ s
  refine wpAny_bind ?_
  unfold Builtin.List.listItems
  refine wpAny_bind (wpAny_seqItems atS rfl (wpAny_pure ?_))
  show wpAny _ _ (updateSeq S (fun _ => #[]) >>= fun _ => letGo (#[] : Array Value).toList.reverse >>= fun _ => Builtin.List.listExtendWith (.ref S) (.ref it) .none) _ _ s
  refine wpAny_bind (wpAny_updateSeq atS rfl ?_)
  have at2 := Heap.get?_update_self (Obj.mapSeq (fun _ => (#[] : Array Value))) atS rfl
  have els : ∀ b o, b ≠ S → s.heap.get? b = some o → (s.heap.update S (Obj.mapSeq (fun _ => (#[] : Array Value)))).get? b = some o := fun b o n e => (Heap.get?_update_other _ _ n.symm).trans e
  refine wpAny_bind (wpAny_letGo ?_)
  refine ext_rev calmA S .none _ at2 (hit.at fun o e => els _ _ nSi.symm e) (atL.at fun o e => els _ _ nSl.symm e) nli nSi nSl few fun g tk ys c' kp at3 got => ?_
  exact fin g tk ys c' (fun b o n1 n2 e => kp b o n1 n2 (els b o n1 e)) at3 got
theorem call_list_rev {Q : Value → Shared → Prop} (calmA : A.handled = none) {it l : Addr} {xs : Array Value} (hit : s.heap.IsRevIter it l ((xs.size : Int) - 1)) (atL : s.heap.IsList l xs) (nli : l ≠ it) (few : xs.size ≤ sizeLine)
    (fin : ∀ g tk ys c', (∀ b o, b ≠ it → s.heap.get? b = some o → g.get? b = some o) → g.get? s.heap.objs.size = some { cls := .type "list", dict := none, data := .seq ys c', slots := #[] } →
      ItemsOf (fun i v => xs[xs.size - 1 - i]? = some v) ys xs.size → Q (.ref s.heap.objs.size) { s with heap := g, toks := tk }) :
    wpAny (model prog w) A (call (.type "list") [.ref it]) Q E s := by
  refine callType_codes (Q₁ := fun obj s1 => obj = .ref s.heap.objs.size ∧ s1 = { s with heap := s.heap.push { cls := .type "list", data := .seq #[] } }) F.called_list (F.typeCall_list_1 _) F.entry_list_init
    (code_list_new _ ⟨rfl, rfl⟩) fun obj s1 made => ?_
  obtain ⟨rfl, rfl⟩ := made
  have atS : (s.heap.push { cls := .type "list", data := .seq #[] }).get? s.heap.objs.size = some { cls := .type "list", data := .seq #[] } := Heap.get?_push_size _ rfl
  obtain ⟨oi, hoi, _⟩ := id hit
  obtain ⟨ol, hol, _⟩ := id atL
  refine ⟨⟨_, atS, rfl⟩, F.args_list_init_2 _ _, init_rev (A := A.in1) calmA _ atS (hit.at fun o e => Heap.get?_push_of_some _ e) (atL.push _) nli (Nat.ne_of_gt (Heap.lt_size hoi)) (Nat.ne_of_gt (Heap.lt_size hol)) few fun g tk ys c' kp at3 got => ?_⟩
  exact ⟨rfl, fin g tk ys c' (fun b o n e => kp b o (Nat.ne_of_lt (Heap.lt_size e)) n (Heap.get?_push_of_some _ e)) at3 got⟩
end
open PySem.Spec PyProof.Rows
def tListRev (K : PySem.W.Frag) (te : TE) : TE := fun σ H Q => te σ H fun v H1 => ∃ (a : Addr) (xs : List V), v = .ref a ∧ SqL K H1 a xs ∧ ∀ q, H1 q = none → Q (.ref q) (upd H1 q (.lst xs.reverse))
theorem pe_listRev {X : Cx} {e : Expr} {te : TE} {p p2 pos pos2 : Pos} (hc : X.calm = true) (g1 : Gl X "list") (m1 : X.mg "list" = none) (g2 : Gl X "reversed") (m2 : X.mg "reversed" = none) (he : PE X e te)
    (hs : starEach [e] X.env = (false, eval e X.env) :: starEach [] X.env := by rfl)
    (ht : starEach [.Call (.Name "reversed" p2) [e] [] pos2] X.env = (false, eval (.Call (.Name "reversed" p2) [e] [] pos2) X.env) :: starEach [] X.env := by rfl) :
    PE X (.Call (.Name "list" p) [.Call (.Name "reversed" p2) [e] [] pos2] [] pos) (tListRev X.K te) := by
  refine ⟨fun pins s σ H Q I h => ?_⟩
  refine Call_ (ld_blt I g1 m1 PyProof.Rows.boot_list (PyProof.Rows.callWith_type1 (args_cons (Call_ (ld_blt I g2 m2 PyProof.Rows.boot_reversed (PyProof.Rows.callWith_type1 (args_cons (thn (he.run pins s σ H _ I h) fun u s1 ⟨v, H1, I1, r1, q1⟩ => args_nil ?_) hs) hs rfl))) ht) ht rfl))
  obtain ⟨a, xs, ev, hq, q⟩ := q1
  subst ev
  obtain rfl : u = Value.ref a := r1
  obtain ⟨its, rv, p', hz⟩ := I1.list hq
  refine call_reversed_list p'.isList (args_nil ?_)
  have J := I1.kept (t' := s1.toks) (h' := s1.heap.push (revObj a ((its.toArray.size : Int) - 1))) fun b o e => Heap.get?_push_of_some _ e
  have fp := I1.fpOk (H' := H1) (b := s1.heap.objs.size) (Nat.le_refl _) (I1.hok.fresh (Nat.le_refl _))
  obtain ⟨ol, hol, _⟩ := id p'.isList
  refine call_list_rev (s := { s1 with heap := s1.heap.push (revObj a ((its.toArray.size : Int) - 1)) }) (I1.ok.hd hc) ⟨_, Heap.get?_push_size _ rfl, rfl, rfl⟩ (p'.isList.push _) (Nat.ne_of_lt (Heap.lt_size hol)) (by rw [List.size_toArray, ← rv.length]; exact hz) fun g tk ys c' kp at3 got => ?_
  refine ⟨.ref _, _, J.turnedNew (t' := tk) (h' := g) (ch := [s1.heap.objs.size]) (ob := .lst xs.reverse) (fun b o hb e => kp b o (fun z => hb (by rw [z]; exact List.mem_singleton.mpr rfl)) e) (fun b hb => by rw [List.mem_singleton.mp hb]; exact fp) (Nat.le_refl _)
    (show ObjOk X.prog X.w _ g _ (.lst xs.reverse) from ⟨by rw [List.length_reverse]; exact hz, ys.toList, c', RT.vals_rev rv got, by rw [Array.toArray_toList]; exact at3⟩), rfl, q _ (J.hok.fresh (Nat.le_refl _))⟩
theorem kept_eq {G : Gx} {H H' : Hp} {a c : Addr} (h : G.dkp H a c) (k : ∀ b o, (b = a ∨ b = c) → H b = some o → H' b = some o) : G.dkp H' a c := by
  obtain ⟨h1, h2⟩ := G.there _ _ _ h
  refine G.loc _ _ _ _ h ?_ ?_
  · cases e : H a with
    | none => exact absurd e h1
    | some o => exact k a o (.inl rfl) e
  · cases e : H c with
    | none => exact absurd e h2
    | some o => exact k c o (.inr rfl) e
theorem Ext.deck {G : Gx} {Z : Zt} {H H' : Hp} {a c : Addr} (ok : ZOk G Z H) (k : ∀ b o, H b = some o → H' b = some o) (ha : H a = none) (hc : H c = none) (d : G.dkp H' a c) : Ext G Z H ⟨Z.F, fun p => Z.dk p ∨ p = (a, c)⟩ H' := by
  have na := ok.ndOf ha
  have nc := ok.ndOf hc
  refine ⟨⟨fun b o e => k b o (ok.le b o e), fun x y e => ?_, fun p q hp hq => ?_⟩, fun _ _ e => e, fun p e => .inl e, fun b o e _ => k b o e, fun b o e n => ?_, fun p e => ?_⟩
  · rcases e with e | e
    · obtain ⟨h1, h2, h3⟩ := ok.dk x y e
      exact ⟨kept_eq h1 fun b o _ e => k b o e, h2, h3⟩
    · cases e
      exact ⟨d, ok.freeF ha, ok.freeF hc⟩
  · rcases hp with hp | hp <;> rcases hq with hq | hq
    · exact ok.dj p q hp hq
    · subst hq
      exact .inr ⟨⟨fun z => (na p hp).1 z.symm, fun z => (nc p hp).1 z.symm⟩, fun z => (na p hp).2 z.symm, fun z => (nc p hp).2 z.symm⟩
    · subst hp
      exact .inr ⟨⟨(na q hq).1, (na q hq).2⟩, (nc q hq).1, (nc q hq).2⟩
    · exact .inl (hp.trans hq.symm)
  · have n' : Z.F b = none := n
    have e' : Z.F b = some o := e
    rw [n'] at e'
    cases e'
  · rcases e with e | e
    · exact .inl e
    · cases e
      exact .inr ⟨ha, hc⟩
theorem Ext.draw {G : Gx} {Z : Zt} {H H' : Hp} {a c : Addr} (ok : ZOk G Z H) (hd : Z.dk (a, c)) (k : ∀ b o, b ≠ a → b ≠ c → H b = some o → H' b = some o) (d : G.dkp H' a c) : Ext G Z H Z H' := by
  obtain ⟨d1, d2, d3⟩ := ok.dk a c hd
  refine ⟨⟨fun b o e => ?_, fun x y e => ?_, ok.dj⟩, fun _ _ e => e, fun p e => e, fun b o e n => k b o (n _ hd).1 (n _ hd).2 e, fun b o e n => ?_, fun p e => .inl e⟩
  · refine k b o (fun z => ?_) (fun z => ?_) (ok.le b o e)
    · rw [z, d2] at e; cases e
    · rw [z, d3] at e; cases e
  · obtain ⟨h1, h2, h3⟩ := ok.dk x y e
    refine ⟨?_, h2, h3⟩
    rcases ok.dj _ _ e hd with z | ⟨⟨z1, z2⟩, z3, z4⟩
    · cases z
      exact d
    · refine kept_eq h1 fun b o hb eb => ?_
      rcases hb with hb | hb
      · subst hb; exact k _ o z1 z2 eb
      · subst hb; exact k _ o z3 z4 eb
  · rw [n] at e; cases e
theorem cutI (ns : List Int) (lo hi : Option Int) : cutV (ns.map V.int) lo hi = (cut ns lo hi).map V.int := by
  unfold cutV cut
  rw [List.map_take, List.map_drop, List.length_map]
theorem sqCut {K : PySem.W.Frag} {H : Hp} {p : Addr} (ns : List Int) (lo hi : Option Int) : SqL K (upd H p (.lst (cutV (ns.map V.int) lo hi))) p ((cut ns lo hi).map V.int) := by
  rw [cutI]
  exact SqL.of upd_same
theorem kept_upd {H : Hp} {p : Addr} {o : HO} (h : H p = none) : ∀ b u, H b = some u → upd H p o b = some u := fun b u e => by
  rw [upd_ne (ne_of_none e h)]
  exact e
theorem back_none {H H' : Hp} (k : ∀ b u, H b = some u → H' b = some u) {q : Addr} (h : H' q = none) : H q = none := by
  cases e : H q with
  | none => rfl
  | some u => rw [k q u e] at h; cases h
theorem upd_at {H : Hp} {p : Addr} {o : HO} : upd H p o p = some o := upd_same
theorem onT {A B : Prop} {b : Bool} (e : b = true) (h : A) : if b = true then A else B := by
  rw [if_pos e]
  exact h
theorem onF {A B : Prop} {b : Bool} (e : b = false) (h : B) : if b = true then A else B := by
  rw [if_neg (by rw [e]; exact Bool.false_ne_true)]
  exact h
end LC

namespace LC
open PySem PySem.Spec PyProof.Rows L2
def goodS (x : List Nat) : Bool := decide (x.length ≤ sizeLine) && x.all fun c => decide (c < 0x110000)
theorem goodS_ok {x : List Nat} (h : goodS x = true) : StrG x := by
  unfold goodS at h
  rw [Bool.and_eq_true, decide_eq_true_eq, List.all_eq_true] at h
  exact ⟨h.1, fun c hc => of_decide_eq_true (h.2 c hc)⟩
mutual
def repB (K : PySem.W.Frag) (fa : Nat → Option Addr) : D → Value → Bool
  | .non, .none => true
  | .bl b, .bool c => decide (b = c)
  | .int i, .int j _ => decide (i = j)
  | .str x, .str y _ => goodS x && decide (mkS x = y)
  | .tup ds, .ref a => (match K.lookup a with
    | some ⟨.type c, _, .seq its _, _⟩ => decide (c = "tuple") && (decide (its.size ≤ sizeLine) && repBs K fa ds its.toList)
    | _ => false)
  | .fn j, .ref a => decide (fa j = some a)
  | _, _ => false
def repBs (K : PySem.W.Frag) (fa : Nat → Option Addr) : List D → List Value → Bool
  | [], [] => true
  | d :: ds, u :: us => repB K fa d u && repBs K fa ds us
  | _, _ => false
end
mutual
theorem repB_ok {G : Gx} : ∀ (d : D) (u : Value), repB G.K G.fa d u = true → ∃ v, RelV v u ∧ ∀ Z, RepF G Z d v
  | .non, u, h => by
    cases u with
    | none => exact ⟨.non, rfl, fun _ => .non⟩
    | _ => cases h
  | .bl b, u, h => by
    cases u with
    | bool c =>
      have e : b = c := of_decide_eq_true h
      subst e
      exact ⟨.bl b, rfl, fun _ => .bl b⟩
    | _ => cases h
  | .int i, u, h => by
    cases u with
    | int j t =>
      have e : i = j := of_decide_eq_true h
      subst e
      exact ⟨.int i, ⟨t, rfl⟩, fun _ => .int i⟩
    | _ => cases h
  | .str x, u, h => by
    cases u with
    | str y t =>
      have h' : (goodS x && decide (mkS x = y)) = true := h
      rw [Bool.and_eq_true, decide_eq_true_eq] at h'
      obtain ⟨h1, rfl⟩ := h'
      exact ⟨.str (mkS x), ⟨t, rfl⟩, fun _ => .str (goodS_ok h1)⟩
    | _ => cases h
  | .tup ds, u, h => by
    cases u with
    | ref a =>
      have h' : (match G.K.lookup a with
        | some ⟨.type c, _, .seq its _, _⟩ => decide (c = "tuple") && (decide (its.size ≤ sizeLine) && repBs G.K G.fa ds its.toList)
        | _ => false) = true := h
      split at h'
      · rename_i c od its n osl q
        rw [Bool.and_eq_true, Bool.and_eq_true, decide_eq_true_eq, decide_eq_true_eq] at h'
        obtain ⟨rfl, h2, h3⟩ := h'
        obtain ⟨vs, rv, rp⟩ := repBs_ok ds its.toList h3
        exact ⟨.ref a, rfl, fun Z => .tup (.inr ⟨_, its, n, q, rfl, rfl, h2, rv⟩) (rp Z)⟩
      · cases h'
    | _ => cases h
  | .lst _, u, h => by cases u <;> cases h
  | .dct _, u, h => by cases u <;> cases h
  | .fn j, u, h => by
    cases u with
    | ref a => exact ⟨.ref a, rfl, fun _ => .fn (of_decide_eq_true h)⟩
    | _ => cases h
  | .lck _, u, h => by cases u <;> cases h
  | .tpk _, u, h => by cases u <;> cases h
  | .obj _ _, u, h => by cases u <;> cases h
  | .deck, u, h => by cases u <;> cases h
  | .script, u, h => by cases u <;> cases h
theorem repBs_ok {G : Gx} : ∀ (ds : List D) (us : List Value), repBs G.K G.fa ds us = true → ∃ vs, Vals vs us ∧ ∀ Z, RepL G Z ds vs
  | [], [], _ => ⟨[], .nil, fun _ => .nil⟩
  | [], _ :: _, h => by cases h
  | _ :: _, [], h => by cases h
  | d :: ds, u :: us, h => by
    have h' : (repB G.K G.fa d u && repBs G.K G.fa ds us) = true := h
    rw [Bool.and_eq_true] at h'
    obtain ⟨v, r, f⟩ := repB_ok d u h'.1
    obtain ⟨vs, rs, fs⟩ := repBs_ok ds us h'.2
    exact ⟨v :: vs, .cons r rs, fun Z => .cons (f Z) (fs Z)⟩
end
def withRow (w : World) (b : Bool) : World := ⟨w.draws, { w.params with followText := fun r => if r = "special-get-raises" then b else w.params.followText r }⟩
theorem withRow_eq {w : World} {b : Bool} (h : w.params.followText "special-get-raises" = b) : withRow w b = w := by
  have e : (fun r => if r = "special-get-raises" then b else w.params.followText r) = w.params.followText := by
    funext r
    by_cases hr : r = "special-get-raises"
    · rw [if_pos hr, hr, h]
    · rw [if_neg hr]
  unfold withRow
  rw [e]
structure Look where
  defs : List He.DefD
  cons : List (Str × D)
  free : List Str
  lent : List Nat
  cls : List CD := []
def entB (K : PySem.W.Frag) (fa : Nat → Option Addr) : List (Key × D) → List DictEntry → Bool
  | [], [] => true
  | (.inr s, d) :: r, e :: es => (match e.key with
    | .str y _ => decide (y = s)
    | _ => false) && (repB K fa d e.val && entB K fa r es)
  | _, _ => false
def dicB (K : PySem.W.Frag) (fa : Nat → Option Addr) (kvs : List (Key × D)) (u : Value) : Bool := match u with
  | .ref a => (match K.lookup a with
    | some ⟨_, _, .dict es _, _⟩ => entB K fa kvs es.toList
    | _ => false)
  | _ => false
def conB (K : PySem.W.Frag) (fa : Nat → Option Addr) (d : D) (u : Value) : Bool := match d with
  | .dct kvs => dicB K fa kvs u
  | d => repB K fa d u
theorem entB_ok {K : PySem.W.Frag} {fa : Nat → Option Addr} : ∀ (kvs : List (Key × D)) (l : List DictEntry), entB K fa kvs l = true → (∀ z : List Nat, match kget kvs (.inr (mkS z)) with
    | some d => ∃ e, l.find? (·.key.isStr (mkS z)) = some e ∧ repB K fa d e.val = true
    | none => l.find? (·.key.isStr (mkS z)) = none) ∧ l.any (·.refKey) = false
  | [], [], _ => ⟨fun _ => rfl, rfl⟩
  | [], _ :: _, h => by cases h
  | (.inl _, _) :: _, _, h => by cases h
  | (.inr s, d) :: r, [], h => by cases h
  | (.inr s, d) :: r, e :: l, h => by
    have h' : ((match e.key with
      | .str y _ => decide (y = s)
      | _ => false) && (repB K fa d e.val && entB K fa r l)) = true := h
    rw [Bool.and_eq_true, Bool.and_eq_true] at h'
    obtain ⟨h1, h2, h3⟩ := h'
    obtain ⟨i1, i2⟩ := entB_ok r l h3
    obtain ⟨y, t, ek, ey⟩ : ∃ y t, e.key = .str y t ∧ y = s := by
      split at h1
      · rename_i y t q
        exact ⟨y, t, q, of_decide_eq_true h1⟩
      · cases h1
    subst ey
    refine ⟨fun z => ?_, ?_⟩
    · have es : e.key.isStr (mkS z) = (y == mkS z) := by
        rw [ek]
        rfl
      rw [List.find?_cons, es]
      unfold kget
      rw [List.find?_cons]
      by_cases hz : y = mkS z
      · have e1 : (y == mkS z) = true := by rw [hz]; exact beq_self_eq_true _
        have e2 : decide ((Sum.inr y : Key) = .inr (mkS z)) = true := decide_eq_true (by rw [hz])
        simp only [e1, e2]
        exact ⟨e, rfl, h2⟩
      · have e1 : (y == mkS z) = false := by rw [beq_eq_false_iff_ne]; exact hz
        have e2 : decide ((Sum.inr y : Key) = .inr (mkS z)) = false := decide_eq_false fun q => hz (Sum.inr.inj q)
        simp only [e1, e2]
        exact i1 z
    · rw [List.any_cons, i2, Bool.or_false]
      unfold DictEntry.refKey
      rw [ek]
def Look.fa (L : Look) (K : PySem.W.Frag) : Nat → Option Addr := fun j => cond (L.lent.contains j) none ((L.defs[j]?).map fun d => He.fAd K d.at_)
def Look.ca (L : Look) (K : PySem.W.Frag) : Nat → Option Addr := fun c => (L.cls.find? fun d => d.c == c).map fun d => He.ga K d.x
def clsB (K : PySem.W.Frag) (fa : Nat → Option Addr) (ca : Nat → Option Addr) (d : CD) : Bool := (He.Fa.glo d.x).ok K && ((He.Fa.cls d.x).ok K && ((He.Fa.mkr d.x).ok K && (d.fs.all (fun x => (He.Fa.noat d.x (mkS x)).ok K) && (d.ms.all (fun p => (He.Fa.meth d.x (mkS p.1)).ok K && decide (fa p.2 = some (He.ma K (He.ga K d.x) (mkS p.1)))) && decide (ca d.c = some (He.ga K d.x))))))
def stIn (s : Stmt) (k : Nat) : Stmt := match s with
  | .ClassDef _ _ _ body _ _ _ _ _ _ _ => body.getD k (.Pass ⟨0, 0, 0, 0⟩)
  | _ => .Pass ⟨0, 0, 0, 0⟩
def Look.okB (L : Look) (K : PySem.W.Frag) : Bool :=
  L.defs.all (fun d => (d.at_.2.isSome || He.eqO (PySem.W.nsIn K mainGlobals d.at_.1) (some (some (.ref (He.fAd K d.at_))))) && d.ok K) &&
  (L.cons.all (fun p => match PySem.W.nsIn K mainGlobals p.1 with
    | some (some u) => conB K (L.fa K) p.2 u
    | _ => false) &&
  (L.free.all (fun x => He.eqO (PySem.W.nsIn K mainGlobals x) (some none)) && L.cls.all (clsB K (L.fa K) (L.ca K))))
def keyS : Key → Str
  | .inr s => s
  | .inl _ => ""
def Look.dks (L : Look) : List (Str × List Str) := L.cons.filterMap fun p => match p.2 with
  | .dct kvs => some (p.1, kvs.map fun kv => keyS kv.1)
  | _ => none
def adOf (K : PySem.W.Frag) (x : Str) : Addr := match PySem.W.nsIn K mainGlobals x with
  | some (some (.ref a)) => a
  | _ => 0
abbrev AlL : Type := Bool × List He.FnW × List (Option (List (Option (Str × Int))))
def Look.obs (L : Look) (K : PySem.W.Frag) : AlL := (L.okB K, L.defs.map fun d => He.fnW K d.at_, L.dks.map fun q => He.dicW K (adOf K q.1))
def Look.val (L : Look) (w : World) : AlL := (true, L.defs.map He.DefD.val, L.dks.map fun q => some (He.keysIn w.params q.2))
def Look.obsG (L : Look) (n : Nat) (g : Addr → Option Obj) : AlL := L.obs (He.frG g (He.asD g n))
def hookL (n : Nat) (L : Look) : PySem.W.Hook where
  α := AlL
  obs := fun s => L.obsG n s.heap.get?
  val := fun w => L.val w
  says := fun w h => ∃ K : PySem.W.Frag, K.In h ∧ L.obs K = L.val w
  of := fun _ _ z => ⟨_, He.frG_in, z⟩
  keeps := fun _ _ _ ⟨K, i, c⟩ st => ⟨K, PySem.W.Frag.In.keeps i st, c⟩
theorem Look.obsG_eq {L : Look} {n : Nat} {g : Addr → Option Obj} {s : Shared} (h : ∀ a, g a = s.heap.get? a) : L.obsG n g = (hookL n L).obs s := by
  have z : g = s.heap.get? := funext h
  subst z
  rfl
section
variable {L : Look} {K : PySem.W.Frag} {h : Heap} {mg : Str → Option Value} {w : World}
theorem Look.parts (c : L.obs K = L.val w) : (∀ d ∈ L.defs, (d.at_.2 = none → PySem.W.nsIn K mainGlobals d.at_.1 = some (some (.ref (He.fAd K d.at_)))) ∧ d.ok K = true) ∧ (∀ p ∈ L.cons, ∃ u, PySem.W.nsIn K mainGlobals p.1 = some (some u) ∧ conB K (L.fa K) p.2 u = true) ∧ (∀ x ∈ L.free, PySem.W.nsIn K mainGlobals x = some none) ∧ ∀ d ∈ L.cls, clsB K (L.fa K) (L.ca K) d = true := by
  have c1 : L.okB K = true := congrArg (fun z : AlL => z.1) c
  unfold Look.okB at c1
  rw [Bool.and_eq_true, Bool.and_eq_true, Bool.and_eq_true, List.all_eq_true, List.all_eq_true, List.all_eq_true, List.all_eq_true] at c1
  obtain ⟨c1, c2, c3, c4⟩ := c1
  refine ⟨fun d hd => ?_, fun p hp => ?_, fun x hx => He.eqO_ok (c3 x hx), c4⟩
  · have z := c1 d hd
    rw [Bool.and_eq_true] at z
    refine ⟨fun q => ?_, z.2⟩
    have z1 := z.1
    rw [q] at z1
    exact He.eqO_ok z1
  · have z := c2 p hp
    split at z
    · rename_i u e
      exact ⟨u, e, z⟩
    · cases z
theorem Look.fun_ (c : L.obs K = L.val w) (j : Nat) {d : He.DefD} {st : Stmt} (hj : L.defs[j]? = some d) (e1 : d.params = defArgs st) (e2 : d.body = defBody st) (e3 : d.scope = defScope st) (e4 : d.dfl = []) : ∃ fd, Fun K d.name d.qual st (He.fAd K d.at_) fd := by
  have hm := List.mem_of_getElem? hj
  have z : (L.defs.map fun d => He.fnW K d.at_)[j]? = (L.defs.map He.DefD.val)[j]? := congrArg (fun l => l[j]?) (congrArg (fun z : AlL => z.2.1) c)
  rw [List.getElem?_map, List.getElem?_map, hj] at z
  obtain ⟨fd, F⟩ := He.DefD.funD (Option.some.inj z) ((Look.parts c).1 d hm).2
  obtain ⟨oc, od, dV, kV, doc, pm, an, cdv, ct, osl, rfl, lk, hcd, hD, _⟩ := F.ex
  have dn : d.dvs K = [] := by
    unfold He.DefD.dvs
    rw [e4]
    rfl
  rw [dn] at hD
  rcases hD with ⟨_, rfl⟩ | ⟨z, _⟩
  · rw [e1, e2, e3] at lk
    exact ⟨_, fun_mk lk hcd F.kp⟩
  · exact absurd rfl z
theorem Look.funD (c : L.obs K = L.val w) (j : Nat) {d : He.DefD} (hj : L.defs[j]? = some d) : ∃ fd, FunD K d.name d.qual d.params d.body d.scope (d.dvs K) (d.kws K) (He.fAd K d.at_) fd := by
  have hm := List.mem_of_getElem? hj
  have z : (L.defs.map fun d => He.fnW K d.at_)[j]? = (L.defs.map He.DefD.val)[j]? := congrArg (fun l => l[j]?) (congrArg (fun z : AlL => z.2.1) c)
  rw [List.getElem?_map, List.getElem?_map, hj] at z
  exact He.DefD.funD (Option.some.inj z) ((Look.parts c).1 d hm).2
def pNever : List D → (D → Prop) → Prop := fun _ _ => False
theorem never_ok {P : Program} {w : World} {base : Heap} {G : Gx} {f : Addr} {fd : FuncData} {ps : List Str} : FnOk P w K mg base CX0 5 f fd ps (spOf G ps.length pNever) :=
  ⟨fun vs H Q E z => z.1, fun A outer s H args us vs Q E _ _ _ _ z => by
    obtain ⟨_, Z, ds, _, _, q⟩ := z
    exact q.elim⟩
theorem lookup_mem {α : Type} : ∀ {l : List (Str × α)} {x : Str} {j : α}, l.lookup x = some j → (x, j) ∈ l
  | [], _, _, h => nomatch h
  | (y, i) :: r, x, j, h => by
    rw [List.lookup_cons] at h
    split at h
    · rename_i q
      rw [eq_of_beq q, Option.some.inj h]
      exact List.mem_cons_self
    · exact List.mem_cons_of_mem _ (lookup_mem h)
theorem world_of {P : Program} {w : World} {base : Heap} {G : Gx} {fns gls : List (Str × Nat)} {dfs : List (Nat × List D)} {lfs : Lf} {tab : List Fn} {cg : Nat → D} (X : K.In h) (Gh : h.Ns mainGlobals mg) (c : L.obs K = L.val w) (eK : G.K = K) (efa : G.fa = L.fa K)
    (hf : ∀ p ∈ fns, cond (L.lent.contains p.2) none ((L.defs[p.2]?).map (fun d => d.at_)) = some (p.1, none)) (hg : L.cons = gls.map fun p => (p.1, cg p.2)) (hb : ∀ b ∈ bltNames, b ∈ L.free) (kn : ∀ j f, G.fa j = some f → Known P w K mg base G fns gls dfs lfs tab j f) (mono : Mono tab) (kl : ∀ x j p, (x, j, p) ∈ lfs.l → ∃ f, mg x = some (.ref f) ∧ KnownL K fns gls dfs lfs tab j p f) (kc : ∀ d ∈ lfs.cl, KnownC K mg G fns gls dfs lfs tab d) : World1 P w K mg base G fns gls dfs lfs tab cg := by
  obtain ⟨c1, c2, c3, _⟩ := Look.parts c
  refine ⟨eK, fun b hx => PySem.W.mg_none_of X Gh (c3 b (hb b hx)), fun x j e => ?_, fun x j e => ?_, kn, mono, kl, kc⟩
  · have m : (x, cg j) ∈ L.cons := by
      rw [hg]
      exact List.mem_map.mpr ⟨(x, j), lookup_mem e, rfl⟩
    obtain ⟨u, h1, h2⟩ := c2 _ m
    refine ⟨u, PySem.W.mg_of X Gh h1, ?_⟩
    have efa' : L.fa K = G.fa := efa.symm
    rw [efa', ← eK] at h2
    have plain : repB G.K G.fa (cg j) u = true → ∃ v, RelV v u ∧ ∀ Z, RepF G Z (cg j) v := fun q => repB_ok (cg j) u q
    cases hd : cg j with
    | dct kvs =>
      have h2' : conB G.K G.fa (cg j) u = true := h2
      rw [hd] at h2'
      have h3 : dicB G.K G.fa kvs u = true := h2'
      unfold dicB at h3
      split at h3
      · rename_i a
        split at h3
        · rename_i q
          obtain ⟨e1, e2⟩ := entB_ok kvs _ h3
          rw [eK] at q
          -- the keys' hashes
          have hdk : (x, kvs.map fun kv => keyS kv.1) ∈ L.dks := by
            refine List.mem_filterMap.mpr ⟨(x, cg j), m, ?_⟩
            rw [hd]
          have c3' : (L.dks.map fun q => He.dicW K (adOf K q.1)) = L.dks.map fun q => some (He.keysIn w.params q.2) := congrArg (fun z : AlL => z.2.2) c
          have c4 : He.dicW K (adOf K x) = some (He.keysIn w.params (kvs.map fun kv => keyS kv.1)) := List.map_inj_left.mp c3' _ hdk
          have ea : adOf K x = a := by
            have h1' : PySem.W.nsIn K mainGlobals x = some (some (.ref a)) := h1
            unfold adOf
            rw [h1']
          rw [ea] at c4
          obtain ⟨es, n, kd⟩ := He.dicW_ok (w := w) c4
          refine ⟨a, es, n, rfl, kd, fun z => ?_⟩
          have e1z := e1 z
          cases hk : kget kvs (.inr (mkS z)) with
          | none =>
            rw [hk] at e1z
            unfold PySem.W.nsIn
            rw [q]
            dsimp only
            rw [e1z, e2]
            rfl
          | some d =>
            rw [hk] at e1z
            obtain ⟨en, f1, f2⟩ := e1z
            obtain ⟨v, r, f⟩ := repB_ok d en.val f2
            refine ⟨en.val, v, ?_, r, f⟩
            unfold PySem.W.nsIn
            rw [q]
            dsimp only
            rw [f1]
        · cases h3
      · cases h3
    | _ =>
      rw [hd] at plain
      refine plain ?_
      have h2' : conB G.K G.fa (cg j) u = true := h2
      rw [hd] at h2'
      exact h2'
  · have m := hf _ (lookup_mem e)
    have m0 : cond (L.lent.contains j) none ((L.defs[j]?).map (fun d => d.at_)) = some (x, none) := m
    have hl : L.lent.contains j = false := by
      cases hl : L.lent.contains j with
      | false => rfl
      | true => rw [hl] at m0; cases m0
    rw [hl] at m0
    cases q : L.defs[j]? with
    | none =>
      have m' : (L.defs[j]?).map (fun d => d.at_) = some (x, none) := m0
      rw [q] at m'
      cases m'
    | some d =>
      have m' : (L.defs[j]?).map (fun d => d.at_) = some (x, none) := m0
      rw [q] at m'
      have e3 : d.at_ = (x, none) := Option.some.inj m'
      have e2 : d.at_.1 = x := by rw [e3]
      have e4 : d.at_.2 = none := by rw [e3]
      refine ⟨He.fAd K d.at_, ?_, ?_⟩
      · rw [← e2]
        exact PySem.W.mg_of X Gh ((c1 d (List.mem_of_getElem? q)).1 e4)
      · rw [efa]
        unfold Look.fa
        rw [hl, q]
        rfl
theorem Look.cls_of (X : K.In h) (Gh : h.Ns mainGlobals mg) (c : L.obs K = L.val w) {d : CD} (hd : d ∈ L.cls) : ∃ C, C = He.ga K d.x ∧ L.ca K d.c = some C ∧ Cls K C ∧ mg d.x = some (.ref C) ∧ (∀ x ∈ d.fs, NoAttr K C (mkS x)) ∧ (∀ m j, (m, j) ∈ d.ms → ∃ f, Meth K C (mkS m) f ∧ L.fa K j = some f) ∧ Mk K C (He.fAd K (d.x, some "__init__")) := by
  have z := (Look.parts c).2.2.2 d hd
  unfold clsB at z
  simp only [Bool.and_eq_true, List.all_eq_true, decide_eq_true_eq] at z
  obtain ⟨z1, z2, z3, z4, z5, z6⟩ := z
  exact ⟨_, rfl, z6, He.cls_ok z2, He.glo_ok X Gh z1, fun x hx => He.noat_ok (z4 x hx), fun m j hm => ⟨_, He.meth_ok (z5 _ hm).1, (z5 _ hm).2⟩, He.mkr_ok z3⟩
theorem free_of (X : K.In h) (Gh : h.Ns mainGlobals mg) (c : L.obs K = L.val w) {x : Str} (hx : x ∈ L.free) : mg x = none := PySem.W.mg_none_of X Gh ((Look.parts c).2.2.1 x hx)
theorem law_sp {K : PySem.W.Frag} {G : Gx} (eK : G.K = K) {H : Hp} {a : Addr} {ns : List Int} (hs : SqL K H a (ns.map V.int)) (hn : G.scr ns) {f : List D → (D → Prop) → Prop} {Q : VK} {E : XK} (h : f [.script] (fun d => d = .bl true)) (hm : ∀ ds Q Q', (∀ d, Q d → Q' d) → f ds Q → f ds Q') (hQ : ∀ H', Q (.bl true) H') :
    spOf G 1 f [.ref a] H Q E := by
  refine ⟨rfl, ⟨fun b => if b = a then H b else none, fun _ => False⟩, [.script], ⟨fun b o e => ?_, fun _ _ z => z.elim, fun _ _ z => z.elim⟩, .cons (.script (ns := ns) ?_ hn) .nil, hm _ _ _ (fun d e => ?_) h⟩
  · have e' : (if b = a then H b else none) = some o := e
    split at e'
    · exact e'
    · cases e'
  · rw [eK]
    have at_ : (if a = a then H a else none) = H a := if_pos rfl
    rcases hs with (q | ⟨o, q⟩) | q
    · exact .inl (.inl (at_.trans q))
    · exact .inl (.inr ⟨o, at_.trans q⟩)
    · exact .inr q
  · intro Z' H' v _ r
    rw [e] at r
    cases r
    exact hQ H'
theorem phi_body {P : Program} {w : World} {base : Heap} {G : Gx} {fns gls : List (Str × Nat)} {dfs : List (Nat × List D)} {lfs : Lf} {tab : List Fn} {cg : Nat → D} (W : World1 P w K mg base G fns gls dfs lfs tab cg) {k j : Nat} {x qual : Str} {st : Stmt} {dvs : List V} {kws : List (Str × V)} {f : Addr} {fd : FuncData} {N ps : List Str} {b : Ss}
    (e : tab[j]? = some (.body ps.length (N.length - ps.length) b)) (F : FunD K x qual (defArgs st) (defBody st) (defScope st) dvs kws f fd) (S : FnScope N ps (defScope st)) (hb : isSs ⟨N, fns, gls, dfs, lfs⟩ (defScope st) b (defBody st) = true) : FnOk P w K mg base CX0 (k + 1) f fd ps (spOf G ps.length (Phi tab cg (k + 1) j)) := by
  refine F.ok S (fun vs H Q E z => z.1) fun cdv A outer s H vs Q E hr hsp => ?_
  obtain ⟨hl, Z, ds, ok, rl, q⟩ := hsp
  unfold Phi at q
  rw [e] at q
  have gd : Good ⟨N, fns, gls, dfs, lfs⟩ G (Phi tab cg k) cg k (defScope st) (defScope st) (cxOf CX0 P w K mg base N qual (defScope st) f cdv A outer s H E).nox :=
    ⟨rfl, S.nd, rfl, fun x hx => ⟨locB_of hx, .inl rfl⟩, W.eK, rfl, hr, W.blt, W.gl, W.fn, fun j f hf => phi_ok W k j f hf, Phi_mono W.mono k, phi_lent W k, phi_cls W k⟩
  refine ⟨_, (sSs (Z0 := Z) (H0 := H) gd ok PassesOwn.never S.kind b hb).nox, Z, start0 ds (N.length - ds.length), .refl ok, repL_start rl ?_, ?_⟩
  · have z := congrArg List.length S.pre
    rw [List.length_take] at z
    omega
  · have q2 := q.2
    rw [← q.1] at q2
    exact wSs_mono (Phi_mono W.mono k) b _ ⟨fun _ => ∀ Z' H' v, Ext G Z H Z' H' → RepF G Z' .non v → Q v H', fun d => ∀ Z' H' v, Ext G Z H Z' H' → RepF G Z' d v → Q v H'⟩ _ ⟨fun env' z Z' H' σ' x _ _ => z Z' H' .non x .non, fun d z Z' H' v x r => z Z' H' v x r⟩ q2
end
end LC

namespace LC
open PySem L2
theorem phi_go {tab : List Fn} {cg : Nat → D} {k j n m : Nat} {b : Ss} {ds : List D} {Q : D → Prop} (e : tab[j]? = some (.body n m b)) (hl : ds.length = n) (h : wSs (Phi tab cg k) cg b (start0 ds m) ⟨fun _ => Q .non, Q⟩) : Phi tab cg (k + 1) j ds Q := by
  unfold Phi
  rw [e]
  exact ⟨hl, h⟩
theorem phi_prim {tab : List Fn} {cg : Nat → D} {k j n : Nat} {p : List D → (D → Prop) → Prop} {ds : List D} {Q : D → Prop} (e : tab[j]? = some (.prim n p)) (hl : ds.length = n) (h : p ds Q) : Phi tab cg (k + 6) j ds Q := by
  unfold Phi
  rw [e]
  exact ⟨⟨hl, by omega⟩, h⟩
theorem phi_goK {tab : List Fn} {cg : Nat → D} {K j n m : Nat} {b : Ss} {ds : List D} {Q : D → Prop} (e : tab[j]? = some (.body n m b)) (hl : ds.length = n) (hK : 1 ≤ K) (h : wSs (Phi tab cg (K - 1)) cg b (start0 ds m) ⟨fun _ => Q .non, Q⟩) : Phi tab cg K j ds Q := by
  obtain ⟨k, rfl⟩ := Nat.exists_eq_add_of_le' hK
  exact phi_go e hl h
theorem phi_primK {tab : List Fn} {cg : Nat → D} {K j n : Nat} {p : List D → (D → Prop) → Prop} {ds : List D} {Q : D → Prop} (e : tab[j]? = some (.prim n p)) (hl : ds.length = n) (hK : 6 ≤ K) (h : p ds Q) : Phi tab cg K j ds Q := by
  obtain ⟨k, rfl⟩ := Nat.exists_eq_add_of_le' hK
  exact phi_prim e hl h
theorem phi_goL {tab : List Fn} {cg : Nat → D} {K j n m p : Nat} {b : Ss} {kvs : List (Key × D)} {ds : List D} {Q : D → Prop} (e : tab[j]? = some (.lent n m p b)) (hl : ds.length + 1 = n) (hp : p < n) (hK : 1 ≤ K) (h : wSs (Phi tab cg (K - 1)) cg b (startL kvs ds m p) (lentK p Q)) : Phi tab cg K j (.dct kvs :: ds) Q := by
  obtain ⟨k, rfl⟩ := Nat.exists_eq_add_of_le' hK
  unfold Phi
  rw [e]
  exact ⟨⟨hl, hp⟩, h⟩
theorem lentK_op {p : Nat} {Q : D → Prop} {env : Env} {kvs : List (Key × D)} (e : slot env p = some (.op kvs)) (h : Q (.dct kvs)) : (lentK p Q).nx env := by
  unfold lentK
  dsimp only
  rw [e]
  exact h
theorem phi_goI {tab : List Fn} {cg : Nat → D} {K j c n m : Nat} {b : Ss} {ds : List D} {Q : D → Prop} (e : tab[j]? = some (.init c n m b)) (hl : ds.length + 1 = n) (hK : 2 ≤ K) (h : wSs (Phi tab cg (K - 2)) cg b (startI c ds m) (initK Q)) : Phi tab cg K j ds Q := by
  obtain ⟨k, rfl⟩ := Nat.exists_eq_add_of_le' hK
  unfold Phi
  rw [e]
  exact ⟨hl, h⟩
theorem initK_ob {Q : D → Prop} {env : Env} {c : Nat} {ks : List (Key × D)} (e : slot env 0 = some (.ob c ks)) (h : Q (.obj c ks)) : (initK Q).nx env := by
  unfold initK
  dsimp only
  rw [e]
  exact h
theorem d_ob (c : Nat) (ks : List (Key × D)) : (T.ob c ks).d = .obj c ks := rfl
theorem wLc_map {f : D → (Option D → Prop) → Prop} {g : D → Option D} {Q : List D → Prop} : ∀ (ds acc : List D), (∀ d ∈ ds, ∀ k : Option D → Prop, k (g d) → f d k) → Q (acc ++ ds.filterMap g) → wLc f ds acc Q
  | [], acc, _, q => by
    rw [List.filterMap_nil, List.append_nil] at q
    exact q
  | d :: ds, acc, h, q => by
    refine h d List.mem_cons_self _ ?_
    cases e : g d with
    | none =>
      refine wLc_map ds acc (fun x hx => h x (List.mem_cons_of_mem _ hx)) ?_
      rw [List.filterMap_cons, e] at q
      exact q
    | some y =>
      refine wLc_map ds (acc ++ [y]) (fun x hx => h x (List.mem_cons_of_mem _ hx)) ?_
      rw [List.filterMap_cons, e] at q
      rw [List.append_assoc]
      exact q
theorem wLc_all {f : D → (Option D → Prop) → Prop} {P : D → Prop} {Q : List D → Prop} : ∀ (ds acc : List D), (∀ d ∈ ds, ∀ k : Option D → Prop, (∀ x, P x → k (some x)) → f d k) → (∀ x ∈ acc, P x) → (∀ l : List D, l.length = acc.length + ds.length → (∀ x ∈ l, P x) → Q l) → wLc f ds acc Q
  | [], acc, _, h0, q => q acc rfl h0
  | d :: ds, acc, h, h0, q => by
    refine h d List.mem_cons_self _ fun x hx => ?_
    refine wLc_all ds (acc ++ [x]) (fun y hy => h y (List.mem_cons_of_mem _ hy)) (fun y hy => ?_) fun l hl => q l ?_
    · rcases List.mem_append.mp hy with hy | hy
      · exact h0 y hy
      · rw [List.mem_singleton.mp hy]
        exact hx
    · simp only [List.length_append, List.length_cons, List.length_nil] at hl ⊢
      omega
theorem wLc_any {f : D → (Option D → Prop) → Prop} {P : D → Prop} {Q : List D → Prop} : ∀ (ds acc : List D), (∀ d ∈ ds, ∀ k : Option D → Prop, (∀ x, P x → k (some x)) → k none → f d k) → (∀ x ∈ acc, P x) → (∀ l : List D, l.length ≤ acc.length + ds.length → (∀ x ∈ l, P x) → Q l) → wLc f ds acc Q
  | [], acc, _, h0, q => q acc (Nat.le_refl _) h0
  | d :: ds, acc, h, h0, q => by
    refine h d List.mem_cons_self _ (fun x hx => ?_) ?_
    · refine wLc_any ds (acc ++ [x]) (fun y hy => h y (List.mem_cons_of_mem _ hy)) (fun y hy => ?_) fun l hl => q l ?_
      · rcases List.mem_append.mp hy with hy | hy
        · exact h0 y hy
        · rw [List.mem_singleton.mp hy]
          exact hx
      · simp only [List.length_append, List.length_cons, List.length_nil] at hl ⊢
        omega
    · refine wLc_any ds acc (fun y hy => h y (List.mem_cons_of_mem _ hy)) h0 fun l hl => q l ?_
      simp only [List.length_cons]
      omega
theorem wFor_inv {f : D → Env → Kn → Prop} (I : Env → Prop) : ∀ (ds : List D) (env : Env) (k : Kn), I env → (∀ d ∈ ds, ∀ env, I env → f d env ⟨I, k.rt⟩) → (hf : ∀ d env (k k' : Kn), Kn.Le k k' → f d env k → f d env k') → (∀ env, I env → k.nx env) → wFor f ds env k
  | [], env, k, h0, _, _, he => he env h0
  | d :: ds, env, k, h0, h, hf, he => by
    refine hf d env ⟨I, k.rt⟩ _ ⟨fun env' h' => ?_, fun _ z => z⟩ (h d List.mem_cons_self env h0)
    exact wFor_inv I ds env' k h' (fun x hx => h x (List.mem_cons_of_mem _ hx)) hf he
theorem slot0 (a : Option T) (r : Env) : slot (a :: r) 0 = a := by cases a <;> rfl
theorem slotS (a : Option T) (r : Env) (n : Nat) : slot (a :: r) (n + 1) = slot r n := by
  unfold slot
  rw [List.getElem?_cons_succ]
theorem cgGet0 (a : D) (r : List D) (d : D) : (a :: r).getD 0 d = a := rfl
theorem cgGetS (a : D) (r : List D) (n : Nat) (d : D) : (a :: r).getD (n + 1) d = r.getD n d := by
  rw [List.getD_cons_succ]
section
variable (a b : Int) (x y : List Nat) (d e : D) (ds es : List D) (Q : Bool → Prop) (P : T → Prop) (R : D → Prop)
theorem c_eq : wCmp .eq d e Q = (D.cmpOk d e = true ∧ Q (D.eqv d e)) := rfl
theorem c_ne : wCmp .ne d e Q = (D.cmpOk d e = true ∧ Q (!D.eqv d e)) := rfl
theorem c_ltI : wCmp .lt (.int a) (.int b) Q = Q (decide (a < b)) := rfl
theorem c_leI : wCmp .le (.int a) (.int b) Q = Q (decide (a ≤ b)) := rfl
theorem c_gtI : wCmp .gt (.int a) (.int b) Q = Q (decide (b < a)) := rfl
theorem c_geI : wCmp .ge (.int a) (.int b) Q = Q (decide (b ≤ a)) := rfl
theorem c_ltS : wCmp .lt (.str x) (.str y) Q = Q (decide (x < y)) := rfl
theorem c_leS : wCmp .le (.str x) (.str y) Q = Q (decide (x ≤ y)) := rfl
theorem c_gtS : wCmp .gt (.str x) (.str y) Q = Q (decide (y < x)) := rfl
theorem c_geS : wCmp .ge (.str x) (.str y) Q = Q (decide (y ≤ x)) := rfl
theorem c_inS (c : Nat) : wCmp .isin (.str [c]) (.str y) Q = Q (y.contains c) := rfl
theorem c_niS (c : Nat) : wCmp .notin (.str [c]) (.str y) Q = Q (!y.contains c) := rfl
theorem c_inT : wCmp .isin d (.tup es) Q = (D.inOk d es = true ∧ Q (es.any (D.eqv · d))) := by
  unfold wCmp
  split <;> simp_all
theorem c_niT : wCmp .notin d (.tup es) Q = (D.inOk d es = true ∧ Q (!es.any (D.eqv · d))) := by
  unfold wCmp
  split <;> simp_all
theorem c_inL : wCmp .isin d (.lst es) Q = (D.inOk d es = true ∧ Q (es.any (D.eqv · d))) := by
  unfold wCmp
  split <;> simp_all
theorem c_niL : wCmp .notin d (.lst es) Q = (D.inOk d es = true ∧ Q (!es.any (D.eqv · d))) := by
  unfold wCmp
  split <;> simp_all
theorem c_isN : wCmp .is d .non Q = Q d.isNon := by
  unfold wCmp
  split <;> simp_all
theorem c_isnotN : wCmp .isnot d .non Q = Q (!d.isNon) := by
  unfold wCmp
  split <;> simp_all
theorem c_isB (s t : Bool) : wCmp .is (.bl s) (.bl t) Q = Q (s == t) := rfl
theorem c_isnotB (s t : Bool) : wCmp .isnot (.bl s) (.bl t) Q = Q (!(s == t)) := rfl
theorem b_addI : wBin .add (.int a) (.int b) P = P (.v (.int (a + b))) := rfl
theorem b_addS : wBin .add (.str x) (.str y) P = (x.length + y.length ≤ 16777216 ∧ P (.v (.str (x ++ y)))) := rfl
theorem b_addT : wBin .add (.tup ds) (.tup es) P = (ds.length + es.length ≤ 16777216 ∧ P (.v (.tup (ds ++ es)))) := rfl
theorem b_addL : wBin .add (.lst ds) (.lst es) P = (ds.length + es.length ≤ 16777216 ∧ P (.ol (ds ++ es))) := rfl
theorem b_sub : wBin .sub (.int a) (.int b) P = P (.v (.int (a - b))) := rfl
theorem b_pow : wBin .pow (.int a) (.int b) P = ((0 ≤ b ∧ b ≤ 1000000 ∧ a.natAbs < 2 ^ 64) ∧ P (.v (.int (a ^ b.toNat)))) := rfl
theorem b_shl : wBin .shl (.int a) (.int b) P = ((0 ≤ b ∧ b ≤ 1000000 ∧ a.natAbs < 2 ^ 64) ∧ P (.v (.int (a * 2 ^ b.toNat)))) := rfl
theorem b_mul : wBin .mul (.int a) (.int b) P = (((-(2 ^ 64) < a ∧ a < 2 ^ 64) ∨ (-(2 ^ 64) < b ∧ b < 2 ^ 64)) ∧ P (.v (.int (a * b)))) := rfl
theorem b_rep : wBin .mul (.lst ds) (.int b) P = ((0 ≤ b ∧ b ≤ 1000 ∧ ds.length * b.toNat ≤ 16777216) ∧ P (.ol (List.replicate b.toNat ds).flatten)) := rfl
theorem b_mod : wBin .mod (.int a) (.int b) P = (0 < b ∧ P (.v (.int (a % b)))) := rfl
theorem b_fdiv : wBin .fdiv (.int a) (.int b) P = ((0 < b ∧ b < 1073741824) ∧ P (.v (.int (a / b)))) := rfl
theorem i_str : wIx (.str x) (.int a) R = match atI x a with
    | some c => R (.str [c])
    | none => False := rfl
theorem i_tup : wIx (.tup ds) (.int a) R = match atI ds a with
    | some c => R c
    | none => False := rfl
theorem i_lst : wIx (.lst ds) (.int a) R = match atI ds a with
    | some c => R c
    | none => False := rfl
theorem k_str (lo hi : Option Int) : wCut (.str x) lo hi P = P (.v (.str (cut x lo hi))) := rfl
theorem k_tup (lo hi : Option Int) : wCut (.tup ds) lo hi P = P (.v (.tup (cut ds lo hi))) := rfl
theorem k_lst (lo hi : Option Int) : wCut (.lst ds) lo hi P = P (.ol (cut ds lo hi)) := rfl
theorem n_str : wBi .len [.str x] P = P (.v (.int x.length)) := rfl
theorem n_tup : wBi .len [.tup ds] P = P (.v (.int ds.length)) := rfl
theorem n_lst : wBi .len [.lst ds] P = P (.v (.int ds.length)) := rfl
theorem n_all : wBi .all [.lst ds] P = ∃ bs, bools ds = some bs ∧ P (.v (.bl (bs.all id))) := rfl
theorem n_any : wBi .any [.lst ds] P = ∃ bs, bools ds = some bs ∧ P (.v (.bl (bs.any id))) := rfl
theorem n_listL : wBi .list [.lst ds] P = P (.ol ds) := rfl
theorem n_listT : wBi .list [.tup ds] P = P (.ol ds) := rfl
theorem n_listD (kvs : List (Key × D)) : wBi .list [.dct kvs] P = P (.ol (kvs.map fun p => keyD p.1)) := rfl
theorem n_listS : wBi .list [.str x] P = P (.ol (x.map fun c => .str [c])) := rfl
theorem n_lenD (kvs : List (Key × D)) : wBi .len [.dct kvs] P = P (.v (.int kvs.length)) := rfl
theorem n_sortL : wBi .sorted [.lst ds] P = (ds.length < 64 ∧ ∃ ts, texts ds = some ts ∧ ∀ ys : List (List Nat), ys.Perm ts → sortedN ys = true → P (.ol (ys.map D.str))) := rfl
theorem n_sortD (kvs : List (Key × D)) : wBi .sorted [.dct kvs] P = (kvs.length < 64 ∧ ∃ ts, texts (kvs.map fun p => keyD p.1) = some ts ∧ ∀ ys : List (List Nat), ys.Perm ts → sortedN ys = true → P (.ol (ys.map D.str))) := rfl
theorem n_intB (t : Bool) : wBi .int [.bl t] P = P (.v (.int (if t then 1 else 0))) := rfl
theorem n_intI : wBi .int [.int a] P = P (.v (.int a)) := rfl
theorem d_od (kvs : List (Key × D)) : (T.od kvs).d = .dct kvs := rfl
theorem d_op (kvs : List (Key × D)) : (T.op kvs).d = .dct kvs := rfl
theorem n_tupL : wBi .tuple [.lst ds] P = P (.v (.tup ds)) := rfl
theorem n_tupT : wBi .tuple [.tup ds] P = P (.v (.tup ds)) := rfl
theorem m_join (sep : List Nat) : wMt .join (.str sep) [.lst ds] P = ∃ ts, texts ds = some ts ∧ (ts.map List.length).sum + ts.length * sep.length ≤ 16777216 ∧ P (.v (.str (TL.joinL sep ts))) := rfl
theorem m_split (c : Nat) : wMt .split (.str x) [.str [c]] P = ((x.length + 2 ≤ 16777216 ∧ c < 256) ∧ P (.ol ((TL.spl [c] 0 [] x).map D.str))) := rfl
theorem gl_tup : globW (.tup ds) R = R (.tup ds) := rfl
theorem gl_str : globW (.str x) R = R (.str x) := rfl
theorem gl_int : globW (.int a) R = R (.int a) := rfl
theorem gin_d (kvs : List (Key × D)) : ginW (.dct kvs) (.str x) Q = Q (kget kvs (.inr (mkS x))).isSome := rfl
theorem gix_d (kvs : List (Key × D)) : gixW (.dct kvs) (.str x) R = match kget kvs (.inr (mkS x)) with
    | some d => R d
    | none => False := rfl
theorem w_tup : walked (.tup ds) = some ds := rfl
theorem w_lst : walked (.lst ds) = some ds := rfl
theorem w_lck (kvs : List (Key × D)) : walked (.lck kvs) = some (kvs.map fun p => keyD p.1) := rfl
theorem i_lck (kvs : List (Key × D)) : wIx (.lck kvs) (.str x) R = match kget kvs (.inr (mkS x)) with
    | some c => R c
    | none => False := rfl
theorem w_str : walked (.str x) = some (x.map fun c => .str [c]) := rfl
theorem r_join : Mt.rcv .join (.str x) = true := rfl
theorem r_split : Mt.rcv .split (.str x) = true := rfl
theorem d_v : (T.v d).d = d := rfl
theorem n_sortP : wBi .sortedp [.lst ds] P = ∃ ps : List (List Nat × Int), ds = ps.map (fun p => D.tup [.str p.1, .int p.2]) ∧ ∀ qs : List (List Nat × Int), qs.Perm ps → sortedN (qs.map (·.1)) = true → P (.ol (qs.map fun p => D.tup [.str p.1, .int p.2])) := rfl
theorem n_sortT : wBi .sortedt [.tup ds] P = ∃ ps : List (List Nat × Int), ds = ps.map (fun p => D.tup [.str p.1, .int p.2]) ∧ ∀ qs : List (List Nat × Int), qs.Perm ps → sortedN (qs.map (·.1)) = true → P (.ol (qs.map fun p => D.tup [.str p.1, .int p.2])) := rfl
theorem n_maxS {a b : List Nat} : wBi .max [.str a, .str b] P = P (.v (.str (if a < b then b else a))) := rfl
theorem n_minS {a b : List Nat} : wBi .min [.str a, .str b] P = P (.v (.str (if b < a then b else a))) := rfl
theorem n_max2 : wBi .max [.int a, .int b] P = P (.v (.int (if b > a then b else a))) := rfl
theorem n_min2 : wBi .min [.int a, .int b] P = P (.v (.int (if b < a then b else a))) := rfl
theorem n_maxL : wBi .max [.lst ds] P = ∃ ns, intsD ds = some ns ∧ 0 < ns.length ∧ ∀ m, m ∈ ns → (∀ y, y ∈ ns → y ≤ m) → P (.v (.int m)) := rfl
theorem n_minL : wBi .min [.lst ds] P = ∃ ns, intsD ds = some ns ∧ 0 < ns.length ∧ ∀ m, m ∈ ns → (∀ y, y ∈ ns → m ≤ y) → P (.v (.int m)) := rfl
theorem n_sum : wBi .sum [.lst ds] P = ∃ ns, intsD ds = some ns ∧ P (.v (.int ns.sum)) := rfl
theorem n_strI : wBi .str [.int a] P = (a.natAbs.log2 < 1920 ∧ P (.v (.str (decN a)))) := rfl
theorem n_strS : wBi .str [.str x] P = P (.v (.str x)) := rfl
theorem m_upper : wMt .upper (.str x) [] P = ((x.length ≤ 5592405 ∧ (upN x).length ≤ 16777216 ∧ ∀ c ∈ upN x, c < 0x110000) ∧ P (.v (.str (upN x)))) := rfl
theorem m_index : wMt .index (.str x) [.str y] P = match occN x y with
    | i :: _ => P (.v (.int i))
    | [] => False := rfl
theorem r_upper : Mt.rcv .upper (.str x) = true := rfl
theorem r_index : Mt.rcv .index (.str x) = true := rfl
theorem r_lindex : Mt.rcv .lindex (.lst ds) = true := rfl
theorem m_lindex : wMt .lindex (.lst ds) [d] P = ((ds.all D.flat = true ∧ d.flat = true) ∧ match ds.findIdx? (fun x => D.eqv x d) with
    | some j => P (.v (.int j))
    | none => False) := rfl
theorem i_dS (kvs : List (Key × D)) : wIx (.dct kvs) (.str x) R = match kget kvs (.inr (mkS x)) with
    | some c => R c
    | none => False := rfl
theorem i_dI (kvs : List (Key × D)) : wIx (.dct kvs) (.int a) R = match kget kvs (.inl a) with
    | some c => R c
    | none => False := rfl
theorem c_inD (kvs : List (Key × D)) : wCmp .isin d (.dct kvs) Q = match d.key with
    | some k => Q (kget kvs k).isSome
    | none => False := by
  cases d with
  | str x => exact match x with
    | [] => rfl
    | [_] => rfl
    | _ :: _ :: _ => rfl
  | _ => rfl
theorem c_niD (kvs : List (Key × D)) : wCmp .notin d (.dct kvs) Q = match d.key with
    | some k => Q (!(kget kvs k).isSome)
    | none => False := by
  cases d with
  | str x => exact match x with
    | [] => rfl
    | [_] => rfl
    | _ :: _ :: _ => rfl
  | _ => rfl
theorem key_str : (D.str x).key = some (.inr (mkS x)) := rfl
theorem key_int : (D.int a).key = some (.inl a) := rfl
theorem d_ol : (T.ol ds).d = .lst ds := rfl
theorem isB_bl (t : Bool) : isB Q (.v (.bl t)) = Q t := rfl
end
theorem bools_map {α : Type} (f : α → Bool) : ∀ l : List α, bools (l.map fun c => D.bl (f c)) = some (l.map f)
  | [] => rfl
  | a :: r => by
    show (bools (r.map fun c => D.bl (f c))).map (f a :: ·) = _
    rw [bools_map f r]
    rfl
theorem texts_map : ∀ l : List (List Nat), texts (l.map D.str) = some l
  | [] => rfl
  | a :: r => by
    show (texts (r.map D.str)).map (a :: ·) = _
    rw [texts_map r]
    rfl
theorem wLc_mapF {α : Type} {f : D → (Option D → Prop) → Prop} {u : α → D} {g : α → Option D} {Q : List D → Prop} : ∀ (l : List α) (acc : List D), (∀ c ∈ l, ∀ k : Option D → Prop, k (g c) → f (u c) k) → Q (acc ++ l.filterMap g) → wLc f (l.map u) acc Q
  | [], acc, _, q => by
    rw [List.filterMap_nil, List.append_nil] at q
    exact q
  | d :: ds, acc, h, q => by
    refine h d List.mem_cons_self _ ?_
    cases e : g d with
    | none =>
      refine wLc_mapF ds acc (fun x hx => h x (List.mem_cons_of_mem _ hx)) ?_
      rw [List.filterMap_cons, e] at q
      exact q
    | some y =>
      refine wLc_mapF ds (acc ++ [y]) (fun x hx => h x (List.mem_cons_of_mem _ hx)) ?_
      rw [List.filterMap_cons, e] at q
      rw [List.append_assoc]
      exact q
theorem filterMap_some {α β : Type} (v : α → β) : ∀ l : List α, l.filterMap (fun c => some (v c)) = l.map v
  | [] => rfl
  | a :: r => by
    rw [List.filterMap_cons, List.map_cons, filterMap_some v r]
theorem wLc_mapT {α : Type} {f : D → (Option D → Prop) → Prop} {u : α → D} {v : α → D} {Q : List D → Prop} (l : List α) (h : ∀ c ∈ l, ∀ k : Option D → Prop, k (some (v c)) → f (u c) k) (q : Q (l.map v)) : wLc f (l.map u) [] Q := by
  refine wLc_mapF (g := fun c => some (v c)) l [] h ?_
  rw [List.nil_append, filterMap_some]
  exact q
theorem atI_in {α : Type} {xs : List α} {n : Int} (h0 : 0 ≤ n) (h1 : n < (xs.length : Int)) : ∃ c, atI xs n = some c ∧ c ∈ xs ∧ xs[n.toNat]? = some c := by
  have hlt : n.toNat < xs.length := by omega
  refine ⟨xs[n.toNat], ?_, List.getElem_mem hlt, List.getElem?_eq_getElem hlt⟩
  unfold atI ixN
  rw [if_pos h0, if_pos h1]
  exact List.getElem?_eq_getElem hlt
theorem atI_nn {α : Type} {xs : List α} {j : Nat} {c : α} (h : xs[j]? = some c) : atI xs (j : Int) = some c := L2.atI_nat h
theorem cut_from {α : Type} (x : List α) (j : Nat) : cut x (some (j : Int)) none = x.drop j := by
  unfold cut
  rw [HT.sIx_none, HT.sIx_nat]
  by_cases h : j ≤ x.length
  · rw [Nat.min_eq_left h, List.take_of_length_le (by rw [List.length_drop]; omega)]
  · rw [Nat.min_eq_right (by omega), List.drop_of_length_le (Nat.le_refl _), List.drop_of_length_le (show x.length ≤ j by omega), List.take_nil]
theorem cut_to {α : Type} (x : List α) (j : Nat) : cut x none (some (j : Int)) = x.take j := by
  unfold cut
  rw [HT.sIx_none, HT.sIx_nat, List.drop_zero, Nat.sub_zero]
  by_cases h : j ≤ x.length
  · rw [Nat.min_eq_left h]
  · rw [Nat.min_eq_right (by omega), List.take_of_length_le (Nat.le_refl _), List.take_of_length_le (show x.length ≤ j by omega)]
theorem cmpb_flat {d : D} (n : Nat) (h : d.flat = true) : d.cmpb n = true := flat_cmpb n h
theorem cmpbL_flat (n : Nat) : ∀ {ds : List D}, (∀ d ∈ ds, d.flat = true) → D.cmpbL n ds = true
  | [], _ => by cases n <;> rfl
  | d :: r, h => by
    have e : D.cmpbL n (d :: r) = (D.cmpb n d && D.cmpbL n r) := by cases n <;> rfl
    rw [e, cmpb_flat n (h d List.mem_cons_self), cmpbL_flat n fun x hx => h x (List.mem_cons_of_mem _ hx)]
    rfl
theorem cmpb_tup (n : Nat) (ds : List D) : D.cmpb (n + 1) (.tup ds) = D.cmpbL n ds := by
  rw [D.cmpb]
theorem cmpb_lst (n : Nat) (ds : List D) : D.cmpb (n + 1) (.lst ds) = D.cmpbL n ds := by
  rw [D.cmpb]
theorem cmpbL_nil (n : Nat) : D.cmpbL n [] = true := by
  rw [D.cmpbL]
theorem cmpbL_cons (n : Nat) (d : D) (ds : List D) : D.cmpbL n (d :: ds) = (D.cmpb n d && D.cmpbL n ds) := by
  rw [D.cmpbL]
theorem cmpb_str (n : Nat) (x : List Nat) : D.cmpb n (.str x) = true := flat_cmpb n rfl
theorem cmpb_int (n : Nat) (i : Int) : D.cmpb n (.int i) = true := flat_cmpb n rfl
mutual
theorem cmpb_up : ∀ (n : Nat) (d : D), D.cmpb n d = true → D.cmpb (n + 1) d = true
  | n, .non, _ => flat_cmpb _ rfl
  | n, .bl _, _ => flat_cmpb _ rfl
  | n, .int _, _ => flat_cmpb _ rfl
  | n, .str _, _ => flat_cmpb _ rfl
  | 0, .tup _, h => by cases h
  | 0, .lst _, h => by cases h
  | n + 1, .tup xs, h => by
    rw [cmpb_tup] at h ⊢
    exact cmpbL_up n xs h
  | n + 1, .lst xs, h => by
    rw [cmpb_lst] at h ⊢
    exact cmpbL_up n xs h
  | n, .dct _, h => by cases n <;> cases h
  | n, .lck _, h => by cases n <;> cases h
  | n, .tpk _, h => by cases n <;> cases h
  | n, .obj _ _, h => by cases n <;> cases h
  | n, .fn _, h => by cases n <;> cases h
  | n, .deck, h => by cases n <;> cases h
  | n, .script, h => by cases n <;> cases h
theorem cmpbL_up : ∀ (n : Nat) (ds : List D), D.cmpbL n ds = true → D.cmpbL (n + 1) ds = true
  | n, [], _ => cmpbL_nil _
  | n, d :: ds, h => by
    rw [cmpbL_cons, Bool.and_eq_true] at h ⊢
    exact ⟨cmpb_up n d h.1, cmpbL_up n ds h.2⟩
end
theorem cmpb_le {n m : Nat} (hm : n ≤ m) {d : D} (h : D.cmpb n d = true) : D.cmpb m d = true := by
  induction hm with
  | refl => exact h
  | step _ ih => exact cmpb_up _ _ ih
theorem cmpbL_all {n : Nat} : ∀ {ds : List D}, (∀ d ∈ ds, D.cmpb n d = true) → D.cmpbL n ds = true
  | [], _ => cmpbL_nil n
  | d :: r, h => by
    rw [cmpbL_cons, h d List.mem_cons_self, cmpbL_all fun x hx => h x (List.mem_cons_of_mem _ hx)]
    rfl
theorem cmpOk_60 {d e : D} (h1 : D.cmpb 60 d = true) (h2 : D.cmpb 60 e = true) : D.cmpOk d e = true := by
  unfold D.cmpOk
  rw [h1, h2]
  simp
mutual
theorem eqv_self : ∀ (n : Nat) (d : D), D.cmpb n d = true → D.eqv d d = true
  | n, .non, _ => by rw [D.eqv]
  | n, .bl b, _ => by
    rw [D.eqv]
    exact beq_self_eq_true b
  | n, .int i, _ => by
    rw [D.eqv]
    exact beq_self_eq_true i
  | n, .str x, _ => by
    rw [D.eqv]
    exact beq_self_eq_true x
  | 0, .tup _, h => by cases h
  | 0, .lst _, h => by cases h
  | n + 1, .tup xs, h => by
    rw [cmpb_tup] at h
    rw [D.eqv]
    exact eqvL_self n xs h
  | n + 1, .lst xs, h => by
    rw [cmpb_lst] at h
    rw [D.eqv]
    exact eqvL_self n xs h
  | n, .dct _, h => by cases n <;> cases h
  | n, .lck _, h => by cases n <;> cases h
  | n, .tpk _, h => by cases n <;> cases h
  | n, .obj _ _, h => by cases n <;> cases h
  | n, .fn _, h => by cases n <;> cases h
  | n, .deck, h => by cases n <;> cases h
  | n, .script, h => by cases n <;> cases h
theorem eqvL_self : ∀ (n : Nat) (ds : List D), D.cmpbL n ds = true → D.eqvL ds ds = true
  | n, [], _ => by rw [D.eqvL]
  | n, d :: ds, h => by
    rw [cmpbL_cons, Bool.and_eq_true] at h
    rw [D.eqvL, eqv_self n d h.1, eqvL_self n ds h.2]
    rfl
end
mutual
theorem eqv_symm : ∀ (a b : D), D.eqv a b = D.eqv b a
  | .non, b => by cases b <;> rfl
  | .bl a, b => by
    cases b <;> simp only [D.eqv]
    · exact Bool.beq_comm
    · exact Bool.beq_comm
  | .int a, b => by
    cases b <;> simp only [D.eqv]
    · exact Bool.beq_comm
    · exact Bool.beq_comm
  | .str a, b => by
    cases b <;> simp only [D.eqv]
    exact Bool.beq_comm
  | .lst a, b => by
    cases b <;> simp only [D.eqv]
    exact eqvL_symm a _
  | .tup a, b => by
    cases b <;> simp only [D.eqv]
    exact eqvL_symm a _
  | .dct _, b => by cases b <;> rfl
  | .lck _, b => by cases b <;> rfl
  | .tpk _, b => by cases b <;> rfl
  | .obj _ _, b => by cases b <;> rfl
  | .fn _, b => by cases b <;> rfl
  | .deck, b => by cases b <;> rfl
  | .script, b => by cases b <;> rfl
theorem eqvL_symm : ∀ (a b : List D), D.eqvL a b = D.eqvL b a
  | [], [] => rfl
  | [], _ :: _ => rfl
  | _ :: _, [] => rfl
  | x :: xs, y :: ys => by
    rw [D.eqvL, D.eqvL, eqv_symm x y, eqvL_symm xs ys]
end
theorem eqvL_nil (l : List D) : D.eqv (.lst l) (.lst []) = l.isEmpty := by
  cases l <;> rfl
theorem ixL_any {ds : List D} {n : Int} {R : D → Prop} (h0 : 0 ≤ n) (h1 : n < (ds.length : Int)) (h : ∀ d ∈ ds, R d) : wIx (.lst ds) (.int n) R := by
  obtain ⟨c, e, m, _⟩ := atI_in h0 h1
  rw [i_lst, e]
  exact h c m
theorem ixT_any {ds : List D} {n : Int} {R : D → Prop} (h0 : 0 ≤ n) (h1 : n < (ds.length : Int)) (h : ∀ d ∈ ds, R d) : wIx (.tup ds) (.int n) R := by
  obtain ⟨c, e, m, _⟩ := atI_in h0 h1
  rw [i_tup, e]
  exact h c m
theorem ixS_any {x : List Nat} {n : Int} {R : D → Prop} (h0 : 0 ≤ n) (h1 : n < (x.length : Int)) (h : ∀ c ∈ x, R (.str [c])) : wIx (.str x) (.int n) R := by
  obtain ⟨c, e, m, _⟩ := atI_in h0 h1
  rw [i_str, e]
  exact h c m
theorem texts_of {R : List Nat → Prop} : ∀ {ds : List D}, (∀ d ∈ ds, ∃ x, d = .str x ∧ R x) → ∃ ts : List (List Nat), ds = ts.map D.str ∧ ∀ x ∈ ts, R x
  | [], _ => ⟨[], rfl, fun _ z => nomatch z⟩
  | d :: r, h => by
    obtain ⟨ts, e, a⟩ := texts_of (ds := r) fun x hx => h x (List.mem_cons_of_mem _ hx)
    obtain ⟨x, e2, rx⟩ := h d List.mem_cons_self
    refine ⟨x :: ts, by rw [e, e2]; rfl, fun y hy => ?_⟩
    rcases List.mem_cons.mp hy with q | q
    · rw [q]
      exact rx
    · exact a y q
theorem join0 : ∀ ts : List (List Nat), TL.joinL [] ts = ts.flatten
  | [] => rfl
  | [p] => by
    show p = [p].flatten
    simp
  | p :: q :: r => by
    show p ++ ([] ++ TL.joinL [] (q :: r)) = _
    rw [join0 (q :: r)]
    rfl
theorem sum_le {α : Type} (f : α → Nat) (b : Nat) : ∀ l : List α, (∀ x ∈ l, f x ≤ b) → (l.map f).sum ≤ l.length * b
  | [], _ => Nat.zero_le _
  | x :: r, h => by
    have h1 := h x List.mem_cons_self
    have h2 := sum_le f b r fun y hy => h y (List.mem_cons_of_mem _ hy)
    rw [List.map_cons, List.sum_cons, List.length_cons, Nat.add_mul, Nat.one_mul]
    omega
theorem rangeD_len (lo hi : Int) : (rangeD lo hi).length = (hi - lo).toNat := by
  unfold rangeD
  rw [List.length_map, List.length_range]
theorem ite_of {A B : Prop} {b : Bool} (h1 : b = true → A) (h2 : b = false → B) : if b = true then A else B := by
  cases b
  · exact h2 rfl
  · exact h1 rfl
section
variable {F : Nat → List D → (D → Prop) → Prop} {cg : Nat → D} (hF : ∀ j ds Q Q', (∀ d, Q d → Q' d) → F j ds Q → F j ds Q')
include hF
theorem asg_cut {i : Nat} {e : E} {r : Ss} {env : Env} {k : Kn} (P : T → Prop) (h1 : wE F cg e env P) (h2 : ∀ t, P t → wSs F cg r (env.set i (some t)) k) : wSs F cg (.cons (.asg i e) r) env k := by
  simp only [wSs, wS]
  exact wE_mono hF e env P _ h2 h1
theorem ss_cut {s : S} {r : Ss} {env : Env} {k : Kn} (M : Env → Prop) (h1 : wS F cg s env ⟨M, k.rt⟩) (h2 : ∀ env', M env' → wSs F cg r env' k) : wSs F cg (.cons s r) env k := by
  simp only [wSs]
  exact wS_mono hF s env ⟨M, k.rt⟩ _ ⟨h2, fun _ z => z⟩ h1
theorem ifs_cut {c : E} {a b r : Ss} {env : Env} {k : Kn} (P : Bool → Prop) (hc : wE F cg c env (isB P)) (ht : P true → wSs F cg a env ⟨fun env' => wSs F cg r env' k, k.rt⟩) (hf : P false → wSs F cg b env ⟨fun env' => wSs F cg r env' k, k.rt⟩) : wSs F cg (.cons (.ifs c a b) r) env k := by
  simp only [wSs, wS]
  refine wE_mono hF c env _ _ (isB.mono fun t q => ?_) hc
  cases t
  · exact onF rfl (hf q)
  · exact onT rfl (ht q)
theorem fors_go {tg : Tg} {it : I} {body : Ss} {env : Env} {K : Kn} (hI : itOk it env) (h : wI F cg it env fun ds => ∃ J : Env → Prop, J env ∧ (∀ d ∈ ds, ∀ env, J env → ∃ env', wTg tg d env = some env' ∧ wSs F cg body env' ⟨J, K.rt⟩) ∧ ∀ env, J env → K.nx env) : wS F cg (.fors tg it body) env K := by
  simp only [wS]
  refine ⟨hI, wI_mono hF it env _ _ (fun ds hd => ?_) h⟩
  obtain ⟨J, h0, hs, he⟩ := hd
  refine wFor_inv J ds env K h0 (fun d hd env hi => ?_) (fun d env k k' hk h => ?_) he
  · obtain ⟨env', e, w⟩ := hs d hd env hi
    rw [e]
    exact w
  · cases e : wTg tg d env with
    | none =>
      rw [e] at h
      exact h
    | some env' =>
      rw [e] at h
      exact wSs_mono hF body env' k k' hk h
theorem fors_idx {tg : Tg} {it : I} {body : Ss} {env : Env} {K : Kn} (hI : itOk it env) (h : wI F cg it env fun ds => ∃ J : Nat → Env → Prop, J 0 env ∧ (∀ i d, ds[i]? = some d → ∀ env, J i env → ∃ env', wTg tg d env = some env' ∧ wSs F cg body env' ⟨J (i + 1), K.rt⟩) ∧ ∀ env, J ds.length env → K.nx env) : wS F cg (.fors tg it body) env K := by
  simp only [wS]
  refine ⟨hI, wI_mono hF it env _ _ (fun ds hd => ?_) h⟩
  obtain ⟨J, h0, hs, he⟩ := hd
  have key : ∀ (n : Nat) (es : List D) (env : Env), ds.drop n = es → n ≤ ds.length → J n env → wFor (fun d env k => match wTg tg d env with
      | some env' => wSs F cg body env' k
      | none => False) es env K := by
    intro n es
    induction es generalizing n with
    | nil =>
      intro env hd hn hj
      have : n = ds.length := by
        have := congrArg List.length hd
        rw [List.length_drop, List.length_nil] at this
        omega
      subst this
      exact he env hj
    | cons d r ih =>
      intro env hd hn hj
      have hlt : n < ds.length := by
        have := congrArg List.length hd
        rw [List.length_drop, List.length_cons] at this
        omega
      have hg : ds[n]? = some d := by
        have := congrArg (fun l => l[0]?) hd
        simpa using this
      obtain ⟨env', e, w⟩ := hs n d hg env hj
      show (match wTg tg d env with
        | some env' => wSs F cg body env' _
        | none => False)
      rw [e]
      refine wSs_mono hF body env' ⟨J (n + 1), K.rt⟩ _ ⟨fun env2 h2 => ?_, fun _ z => z⟩ w
      refine ih (n + 1) env2 ?_ hlt h2
      have h3 := congrArg List.tail hd
      rw [List.tail_drop, List.tail_cons] at h3
      exact h3
  exact key 0 ds env rfl (Nat.zero_le _) h0
theorem ex_cut {e : E} {env : Env} {Q : T → Prop} (P : T → Prop) (h1 : wE F cg e env P) (h2 : ∀ t, P t → Q t) : wE F cg e env Q := wE_mono hF e env P Q h2 h1
end
theorem at0 {α : Type} (a : α) (r : List α) : atI (a :: r) 0 = some a := atI_nn (j := 0) rfl
theorem at1 {α : Type} (a b : α) (r : List α) : atI (a :: b :: r) 1 = some b := atI_nn (j := 1) rfl
theorem at2 {α : Type} (a b c : α) (r : List α) : atI (a :: b :: c :: r) 2 = some c := atI_nn (j := 2) rfl
theorem at3 {α : Type} (a b c d : α) (r : List α) : atI (a :: b :: c :: d :: r) 3 = some d := atI_nn (j := 3) rfl
theorem ct1 {α : Type} (x : List α) : cut x (some 1) none = x.drop 1 := cut_from x 1
theorem ct2 {α : Type} (x : List α) : cut x (some 2) none = x.drop 2 := cut_from x 2
theorem ct3 {α : Type} (x : List α) : cut x (some 3) none = x.drop 3 := cut_from x 3
theorem ct4 {α : Type} (x : List α) : cut x (some 4) none = x.drop 4 := cut_from x 4
theorem tk1 {α : Type} (x : List α) : cut x none (some 1) = x.take 1 := cut_to x 1
theorem tk2 {α : Type} (x : List α) : cut x none (some 2) = x.take 2 := cut_to x 2
theorem tk3 {α : Type} (x : List α) : cut x none (some 3) = x.take 3 := cut_to x 3
theorem dr1 {α : Type} (a : α) (x : List α) : (a :: x).drop 1 = x := rfl
theorem dr2 {α : Type} (a b : α) (x : List α) : (a :: b :: x).drop 2 = x := rfl
theorem dr3 {α : Type} (a b c : α) (x : List α) : (a :: b :: c :: x).drop 3 = x := rfl
theorem dr4 {α : Type} (a b c d : α) (x : List α) : (a :: b :: c :: d :: x).drop 4 = x := rfl
theorem tt1 {α : Type} (a : α) (x : List α) : (a :: x).take 1 = [a] := rfl
theorem tt2 {α : Type} (a b : α) (x : List α) : (a :: b :: x).take 2 = [a, b] := rfl
theorem tt3 {α : Type} (a b c : α) (x : List α) : (a :: b :: c :: x).take 3 = [a, b, c] := rfl
theorem ev_tup (a b : List D) : D.eqv (.tup a) (.tup b) = D.eqvL a b := by rw [D.eqv]
theorem ev_lst (a b : List D) : D.eqv (.lst a) (.lst b) = D.eqvL a b := by rw [D.eqv]
theorem ev_str (a b : List Nat) : D.eqv (.str a) (.str b) = (a == b) := by rw [D.eqv]
theorem ev_int (a b : Int) : D.eqv (.int a) (.int b) = (a == b) := by rw [D.eqv]
theorem ev_bl (a b : Bool) : D.eqv (.bl a) (.bl b) = (a == b) := by rw [D.eqv]
theorem evL_cons (a b : D) (x y : List D) : D.eqvL (a :: x) (b :: y) = (D.eqv a b && D.eqvL x y) := by rw [D.eqvL]
theorem evL_nil : D.eqvL [] [] = true := by rw [D.eqvL]
theorem evL_nc (b : D) (y : List D) : D.eqvL [] (b :: y) = false := by simp [D.eqvL]
theorem evL_cn (b : D) (y : List D) : D.eqvL (b :: y) [] = false := by simp [D.eqvL]
theorem zd_cons (a b : D) (x y : List D) : zipD (a :: x) (b :: y) = .tup [a, b] :: zipD x y := rfl
theorem zd_nil (y : List D) : zipD [] y = [] := rfl
theorem zd_nil' (y : List D) : zipD y [] = [] := by
  unfold zipD
  simp
theorem wFor_nil (f : D → Env → Kn → Prop) (env : Env) (k : Kn) : wFor f [] env k = k.nx env := rfl
theorem wFor_cons (f : D → Env → Kn → Prop) (d : D) (ds : List D) (env : Env) (k : Kn) : wFor f (d :: ds) env k = f d env ⟨fun env' => wFor f ds env' k, k.rt⟩ := rfl
theorem wLc_nil (f : D → (Option D → Prop) → Prop) (acc : List D) (Q : List D → Prop) : wLc f [] acc Q = Q acc := rfl
theorem wLc_cons (f : D → (Option D → Prop) → Prop) (d : D) (ds acc : List D) (Q : List D → Prop) : wLc f (d :: ds) acc Q = f d fun r => match r with
    | some x => wLc f ds (acc ++ [x]) Q
    | none => wLc f ds acc Q := rfl
theorem cok_ss (x y : List Nat) : D.cmpOk (.str x) (.str y) = true := rfl
theorem cok_ii (x y : Int) : D.cmpOk (.int x) (.int y) = true := rfl
theorem cok_bb (x y : Bool) : D.cmpOk (.bl x) (.bl y) = true := rfl
theorem cok_is (x : Int) (y : List Nat) : D.cmpOk (.int x) (.str y) = true := rfl
theorem cok_si (x : Int) (y : List Nat) : D.cmpOk (.str y) (.int x) = true := rfl
theorem all_flat {d : D} {ds : List D} (h : d.flat = true) : (d :: ds).all D.flat = ds.all D.flat := by rw [List.all_cons, h]; rfl
theorem iok (x : List Nat) (ys : List D) : D.inOk (.str x) ys = (ys.all D.flat || D.cmpbL 59 ys) := rfl
theorem iokI (x : Int) (ys : List D) : D.inOk (.int x) ys = (ys.all D.flat || D.cmpbL 59 ys) := rfl
theorem afl_s (x : List Nat) (ds : List D) : (D.str x :: ds).all D.flat = ds.all D.flat := rfl
theorem afl_i (x : Int) (ds : List D) : (D.int x :: ds).all D.flat = ds.all D.flat := rfl
theorem afl_n : ([] : List D).all D.flat = true := rfl
theorem bcc (a b : Nat) (x y : List Nat) : ((a :: x) == (b :: y)) = ((a == b) && (x == y)) := rfl
theorem bnc (b : Nat) (y : List Nat) : (([] : List Nat) == (b :: y)) = false := rfl
theorem bcn (b : Nat) (y : List Nat) : ((b :: y) == ([] : List Nat)) = false := rfl
theorem bnn : (([] : List Nat) == []) = true := rfl
theorem rangeD_get {lo hi : Int} {i : Nat} {x : D} (h : (rangeD lo hi)[i]? = some x) : x = .int (lo + (i : Int)) ∧ (i : Int) < hi - lo := by
  have hl := (List.getElem?_eq_some_iff.mp h).1
  rw [rangeD_len] at hl
  unfold rangeD at h
  rw [List.getElem?_map, List.getElem?_range hl] at h
  cases h
  exact ⟨rfl, by omega⟩
theorem rangeD_mem {lo hi : Int} {x : D} (h : x ∈ rangeD lo hi) : ∃ i : Int, x = .int i ∧ lo ≤ i ∧ i < hi := by
  obtain ⟨i, hi⟩ := List.getElem?_of_mem h
  obtain ⟨e, hl⟩ := rangeD_get hi
  exact ⟨lo + (i : Int), e, by omega, by omega⟩
theorem atI_last {α : Type} {xs : List α} (h : xs ≠ []) : atI xs (-1) = some (xs.getLast h) := by
  have hl : 0 < xs.length := List.length_pos_iff.mpr h
  have e : ixN xs.length (-1) = some (xs.length - 1) := by
    unfold ixN
    rw [if_neg (by decide), if_pos (by omega)]
    congr 1
    omega
  unfold atI
  rw [e]
  show xs[xs.length - 1]? = _
  rw [List.getElem?_eq_getElem (by omega), List.getLast_eq_getElem]
theorem ctm1 {α : Type} (x : List α) : cut x none (some (-1)) = x.dropLast := by
  unfold cut
  rw [HT.sIx_none, List.drop_zero, Nat.sub_zero, List.dropLast_eq_take]
  congr 1
  show (if (-1 : Int) < 0 then ((-1 : Int) + (x.length : Int)).toNat else min (-1 : Int).toNat x.length) = _
  rw [if_pos (by decide)]
  omega
theorem cut_ft {α : Type} (x : List α) (i j : Nat) : cut x (some (i : Int)) (some (j : Int)) = (x.drop i).take (j - i) := by
  unfold cut
  rw [HT.sIx_nat, HT.sIx_nat]
  by_cases h : i ≤ x.length
  · rw [Nat.min_eq_left h]
    by_cases h2 : j ≤ x.length
    · rw [Nat.min_eq_left h2]
    · rw [Nat.min_eq_right (by omega), List.take_of_length_le (by rw [List.length_drop]; omega), List.take_of_length_le (by rw [List.length_drop]; omega)]
  · rw [show min i x.length = x.length by omega, List.drop_of_length_le (Nat.le_refl _), List.drop_of_length_le (show x.length ≤ i by omega), List.take_nil, List.take_nil]
theorem nodup_len {α : Type} [DecidableEq α] : ∀ (l m : List α), l.Nodup → (∀ x ∈ l, x ∈ m) → l.length ≤ m.length
  | [], _, _, _ => Nat.zero_le _
  | x :: l, m, hn, h => by
    rw [List.nodup_cons] at hn
    have hx := h x List.mem_cons_self
    have ih := nodup_len l (m.erase x) hn.2 fun y hy => (List.mem_erase_of_ne (fun e => hn.1 (by rw [← e]; exact hy))).mpr (h y (List.mem_cons_of_mem _ hy))
    rw [List.length_erase_of_mem hx] at ih
    have := List.length_pos_of_mem hx
    rw [List.length_cons]
    omega
theorem any_str {x : List Nat} : ∀ {l : List (List Nat)}, (l.map D.str).any (D.eqv · (.str x)) = l.contains x
  | [] => rfl
  | a :: l => by
    rw [List.map_cons, List.any_cons, any_str, List.contains_cons, ev_str]
    congr 1
    exact Bool.beq_comm
theorem iok_map (x : List Nat) (l : List (List Nat)) : D.inOk (.str x) (l.map D.str) = true := by
  have : (l.map D.str).all D.flat = true := by
    rw [List.all_eq_true]
    intro d hd
    obtain ⟨y, _, rfl⟩ := List.mem_map.mp hd
    rfl
  unfold D.inOk
  rw [this]
  rfl
theorem cmpb_strs (n : Nat) (l : List (List Nat)) : D.cmpb (n + 1) (.lst (l.map D.str)) = true := by
  rw [cmpb_lst]
  exact cmpbL_flat n fun d hd => by
    obtain ⟨y, _, rfl⟩ := List.mem_map.mp hd
    rfl
theorem cmpb_strsT (n : Nat) (l : List (List Nat)) : D.cmpb (n + 1) (.tup (l.map D.str)) = true := by
  rw [cmpb_tup]
  exact cmpbL_flat n fun d hd => by
    obtain ⟨y, _, rfl⟩ := List.mem_map.mp hd
    rfl
theorem aA {α β : Type} {f : α → β} {a : α} {l : List α} : (a :: l).map f = f a :: l.map f := rfl
theorem aB {α β : Type} {f : α → β} : ([] : List α).map f = [] := rfl
theorem aD {α : Type} {l : List α} {a b : α} : (a :: l).set 0 b = b :: l := rfl
theorem aE {α : Type} {l : List α} {n : Nat} {a b : α} : (a :: l).set (n + 1) b = a :: l.set n b := rfl
theorem aF {α : Type} {a : α} {x y : List α} : (a :: x) ++ y = a :: (x ++ y) := rfl
theorem aG {α : Type} (x : List α) : [] ++ x = x := rfl
theorem aH {α : Type} {a : α} {x : List α} : (a :: x).length = x.length + 1 := rfl
theorem aI {α : Type} : ([] : List α).length = 0 := rfl
theorem aJ {α : Type} {p : α → Bool} {a : α} {x : List α} : (a :: x).any p = (p a || x.any p) := rfl
theorem aK {α : Type} {p : α → Bool} : ([] : List α).any p = false := rfl
theorem aL (b : Bool) : (b && true) = b := Bool.and_true b
theorem aM (b : Bool) : (true && b) = b := rfl
theorem aN (b : Bool) : (false && b) = false := rfl
theorem aO (b : Bool) : (b && false) = false := Bool.and_false b
theorem aP (b : Bool) : (b || false) = b := Bool.or_false b
theorem aQ (b : Bool) : (b || true) = true := Bool.or_true b
theorem aR (b : Bool) : (true || b) = true := rfl
theorem aS (b : Bool) : (false || b) = b := rfl
theorem aT : (!true) = false := rfl
theorem aU : (!false) = true := rfl
theorem aV : (false = true) = False := by simp
end LC

namespace LC
open PySem L2
theorem wLc_ix {f : D → (Option D → Prop) → Prop} {P : Nat → D → Prop} {Q : List D → Prop} : ∀ (ds acc : List D), (∀ i d, ds[i]? = some d → ∀ k : Option D → Prop, (∀ x, P (acc.length + i) x → k (some x)) → f d k) → (∀ i x, acc[i]? = some x → P i x) → (∀ l : List D, l.length = acc.length + ds.length → (∀ i x, l[i]? = some x → P i x) → Q l) → wLc f ds acc Q
  | [], acc, _, ha, q => q acc rfl ha
  | d :: ds, acc, h, ha, q => by
    refine h 0 d rfl _ fun x hx => ?_
    refine wLc_ix ds (acc ++ [x]) (fun i e he k hk => h (i + 1) e he k fun y hy => hk y ?_) (fun i y hy => ?_) fun l hl hp => q l ?_ hp
    · rw [List.length_append, List.length_singleton, Nat.add_assoc, Nat.add_comm 1 i]
      exact hy
    · rw [List.getElem?_append] at hy
      split at hy
      · exact ha i y hy
      · rename_i hn
        have hi : i - acc.length = 0 := by
          cases e : i - acc.length with
          | zero => rfl
          | succ n => rw [e] at hy; cases hy
        rw [hi] at hy
        cases hy
        have : i = acc.length + 0 := by omega
        rw [this]
        exact hx
    · rw [hl, List.length_append, List.length_singleton, List.length_cons]
      omega
theorem texts_ix {R : Nat → List Nat → Prop} {l : List D} (h : ∀ i x, l[i]? = some x → ∃ t, x = .str t ∧ R i t) : ∃ ts : List (List Nat), l = ts.map D.str ∧ ∀ i t, ts[i]? = some t → R i t := by
  obtain ⟨ts, e, _⟩ := texts_of (R := fun _ => True) (ds := l) fun d hd => by
    obtain ⟨i, hi⟩ := List.mem_iff_getElem?.mp hd
    obtain ⟨t, e, _⟩ := h i d hi
    exact ⟨t, e, trivial⟩
  refine ⟨ts, e, fun i t ht => ?_⟩
  obtain ⟨t', e', hr⟩ := h i (.str t) (by rw [e, List.getElem?_map, ht]; rfl)
  cases e'
  exact hr
theorem nodup_ix {α : Type} {l : List α} (h : ∀ (i j : Nat) (a : α), i < j → l[i]? = some a → l[j]? = some a → False) : l.Nodup := by
  unfold List.Nodup
  rw [List.pairwise_iff_getElem]
  intro i j hi hj hij e
  refine h i j l[i] hij (List.getElem?_eq_getElem hi) ?_
  rw [e]
  exact List.getElem?_eq_getElem hj
theorem wFor_chk {α : Type} {f : D → Env → Kn → Prop} {u : α → D} {p : α → Bool} (I : Env → Prop) : ∀ (l : List α) (env : Env) (k : Kn), I env →
    (∀ x ∈ l, ∀ env, I env → ∀ k : Kn, (p x = true → ∀ env', I env' → k.nx env') → (p x = false → k.rt (.bl false)) → f (u x) env k) →
    (l.all p = true → ∀ env, I env → k.nx env) → (l.all p = false → k.rt (.bl false)) → wFor f (l.map u) env k
  | [], env, k, hI, _, hT, _ => hT rfl env hI
  | x :: l, env, k, hI, h, hT, hF => by
    refine h x List.mem_cons_self env hI _ (fun hp env' hI' => ?_) (fun hp => hF ?_)
    · refine wFor_chk I l env' k hI' (fun y hy => h y (List.mem_cons_of_mem _ hy)) (fun ha => hT ?_) (fun ha => hF ?_)
      · rw [List.all_cons, hp, ha]; rfl
      · rw [List.all_cons, hp, ha]; rfl
    · rw [List.all_cons, hp]; rfl
abbrev cSame : List Nat := [115, 97, 109, 101]
abbrev cLeast : List Nat := [108, 101, 97, 115, 116]
abbrev cFalse : List Nat := [102, 97, 108, 115, 101]
abbrev cDoes : List Nat := [100, 111, 101, 115]
abbrev cIs : List Nat := [105, 115]
abbrev cNot : List Nat := [110, 111, 116]
abbrev cAnd : List Nat := [97, 110, 100]
abbrev cOr : List Nat := [111, 114]
abbrev cIf : List Nat := [105, 102]
abbrev cEvery : List Nat := [101, 118, 101, 114, 121]
abbrev cSome : List Nat := [115, 111, 109, 101]
inductive Tw where | and | or | if
  deriving DecidableEq
inductive Bd where | every | some
  deriving DecidableEq
def Tw.s : Tw → List Nat
  | .and => cAnd
  | .or => cOr
  | .if => cIf
def Bd.s : Bd → List Nat
  | .every => cEvery
  | .some => cSome
structure Su where
  ps : List (List Nat × Int)
  n : Int
  deriving DecidableEq
def Su.d (s : Su) : D := .tup [.tup (s.ps.map fun p => .tup [.str p.1, .int p.2]), .int s.n]
inductive Fm where
  | is (t k : List Nat)
  | does (d t u : List Nat)
  | same (t u : List Nat)
  | least (a b : Su)
  | fls
  | not (f : Fm)
  | two (w : Tw) (f g : Fm)
  | bind (w : Bd) (x : List Nat) (f : Fm)
  deriving DecidableEq
def Fm.d : Fm → D
  | .is t k => .tup [.str cIs, .str t, .str k]
  | .does d t u => .tup [.str cDoes, .str d, .str t, .str u]
  | .same t u => .tup [.str cSame, .str t, .str u]
  | .least a b => .tup [.str cLeast, a.d, b.d]
  | .fls => .tup [.str cFalse]
  | .not f => .tup [.str cNot, f.d]
  | .two w f g => .tup [.str w.s, f.d, g.d]
  | .bind w x f => .tup [.str w.s, .str x, f.d]
def Fm.dp : Fm → Nat
  | .not f => f.dp + 1
  | .two _ f g => max f.dp g.dp + 1
  | .bind _ _ f => f.dp + 1
  | _ => 0
def Fm.sz : Fm → Nat
  | .not f => f.sz + 1
  | .two _ f g => f.sz + g.sz + 1
  | .bind _ _ f => f.sz + 1
  | _ => 1
theorem Fm.sz_le : ∀ f : Fm, f.sz < 2 ^ (f.dp + 1)
  | .is _ _ | .does _ _ _ | .same _ _ | .least _ _ | .fls => by simp [Fm.sz, Fm.dp]
  | .not f => by
    have := f.sz_le
    have e : 2 ^ (f.dp + 1 + 1) = 2 ^ (f.dp + 1) * 2 := Nat.pow_succ ..
    show f.sz + 1 < 2 ^ (f.dp + 1 + 1)
    omega
  | .bind _ _ f => by
    have := f.sz_le
    have e : 2 ^ (f.dp + 1 + 1) = 2 ^ (f.dp + 1) * 2 := Nat.pow_succ ..
    show f.sz + 1 < 2 ^ (f.dp + 1 + 1)
    omega
  | .two _ f g => by
    have h1 := f.sz_le
    have h2 := g.sz_le
    have e1 : 2 ^ (f.dp + 1) ≤ 2 ^ (max f.dp g.dp + 1) := Nat.pow_le_pow_right (by decide) (by omega)
    have e2 : 2 ^ (g.dp + 1) ≤ 2 ^ (max f.dp g.dp + 1) := Nat.pow_le_pow_right (by decide) (by omega)
    have e : 2 ^ (max f.dp g.dp + 1 + 1) = 2 ^ (max f.dp g.dp + 1) * 2 := Nat.pow_succ ..
    show f.sz + g.sz + 1 < 2 ^ (max f.dp g.dp + 1 + 1)
    omega
theorem Tw.s_ne (w v : Tw) : (w.s == v.s) = decide (w = v) := by cases w <;> cases v <;> rfl
theorem Bd.s_ne (w v : Bd) : (w.s == v.s) = decide (w = v) := by cases w <;> cases v <;> rfl
theorem Tw.s_bd (w : Tw) (v : Bd) : (w.s == v.s) = false := by cases w <;> cases v <;> rfl
theorem Bd.s_tw (w : Tw) (v : Bd) : (v.s == w.s) = false := by cases w <;> cases v <;> rfl
theorem Su.eqp : ∀ a b : List (List Nat × Int), D.eqvL (a.map fun p => .tup [.str p.1, .int p.2]) (b.map fun p => .tup [.str p.1, .int p.2]) = decide (a = b)
  | [], [] => by simp [evL_nil]
  | [], _ :: _ => by simp [evL_nc]
  | _ :: _, [] => by simp [evL_cn]
  | (x, i) :: a, (y, j) :: b => by
    rw [List.map_cons, List.map_cons, evL_cons, Su.eqp a b, ev_tup, evL_cons, evL_cons, evL_nil, ev_str, ev_int, Bool.and_true, Bool.eq_iff_iff]
    simp
theorem Su.eq (a b : Su) : D.eqv a.d b.d = decide (a = b) := by
  unfold Su.d
  rw [ev_tup, evL_cons, evL_cons, evL_nil, ev_tup, Su.eqp, ev_int, Bool.and_true, Bool.eq_iff_iff]
  cases a; cases b
  simp
theorem hd_ne {x y : List Nat} {r s : List D} (h : (x == y) = false) : D.eqv (.tup (.str x :: r)) (.tup (.str y :: s)) = false := by
  rw [ev_tup, evL_cons, ev_str, h, Bool.false_and]
theorem bd_ne {w : Bd} {x : List Nat} (h : x ∈ [cIs, cDoes, cSame, cLeast, cFalse, cNot, cAnd, cOr, cIf]) : (w.s == x) = false ∧ (x == w.s) = false := by
  simp only [List.mem_cons, List.not_mem_nil, or_false] at h
  rcases h with rfl | rfl | rfl | rfl | rfl | rfl | rfl | rfl | rfl <;> cases w <;> exact ⟨rfl, rfl⟩
theorem tw_ne {w : Tw} {x : List Nat} (h : x ∈ [cIs, cDoes, cSame, cLeast, cFalse, cNot, cEvery, cSome]) : (w.s == x) = false ∧ (x == w.s) = false := by
  simp only [List.mem_cons, List.not_mem_nil, or_false] at h
  rcases h with rfl | rfl | rfl | rfl | rfl | rfl | rfl | rfl <;> cases w <;> exact ⟨rfl, rfl⟩
def Fm.hd : Fm → List Nat
  | .is _ _ => cIs
  | .does _ _ _ => cDoes
  | .same _ _ => cSame
  | .least _ _ => cLeast
  | .fls => cFalse
  | .not _ => cNot
  | .two w _ _ => w.s
  | .bind w _ _ => w.s
theorem Fm.d_hd (f : Fm) : ∃ r, f.d = .tup (.str f.hd :: r) := by cases f <;> exact ⟨_, rfl⟩
theorem Fm.ne {f g : Fm} (h : (f.hd == g.hd) = false) : D.eqv f.d g.d = decide (f = g) := by
  obtain ⟨r, e⟩ := f.d_hd
  obtain ⟨s, e'⟩ := g.d_hd
  rw [e, e', ev_tup, evL_cons, ev_str, h, Bool.false_and]
  refine (decide_eq_false fun z => ?_).symm
  rw [z, beq_self_eq_true] at h
  cases h
theorem Fm.eq : ∀ f g : Fm, D.eqv f.d g.d = decide (f = g)
  | .is _ _, .is _ _ => by rw [Bool.eq_iff_iff]; simp [Fm.d, ev_tup, evL_cons, evL_nil, ev_str]
  | .does _ _ _, .does _ _ _ => by rw [Bool.eq_iff_iff]; simp [Fm.d, ev_tup, evL_cons, evL_nil, ev_str]
  | .same _ _, .same _ _ => by rw [Bool.eq_iff_iff]; simp [Fm.d, ev_tup, evL_cons, evL_nil, ev_str]
  | .least _ _, .least _ _ => by rw [Bool.eq_iff_iff]; simp [Fm.d, ev_tup, evL_cons, evL_nil, ev_str, Su.eq]
  | .fls, .fls => by simp [Fm.d, ev_tup, evL_cons, evL_nil, ev_str]
  | .not f, .not g => by rw [Bool.eq_iff_iff]; simp [Fm.d, ev_tup, evL_cons, evL_nil, ev_str, Fm.eq f g]
  | .two w f g, .two w' f' g' => by rw [Bool.eq_iff_iff]; simp [Fm.d, ev_tup, evL_cons, evL_nil, ev_str, Tw.s_ne, Fm.eq f f', Fm.eq g g']
  | .bind w x f, .bind w' x' f' => by rw [Bool.eq_iff_iff]; simp [Fm.d, ev_tup, evL_cons, evL_nil, ev_str, Bd.s_ne, Fm.eq f f']
  | .two w _ _, .bind w' _ _ => Fm.ne (Tw.s_bd w w')
  | .bind w' _ _, .two w _ _ => Fm.ne (Bd.s_tw w w')
  | .two w _ _, .is _ _ => Fm.ne (by cases w <;> rfl)
  | .two w _ _, .does _ _ _ => Fm.ne (by cases w <;> rfl)
  | .two w _ _, .same _ _ => Fm.ne (by cases w <;> rfl)
  | .two w _ _, .least _ _ => Fm.ne (by cases w <;> rfl)
  | .two w _ _, .fls => Fm.ne (by cases w <;> rfl)
  | .two w _ _, .not _ => Fm.ne (by cases w <;> rfl)
  | .bind w _ _, .is _ _ => Fm.ne (by cases w <;> rfl)
  | .bind w _ _, .does _ _ _ => Fm.ne (by cases w <;> rfl)
  | .bind w _ _, .same _ _ => Fm.ne (by cases w <;> rfl)
  | .bind w _ _, .least _ _ => Fm.ne (by cases w <;> rfl)
  | .bind w _ _, .fls => Fm.ne (by cases w <;> rfl)
  | .bind w _ _, .not _ => Fm.ne (by cases w <;> rfl)
  | .is _ _, .two w _ _ => Fm.ne (by cases w <;> rfl)
  | .does _ _ _, .two w _ _ => Fm.ne (by cases w <;> rfl)
  | .same _ _, .two w _ _ => Fm.ne (by cases w <;> rfl)
  | .least _ _, .two w _ _ => Fm.ne (by cases w <;> rfl)
  | .fls, .two w _ _ => Fm.ne (by cases w <;> rfl)
  | .not _, .two w _ _ => Fm.ne (by cases w <;> rfl)
  | .is _ _, .bind w _ _ => Fm.ne (by cases w <;> rfl)
  | .does _ _ _, .bind w _ _ => Fm.ne (by cases w <;> rfl)
  | .same _ _, .bind w _ _ => Fm.ne (by cases w <;> rfl)
  | .least _ _, .bind w _ _ => Fm.ne (by cases w <;> rfl)
  | .fls, .bind w _ _ => Fm.ne (by cases w <;> rfl)
  | .not _, .bind w _ _ => Fm.ne (by cases w <;> rfl)
  | .is _ _, .does _ _ _ | .is _ _, .same _ _ | .is _ _, .least _ _ | .is _ _, .fls | .is _ _, .not _ => Fm.ne rfl
  | .does _ _ _, .is _ _ | .does _ _ _, .same _ _ | .does _ _ _, .least _ _ | .does _ _ _, .fls | .does _ _ _, .not _ => Fm.ne rfl
  | .same _ _, .is _ _ | .same _ _, .does _ _ _ | .same _ _, .least _ _ | .same _ _, .fls | .same _ _, .not _ => Fm.ne rfl
  | .least _ _, .is _ _ | .least _ _, .does _ _ _ | .least _ _, .same _ _ | .least _ _, .fls | .least _ _, .not _ => Fm.ne rfl
  | .fls, .is _ _ | .fls, .does _ _ _ | .fls, .same _ _ | .fls, .least _ _ | .fls, .not _ => Fm.ne rfl
  | .not _, .is _ _ | .not _, .does _ _ _ | .not _, .same _ _ | .not _, .least _ _ | .not _, .fls => Fm.ne rfl
theorem Su.cm (a : Su) (n : Nat) : D.cmpb (n + 3) a.d = true := by
  unfold Su.d
  simp only [cmpb_tup, cmpbL_cons, cmpbL_nil, cmpb_int, Bool.and_true]
  refine cmpbL_all fun p hp' => ?_
  obtain ⟨q, _, rfl⟩ := List.mem_map.mp hp'
  simp only [cmpb_tup, cmpbL_cons, cmpbL_nil, cmpb_int, cmpb_str, Bool.and_true]
theorem Fm.cm : ∀ (f : Fm) (n : Nat), f.dp + 4 ≤ n → D.cmpb n f.d = true
  | f, 0, h => absurd h (by omega)
  | .is _ _, n + 1, h => by simp only [Fm.d, cmpb_tup, cmpbL_cons, cmpbL_nil, cmpb_str, Bool.and_true]
  | .does _ _ _, n + 1, h => by simp only [Fm.d, cmpb_tup, cmpbL_cons, cmpbL_nil, cmpb_str, Bool.and_true]
  | .same _ _, n + 1, h => by simp only [Fm.d, cmpb_tup, cmpbL_cons, cmpbL_nil, cmpb_str, Bool.and_true]
  | .least a b, n + 1, h => by
    have h' : 4 ≤ n + 1 := by unfold Fm.dp at h; omega
    obtain ⟨m, rfl⟩ : ∃ m, n = m + 3 := ⟨n - 3, by omega⟩
    simp only [Fm.d, cmpb_tup, cmpbL_cons, cmpbL_nil, cmpb_str, Bool.and_true, Su.cm]
  | .fls, n + 1, h => by simp only [Fm.d, cmpb_tup, cmpbL_cons, cmpbL_nil, cmpb_str, Bool.and_true]
  | .not f, n + 1, h => by
    have h' : f.dp + 1 + 4 ≤ n + 1 := h
    simp only [Fm.d, cmpb_tup, cmpbL_cons, cmpbL_nil, cmpb_str, Bool.and_true, Fm.cm f n (by omega)]
  | .bind _ _ f, n + 1, h => by
    have h' : f.dp + 1 + 4 ≤ n + 1 := h
    simp only [Fm.d, cmpb_tup, cmpbL_cons, cmpbL_nil, cmpb_str, Bool.and_true, Fm.cm f n (by omega)]
  | .two _ f g, n + 1, h => by
    have h' : max f.dp g.dp + 1 + 4 ≤ n + 1 := h
    simp only [Fm.d, cmpb_tup, cmpbL_cons, cmpbL_nil, cmpb_str, Bool.and_true, Fm.cm f n (by omega), Fm.cm g n (by omega)]
theorem Fm.cok {f g : Fm} (h1 : f.dp ≤ 56) (h2 : g.dp ≤ 56) : D.cmpOk f.d g.d = true := cmpOk_60 (f.cm 60 (by omega)) (g.cm 60 (by omega))
def Fm.subs : Fm → List Fm
  | .not f => [f]
  | .two _ f g => [f, g]
  | .bind _ _ f => [f]
  | _ => []
def Fm.parts : Fm → List Fm
  | .not f => .not f :: f.parts
  | .two w f g => .two w f g :: (f.parts ++ g.parts)
  | .bind w x f => .bind w x f :: f.parts
  | f => [f]
theorem Fm.parts_len : ∀ f : Fm, f.parts.length = f.sz
  | .is _ _ | .does _ _ _ | .same _ _ | .least _ _ | .fls => rfl
  | .not f => by simp [Fm.parts, Fm.sz, f.parts_len]
  | .bind _ _ f => by simp [Fm.parts, Fm.sz, f.parts_len]
  | .two _ f g => by simp [Fm.parts, Fm.sz, f.parts_len, g.parts_len]
def Fm.tms : Fm → List (List Nat)
  | .is t _ => [t]
  | .does _ t u => [t, u]
  | .same t u => [t, u]
  | _ => []
def Su.kds (s : Su) : List (List Nat) := s.ps.map (·.1)
def Fm.kds : Fm → List (List Nat)
  | .is _ k => [k]
  | .least a b => a.kds ++ b.kds
  | _ => []
def Fm.dos : Fm → List (List Nat)
  | .does d _ _ => [d]
  | _ => []
def putT (t x n : List Nat) : List Nat := if t == x then n else t
def Fm.put (x n : List Nat) : Fm → Fm
  | .is t k => .is (putT t x n) k
  | .does d t u => .does d (putT t x n) (putT u x n)
  | .same t u => .same (putT t x n) (putT u x n)
  | .not f => .not (f.put x n)
  | .two w f g => .two w (f.put x n) (g.put x n)
  | .bind w y f => if y == x then .bind w y f else .bind w y (f.put x n)
  | f => f
theorem Fm.put_dp (x n : List Nat) : ∀ f : Fm, (f.put x n).dp = f.dp
  | .is _ _ | .does _ _ _ | .same _ _ | .least _ _ | .fls => rfl
  | .not f => by simp [Fm.put, Fm.dp, f.put_dp x n]
  | .two _ f g => by simp [Fm.put, Fm.dp, f.put_dp x n, g.put_dp x n]
  | .bind _ y f => by
    unfold Fm.put
    split
    · rfl
    · simp [Fm.dp, f.put_dp x n]
end LC

namespace LC
open PySem L2
theorem risingN : ∀ (p : List Nat) (l : List (List Nat)), PyProof.Rows.risingS (mkS p) (l.map mkS) = true → (p :: l).Pairwise fun a b => ¬ b < a
  | p, [], _ => List.pairwise_singleton _ _
  | p, x :: r, h => by
    have h' : (!PySem.Spec.ltCps (mkS x).cps.toList (mkS p).cps.toList && PyProof.Rows.risingS (mkS x) (r.map mkS)) = true := h
    rw [Bool.and_eq_true, PyProof.Rows.ltCps_eq, mkS_list, mkS_list, Bool.not_eq_true', decide_eq_false_iff_not] at h'
    have ih := risingN x r h'.2
    refine List.pairwise_cons.mpr ⟨fun y hy => ?_, ih⟩
    rcases List.mem_cons.mp hy with rfl | hy
    · exact h'.1
    · have h1 := (List.pairwise_cons.mp ih).1 y hy
      intro hlt
      exact h'.1 (Std.lt_of_le_of_lt (a := x) (b := y) (c := p) (Std.not_lt.mp h1) hlt)
abbrev SW (l : List (List Nat)) : Prop := l.Pairwise (· < ·)
theorem sw_of {l : List (List Nat)} (h : sortedN l = true) (nd : l.Nodup) : SW l := by
  cases l with
  | nil => exact .nil
  | cons p l =>
    have h1 := risingN p l h
    refine List.Pairwise.imp₂ (fun a b h1 h2 => ?_) h1 nd
    exact Std.lt_of_le_of_ne (Std.not_lt.mp h1) h2
theorem sw_irr (x : List Nat) : ¬ x < x := Std.lt_irrefl
theorem sw_nd {l : List (List Nat)} (h : SW l) : l.Nodup := by
  unfold List.Nodup
  refine List.Pairwise.imp (fun {a b} hab => ?_) h
  intro e
  rw [e] at hab
  exact sw_irr b hab
theorem sw_uniq : ∀ {l m : List (List Nat)}, SW l → SW m → (∀ x, x ∈ l ↔ x ∈ m) → l = m
  | [], [], _, _, _ => rfl
  | [], y :: m, _, _, h => nomatch (h y).mpr List.mem_cons_self
  | x :: l, [], _, _, h => nomatch (h x).mp List.mem_cons_self
  | x :: l, y :: m, hl, hm, h => by
    have h1 := List.pairwise_cons.mp hl
    have h2 := List.pairwise_cons.mp hm
    have e : x = y := by
      rcases List.mem_cons.mp ((h x).mp List.mem_cons_self) with e | hx
      · exact e
      · rcases List.mem_cons.mp ((h y).mpr List.mem_cons_self) with e | hy
        · exact e.symm
        · exact (sw_irr x (Std.lt_trans (h1.1 y hy) (h2.1 x hx))).elim
    subst e
    rw [sw_uniq h1.2 h2.2 fun z => ?_]
    constructor
    · intro hz
      rcases List.mem_cons.mp ((h z).mp (List.mem_cons_of_mem _ hz)) with e | hz'
      · exact (sw_irr x (e ▸ h1.1 z hz)).elim
      · exact hz'
    · intro hz
      rcases List.mem_cons.mp ((h z).mpr (List.mem_cons_of_mem _ hz)) with e | hz'
      · exact (sw_irr x (e ▸ h2.1 z hz)).elim
      · exact hz'
def KV (ks : List (List Nat)) : List (Key × D) := ks.map fun x => ((.inr (mkS x) : Key), D.bl true)
def insW (ks : List (List Nat)) (x : List Nat) : List (List Nat) := if ks.contains x then ks else ks ++ [x]
theorem kv_any (ks : List (List Nat)) (x : List Nat) : ((KV ks).any fun kv => decide (kv.1 = (.inr (mkS x) : Key))) = ks.contains x := by
  induction ks with
  | nil => rfl
  | cons y ks ih =>
    have e : decide ((.inr (mkS y) : Key) = .inr (mkS x)) = (x == y) := by
      rw [Bool.eq_iff_iff, decide_eq_true_eq, beq_iff_eq]
      exact ⟨fun h => (mkS_inj (Sum.inr.inj h)).symm, fun h => by rw [h]⟩
    show (decide ((.inr (mkS y) : Key) = .inr (mkS x)) || (KV ks).any _) = _
    rw [ih, e, List.contains_cons]
theorem kput_kv (ks : List (List Nat)) (x : List Nat) : kput (KV ks) (.inr (mkS x)) (.bl true) = KV (insW ks x) := by
  unfold kput insW
  rw [kv_any]
  cases hc : ks.contains x with
  | false =>
    simp only [Bool.false_eq_true, if_false]
    unfold KV
    rw [List.map_append]
    rfl
  | true =>
    simp only [if_true]
    unfold KV
    rw [List.map_map]
    refine List.map_congr_left fun y _ => ?_
    show (if (.inr (mkS y) : Key) = .inr (mkS x) then ((.inr (mkS y) : Key), D.bl true) else (.inr (mkS y), .bl true)) = _
    rw [ite_self]
theorem ins_mem (ks : List (List Nat)) (x y : List Nat) : y ∈ insW ks x ↔ y ∈ ks ∨ y = x := by
  unfold insW
  split
  · rename_i h
    rw [List.contains_iff_mem] at h
    exact ⟨.inl, fun z => z.elim id fun e => e ▸ h⟩
  · rw [List.mem_append, List.mem_singleton]
theorem ins_nd {ks : List (List Nat)} (h : ks.Nodup) (x : List Nat) : (insW ks x).Nodup := by
  unfold insW
  split
  · exact h
  · rename_i hc
    rw [List.contains_iff_mem] at hc
    rw [List.nodup_append]
    refine ⟨h, List.pairwise_singleton _ _, fun a ha b hb e => hc ?_⟩
    rw [← List.mem_singleton.mp hb, ← e]
    exact ha
theorem upd_kv : ∀ (ms ks : List (List Nat)), ks.Nodup → ∃ r, (KV ms).foldl (fun acc kv => kput acc kv.1 kv.2) (KV ks) = KV r ∧ r.Nodup ∧ ∀ x, x ∈ r ↔ x ∈ ks ∨ x ∈ ms
  | [], ks, h => ⟨ks, rfl, h, fun x => by simp⟩
  | m :: ms, ks, h => by
    obtain ⟨r, e, nd, hm⟩ := upd_kv ms (insW ks m) (ins_nd h m)
    refine ⟨r, ?_, nd, fun x => ?_⟩
    · show (KV ms).foldl _ (kput (KV ks) (.inr (mkS m)) (.bl true)) = _
      rw [kput_kv]
      exact e
    · rw [hm, ins_mem, List.mem_cons]
      constructor
      · rintro ((h | h) | h)
        · exact .inl h
        · exact .inr (.inl h)
        · exact .inr (.inr h)
      · rintro (h | h | h)
        · exact .inl (.inl h)
        · exact .inl (.inr h)
        · exact .inr h
theorem kv_keys (ks : List (List Nat)) : (KV ks).map (fun p => keyD p.1) = ks.map D.str := by
  unfold KV
  rw [List.map_map]
  refine List.map_congr_left fun x _ => ?_
  show D.str (mkS x).cps.toList = _
  rw [mkS_list]
theorem kv_len (ks : List (List Nat)) : (KV ks).length = ks.length := List.length_map _
end LC

namespace LC
open PySem L2
def KD (ks : List (List Nat)) (f : List Nat → D) : List (Key × D) := ks.map fun x => ((.inr (mkS x) : Key), f x)
theorem key_eq (x y : List Nat) : decide ((.inr (mkS y) : Key) = .inr (mkS x)) = (x == y) := by
  rw [Bool.eq_iff_iff, decide_eq_true_eq, beq_iff_eq]
  exact ⟨fun h => (mkS_inj (Sum.inr.inj h)).symm, fun h => by rw [h]⟩
theorem kd_any (ks : List (List Nat)) (f : List Nat → D) (x : List Nat) : ((KD ks f).any fun kv => decide (kv.1 = (.inr (mkS x) : Key))) = ks.contains x := by
  induction ks with
  | nil => rfl
  | cons y ks ih =>
    show (decide ((.inr (mkS y) : Key) = .inr (mkS x)) || (KD ks f).any _) = _
    rw [ih, key_eq, List.contains_cons]
theorem kput_kd (ks : List (List Nat)) (f : List Nat → D) (x : List Nat) (d : D) : kput (KD ks f) (.inr (mkS x)) d = KD (insW ks x) (fun y => if y = x then d else f y) := by
  unfold kput insW
  rw [kd_any]
  cases hc : ks.contains x with
  | false =>
    have hx : x ∉ ks := fun z => by rw [← List.contains_iff_mem, hc] at z; cases z
    simp only [Bool.false_eq_true, if_false]
    unfold KD
    rw [List.map_append, List.map_cons, List.map_nil]
    simp only [if_true]
    congr 1
    refine List.map_congr_left fun y hy => ?_
    simp only [if_neg (show ¬ y = x from fun e => hx (e ▸ hy))]
  | true =>
    simp only [if_true]
    unfold KD
    rw [List.map_map]
    refine List.map_congr_left fun y _ => ?_
    show (if (.inr (mkS y) : Key) = .inr (mkS x) then ((.inr (mkS y) : Key), d) else (.inr (mkS y), f y)) = _
    by_cases h : y = x
    · rw [if_pos (by rw [h])]
      simp only [if_pos h]
    · rw [if_neg (fun z => h (mkS_inj (Sum.inr.inj z)))]
      simp only [if_neg h]
theorem kget_kd (ks : List (List Nat)) (f : List Nat → D) (x : List Nat) : kget (KD ks f) (.inr (mkS x)) = if ks.contains x = true then some (f x) else none := by
  unfold kget
  induction ks with
  | nil => rfl
  | cons y ks ih =>
    show (((((.inr (mkS y) : Key), f y) :: KD ks f).find? fun kv => decide (kv.1 = (.inr (mkS x) : Key))).map (·.2)) = _
    rw [List.find?_cons, List.contains_cons]
    simp only [key_eq]
    cases h : (x == y) with
    | true =>
      rw [beq_iff_eq] at h
      subst h
      rfl
    | false =>
      rw [Bool.false_or]
      exact ih
theorem kd_keys (ks : List (List Nat)) (f : List Nat → D) : (KD ks f).map (fun p => keyD p.1) = ks.map D.str := by
  unfold KD
  rw [List.map_map]
  refine List.map_congr_left fun x _ => ?_
  show D.str (mkS x).cps.toList = _
  rw [mkS_list]
theorem kd_len (ks : List (List Nat)) (f : List Nat → D) : (KD ks f).length = ks.length := List.length_map _
theorem kd_congr {ks : List (List Nat)} {f g : List Nat → D} (h : ∀ x ∈ ks, f x = g x) : KD ks f = KD ks g := by
  unfold KD
  exact List.map_congr_left fun x hx => by rw [h x hx]
theorem ins_len (ks : List (List Nat)) (x : List Nat) : (insW ks x).length ≤ ks.length + 1 := by
  unfold insW
  split
  · omega
  · rw [List.length_append]; exact Nat.le_refl _
theorem intsD_map : ∀ l : List Int, intsD (l.map D.int) = some l
  | [] => rfl
  | a :: r => by
    show (intsD (r.map D.int)).map (a :: ·) = _
    rw [intsD_map r]
    rfl
def cntL (l : List (List Nat × Int)) (x : List Nat) : Int := ((l.filter fun p => p.1 == x).map (·.2)).sum
theorem cntL_nil (x : List Nat) : cntL [] x = 0 := rfl
theorem cntL_cons (p : List Nat × Int) (l : List (List Nat × Int)) (x : List Nat) : cntL (p :: l) x = (if p.1 == x then p.2 else 0) + cntL l x := by
  unfold cntL
  rw [List.filter_cons]
  split
  · rw [List.map_cons, List.sum_cons]
  · rw [Int.zero_add]
theorem cntL_app : ∀ (l m : List (List Nat × Int)) (x : List Nat), cntL (l ++ m) x = cntL l x + cntL m x
  | [], m, x => by rw [List.nil_append, cntL_nil, Int.zero_add]
  | p :: l, m, x => by rw [List.cons_append, cntL_cons, cntL_cons, cntL_app l m x, Int.add_assoc]
theorem cntL_no {l : List (List Nat × Int)} {x : List Nat} (h : x ∉ l.map (·.1)) : cntL l x = 0 := by
  induction l with
  | nil => rfl
  | cons p l ih =>
    rw [List.map_cons, List.mem_cons, not_or] at h
    rw [cntL_cons, ih h.2, if_neg (by rw [beq_iff_eq]; exact fun e => h.1 e.symm)]
    rfl
theorem cntL_map {ks : List (List Nat)} (f : List Nat → Int) (nd : ks.Nodup) {x : List Nat} (h : x ∈ ks) : cntL (ks.map fun k => (k, f k)) x = f x := by
  induction ks with
  | nil => cases h
  | cons k ks ih =>
    rw [List.nodup_cons] at nd
    rw [List.map_cons, cntL_cons]
    rcases List.mem_cons.mp h with e | h
    · subst e
      rw [if_pos (beq_self_eq_true x), cntL_no, Int.add_zero]
      rw [List.map_map]
      intro z
      obtain ⟨y, hy, e⟩ := List.mem_map.mp z
      have e' : y = x := e
      exact nd.1 (e' ▸ hy)
    · rw [if_neg (by rw [beq_iff_eq]; exact fun (e : k = x) => nd.1 (e ▸ h)), Int.zero_add, ih nd.2 h]
theorem cntL_pos {l : List (List Nat × Int)} (hp : ∀ p ∈ l, 1 ≤ p.2) (x : List Nat) : 0 ≤ cntL l x ∧ (x ∈ l.map (·.1) → 1 ≤ cntL l x) := by
  induction l with
  | nil => exact ⟨Int.le_refl 0, fun z => nomatch z⟩
  | cons p l ih =>
    obtain ⟨h1, h2⟩ := ih fun q hq => hp q (List.mem_cons_of_mem _ hq)
    have h0 := hp p List.mem_cons_self
    rw [cntL_cons]
    by_cases e : p.1 = x
    · rw [if_pos (beq_iff_eq.mpr e)]
      exact ⟨by omega, fun _ => by omega⟩
    · rw [if_neg (by rw [beq_iff_eq]; exact e), Int.zero_add]
      refine ⟨h1, fun z => h2 ?_⟩
      rw [List.map_cons, List.mem_cons] at z
      exact z.resolve_left fun z => e z.symm
structure IsSum (ts : List Su) (r : Su) : Prop where
  sw : SW r.kds
  mem : ∀ x, x ∈ r.kds ↔ ∃ t ∈ ts, x ∈ t.kds
  ps : r.ps = r.kds.map fun k => (k, cntL (ts.map Su.ps).flatten k)
  n : r.n = (ts.map Su.n).sum
theorem su_ext {a b : Su} (h1 : a.ps = b.ps) (h2 : a.n = b.n) : a = b := by
  cases a; cases b
  cases h1; cases h2
  rfl
theorem IsSum.uniq {ts ts' : List Su} {r r' : Su} (h : IsSum ts r) (h' : IsSum ts' r') (hm : ∀ x, (∃ t ∈ ts, x ∈ t.kds) ↔ ∃ t ∈ ts', x ∈ t.kds) (hc : ∀ x, cntL (ts.map Su.ps).flatten x = cntL (ts'.map Su.ps).flatten x) (hn : (ts.map Su.n).sum = (ts'.map Su.n).sum) : r = r' := by
  have e : r.kds = r'.kds := sw_uniq h.sw h'.sw fun x => by rw [h.mem, h'.mem, hm]
  refine su_ext ?_ (by rw [h.n, h'.n, hn])
  rw [h.ps, h'.ps, e]
  exact List.map_congr_left fun k _ => by rw [hc]
theorem kds_flat (ts : List Su) (x : List Nat) : x ∈ (ts.map Su.ps).flatten.map (·.1) ↔ ∃ t ∈ ts, x ∈ t.kds := by
  unfold Su.kds
  constructor
  · intro h
    obtain ⟨p, hp, rfl⟩ := List.mem_map.mp h
    obtain ⟨l, hl, hpl⟩ := List.mem_flatten.mp hp
    obtain ⟨t, ht, rfl⟩ := List.mem_map.mp hl
    exact ⟨t, ht, List.mem_map.mpr ⟨p, hpl, rfl⟩⟩
  · intro ⟨t, ht, h⟩
    obtain ⟨p, hp, rfl⟩ := List.mem_map.mp h
    exact List.mem_map.mpr ⟨p, List.mem_flatten.mpr ⟨_, List.mem_map.mpr ⟨t, ht, rfl⟩, hp⟩, rfl⟩
theorem IsSum.cnt {ts : List Su} {r : Su} (h : IsSum ts r) (x : List Nat) : cntL r.ps x = cntL (ts.map Su.ps).flatten x := by
  by_cases hx : x ∈ r.kds
  · rw [h.ps, cntL_map _ (sw_nd h.sw) hx]
  · rw [cntL_no hx, cntL_no fun z => hx ((h.mem x).mpr ((kds_flat ts x).mp z))]
theorem IsSum.self {t : Su} (h : SW t.kds) : IsSum [t] t := by
  refine ⟨h, fun x => by simp, ?_, by simp⟩
  have e : (([t] : List Su).map Su.ps).flatten = t.ps := by simp
  rw [e]
  have nd := sw_nd h
  have gen : ∀ l : List (List Nat × Int), (l.map (·.1)).Nodup → l = (l.map (·.1)).map fun k => (k, cntL l k) := by
    intro l
    induction l with
    | nil => intro _; rfl
    | cons p l ih =>
      intro nd
      rw [List.map_cons, List.nodup_cons] at nd
      rw [List.map_cons, List.map_cons, cntL_cons, if_pos (beq_self_eq_true p.1), cntL_no nd.1, Int.add_zero]
      congr 1
      conv => lhs; rw [ih nd.2]
      refine List.map_congr_left fun k hk => ?_
      rw [cntL_cons, if_neg (by rw [beq_iff_eq]; exact fun e => nd.1 (e ▸ hk)), Int.zero_add]
  exact gen t.ps nd
section
variable {F : Nat → List D → (D → Prop) → Prop} {cg : Nat → D} (hF : ∀ j ds Q Q', (∀ d, Q d → Q' d) → F j ds Q → F j ds Q')
include hF
theorem whiles_go {c : E} {body : Ss} {K : Kn} (I : Nat → Env → Prop) (hs : ∀ m env, I m env → wE F cg c env (isB fun t => if t = true then (∃ m', m = m' + 1 ∧ wSs F cg body env ⟨I m', K.rt⟩) else K.nx env)) (m : Nat) (env : Env) (h0 : I m env) : wS F cg (.whiles c body) env K := by
  simp only [wS]
  refine ⟨m + 1, ?_⟩
  induction m generalizing env with
  | zero =>
    refine wE_mono hF c env _ _ (isB.mono fun t q => ?_) (hs 0 env h0)
    cases t
    · exact q
    · obtain ⟨m', e, _⟩ := q
      cases e
  | succ m ih =>
    refine wE_mono hF c env _ _ (isB.mono fun t q => ?_) (hs (m + 1) env h0)
    cases t
    · exact q
    · obtain ⟨m', e, w⟩ := q
      cases e
      refine wSs_mono hF body env ⟨I m, K.rt⟩ _ ⟨fun env' h => ?_, fun _ z => z⟩ w
      exact ih env' h
theorem ifs_go {c : E} {a b : Ss} {env : Env} {k : Kn} (P : Bool → Prop) (hc : wE F cg c env (isB P)) (ht : P true → wSs F cg a env k) (hf : P false → wSs F cg b env k) : wS F cg (.ifs c a b) env k := by
  simp only [wS]
  refine wE_mono hF c env _ _ (isB.mono fun t q => ?_) hc
  cases t
  · exact onF rfl (hf q)
  · exact onT rfl (ht q)
end
end LC

namespace LC
open PySem L2
def gd {α : Type} (c : Bool) (x : α) : Option α := if c = true then some x else none
theorem gd_some {α : Type} {c : Bool} {x a : α} (h : gd c x = some a) : c = true ∧ x = a := by
  unfold gd at h
  split at h
  · rename_i hc
    cases h
    exact ⟨hc, rfl⟩
  · cases h
theorem bd_some {α β : Type} {x : Option α} {f : α → Option β} {b : β} (h : x.bind f = some b) : ∃ a, x = some a ∧ f a = some b := by
  cases x with
  | none => cases h
  | some a => exact ⟨a, rfl, h⟩
def evOp (a : E) (w : Option T) (env : Env) : Option D := match a with
  | .var i => match slot env i with
    | some t => some t.d
    | _ => none
  | _ => match w with
    | some t => some t.d
    | none => none
theorem evOp_ok {a : E} {wv : Option T} {w : (T → Prop) → Prop} {env : Env} {d : D} {Q : D → Prop} (hw : ∀ t Q, wv = some t → Q t → w Q) (h : evOp a wv env = some d) (q : Q d) : wOp a w env Q := by
  unfold evOp at h
  unfold wOp
  cases a with
  | var i =>
    dsimp only at h ⊢
    cases e : slot env i with
    | none => rw [e] at h; cases h
    | some t => rw [e] at h; cases h; exact q
  | _ =>
    dsimp only at h ⊢
    cases wv with
    | none => cases h
    | some t => cases h; exact hw _ _ rfl q
def evBin : Bop → D → D → Option T
  | .add, .int a, .int b => some (.v (.int (a + b)))
  | .add, .str a, .str b => gd (decide (a.length + b.length ≤ 16777216)) (.v (.str (a ++ b)))
  | .add, .tup a, .tup b => gd (decide (a.length + b.length ≤ 16777216)) (.v (.tup (a ++ b)))
  | .add, .lst a, .lst b => gd (decide (a.length + b.length ≤ 16777216)) (.ol (a ++ b))
  | .sub, .int a, .int b => some (.v (.int (a - b)))
  | .mul, .int a, .int b => gd (decide ((-(2 ^ 64) < a ∧ a < 2 ^ 64) ∨ (-(2 ^ 64) < b ∧ b < 2 ^ 64))) (.v (.int (a * b)))
  | .mul, .lst a, .int b => gd (decide (0 ≤ b ∧ b ≤ 1000 ∧ a.length * b.toNat ≤ 16777216)) (.ol (List.replicate b.toNat a).flatten)
  | .pow, .int a, .int b => gd (decide (0 ≤ b ∧ b ≤ 1000000 ∧ a.natAbs < 2 ^ 64)) (.v (.int (a ^ b.toNat)))
  | .shl, .int a, .int b => gd (decide (0 ≤ b ∧ b ≤ 1000000 ∧ a.natAbs < 2 ^ 64)) (.v (.int (a * 2 ^ b.toNat)))
  | .mod, .int a, .int b => gd (decide (0 < b)) (.v (.int (a % b)))
  | .fdiv, .int a, .int b => gd (decide (0 < b ∧ b < 1073741824)) (.v (.int (a / b)))
  | _, _, _ => none
theorem evBin_ok {op : Bop} {a b : D} {t : T} {Q : T → Prop} (h : evBin op a b = some t) (q : Q t) : wBin op a b Q := by
  unfold evBin at h
  split at h
  all_goals first | (cases h; done) | (cases h; exact q) | (obtain ⟨h1, rfl⟩ := gd_some h; exact ⟨of_decide_eq_true h1, q⟩)
def evCmp : Cop → D → D → Option Bool
  | .eq, a, b => gd (D.cmpOk a b) (D.eqv a b)
  | .ne, a, b => gd (D.cmpOk a b) (!D.eqv a b)
  | .lt, .int a, .int b => some (decide (a < b))
  | .le, .int a, .int b => some (decide (a ≤ b))
  | .gt, .int a, .int b => some (decide (b < a))
  | .ge, .int a, .int b => some (decide (b ≤ a))
  | .lt, .str a, .str b => some (decide (a < b))
  | .le, .str a, .str b => some (decide (a ≤ b))
  | .gt, .str a, .str b => some (decide (b < a))
  | .ge, .str a, .str b => some (decide (b ≤ a))
  | .isin, .str [c], .str y => some (y.contains c)
  | .notin, .str [c], .str y => some (!y.contains c)
  | .isin, a, .tup ys => gd (D.inOk a ys) (ys.any (D.eqv · a))
  | .notin, a, .tup ys => gd (D.inOk a ys) (!ys.any (D.eqv · a))
  | .isin, a, .lst ys => gd (D.inOk a ys) (ys.any (D.eqv · a))
  | .notin, a, .lst ys => gd (D.inOk a ys) (!ys.any (D.eqv · a))
  | .isin, a, .dct kvs => match a.key with
    | some k => some (kget kvs k).isSome
    | none => none
  | .notin, a, .dct kvs => match a.key with
    | some k => some (!(kget kvs k).isSome)
    | none => none
  | .is, a, .non => some a.isNon
  | .isnot, a, .non => some (!a.isNon)
  | .is, .bl a, .bl b => some (a == b)
  | .isnot, .bl a, .bl b => some (!(a == b))
  | _, _, _ => none
theorem evCmp_ok {op : Cop} {a b : D} {t : Bool} {Q : Bool → Prop} (h : evCmp op a b = some t) (q : Q t) : wCmp op a b Q := by
  unfold evCmp at h
  split at h
  all_goals first
    | (cases h; done)
    | (cases h; exact q)
    | (obtain ⟨h1, rfl⟩ := gd_some h; first | exact ⟨h1, q⟩ | (first | rw [c_inT] | rw [c_niT] | rw [c_inL] | rw [c_niL]); exact ⟨h1, q⟩)
    | (rw [c_inD]; revert h; cases D.key a <;> intro h <;> first | (cases h; done) | (cases h; exact q))
    | (rw [c_niD]; revert h; cases D.key a <;> intro h <;> first | (cases h; done) | (cases h; exact q))
    | (cases h; rw [c_isN]; exact q)
    | (cases h; rw [c_isnotN]; exact q)
def evIx : D → D → Option D
  | .str x, .int i => match atI x i with
    | some c => some (.str [c])
    | none => none
  | .tup xs, .int i => atI xs i
  | .lst xs, .int i => atI xs i
  | .dct kvs, y => match y.key with
    | some k => kget kvs k
    | none => none
  | _, _ => none
theorem evIx_ok {a b d : D} {Q : D → Prop} (h : evIx a b = some d) (q : Q d) : wIx a b Q := by
  unfold evIx at h
  split at h
  · rw [i_str]
    split at h
    · rename_i e
      try rw [e]
      cases h
      exact q
    · cases h
  · rw [i_tup, h]
    exact q
  · rw [i_lst, h]
    exact q
  · show match b.key with
      | some k => match kget _ k with
        | some d => Q d
        | none => False
      | none => False
    revert h
    cases D.key b with
    | none => exact fun h => nomatch h
    | some k =>
      intro h
      dsimp only at h ⊢
      rw [h]
      exact q
  · cases h
def evCut : D → Option Int → Option Int → Option T
  | .str x, lo, hi => some (.v (.str (cut x lo hi)))
  | .tup xs, lo, hi => some (.v (.tup (cut xs lo hi)))
  | .lst xs, lo, hi => some (.ol (cut xs lo hi))
  | _, _, _ => none
theorem evCut_ok {a : D} {lo hi : Option Int} {t : T} {Q : T → Prop} (h : evCut a lo hi = some t) (q : Q t) : wCut a lo hi Q := by
  unfold evCut at h
  split at h
  all_goals (cases h; try exact q)
def dd : List (List Nat) → List (List Nat)
  | [] => []
  | x :: r => if r.contains x = true then dd r else x :: dd r
theorem dd_mem : ∀ (l : List (List Nat)) (z : List Nat), z ∈ dd l ↔ z ∈ l
  | [], _ => Iff.rfl
  | x :: r, z => by
    unfold dd
    split
    · rename_i h
      rw [dd_mem r z, List.mem_cons]
      exact ⟨.inr, fun h' => h'.elim (fun e => e ▸ List.contains_iff_mem.mp h) id⟩
    · rw [List.mem_cons, List.mem_cons, dd_mem r z]
theorem dd_nd : ∀ l : List (List Nat), (dd l).Nodup
  | [] => List.nodup_nil
  | x :: r => by
    unfold dd
    split
    · exact dd_nd r
    · rename_i h
      rw [List.nodup_cons, dd_mem]
      exact ⟨fun z => h (List.contains_iff_mem.mpr z), dd_nd r⟩
def insS (x : List Nat) : List (List Nat) → List (List Nat)
  | [] => [x]
  | y :: r => if y < x then y :: insS x r else x :: y :: r
def isort : List (List Nat) → List (List Nat)
  | [] => []
  | x :: r => insS x (isort r)
theorem insS_perm (x : List Nat) : ∀ l : List (List Nat), (insS x l).Perm (x :: l)
  | [] => List.Perm.refl _
  | y :: r => by
    unfold insS
    split
    · exact ((insS_perm x r).cons y).trans (List.Perm.swap x y r)
    · exact List.Perm.refl _
theorem isort_perm : ∀ l : List (List Nat), (isort l).Perm l
  | [] => List.Perm.refl _
  | x :: r => (insS_perm x (isort r)).trans ((isort_perm r).cons x)
abbrev LE (l : List (List Nat)) : Prop := l.Pairwise fun a b => ¬ b < a
theorem insS_le (x : List Nat) : ∀ l : List (List Nat), LE l → LE (insS x l)
  | [], _ => List.pairwise_singleton _ _
  | y :: r, h => by
    have h' := List.pairwise_cons.mp h
    unfold insS
    split
    · rename_i hy
      refine List.pairwise_cons.mpr ⟨fun z hz => ?_, insS_le x r h'.2⟩
      rcases List.mem_cons.mp ((insS_perm x r).mem_iff.mp hz) with e | e
      · rw [e]
        exact fun q => Std.lt_irrefl (Std.lt_trans q hy)
      · exact h'.1 z e
    · rename_i hy
      refine List.pairwise_cons.mpr ⟨fun z hz => ?_, h⟩
      rcases List.mem_cons.mp hz with e | e
      · rw [e]
        exact hy
      · exact List.le_trans (show x ≤ y from hy) (h'.1 z e)
theorem isort_le : ∀ l : List (List Nat), LE (isort l)
  | [] => List.Pairwise.nil
  | x :: r => insS_le x _ (isort_le r)
theorem le_uniq : ∀ {l m : List (List Nat)}, l.Perm m → LE l → LE m → l = m
  | [], m, h, _, _ => (List.Perm.nil_eq h)
  | a :: l, [], h, _, _ => absurd h.length_eq (by simp)
  | a :: l, b :: m, h, h1, h2 => by
    have h1' := List.pairwise_cons.mp h1
    have h2' := List.pairwise_cons.mp h2
    have e : a = b := by
      rcases List.mem_cons.mp (h.mem_iff.mp (List.mem_cons_self)) with e | ha
      · exact e
      rcases List.mem_cons.mp (h.mem_iff.mpr (List.mem_cons_self)) with e | hb
      · exact e.symm
      exact List.le_antisymm (show a ≤ b from h1'.1 b hb) (show b ≤ a from h2'.1 a ha)
    subst e
    rw [le_uniq (List.Perm.cons_inv h) h1'.2 h2'.2]
theorem le_of {l : List (List Nat)} (h : sortedN l = true) : LE l := by
  cases l with
  | nil => exact List.Pairwise.nil
  | cons x l => exact risingN x l h
def evBi : Bi → List D → Option T
  | .sorted, [.lst xs] => match texts xs with
    | some ts => gd (decide (xs.length < 64)) (.ol ((isort ts).map D.str))
    | none => none
  | .len, [.str x] => some (.v (.int x.length))
  | .len, [.tup xs] => some (.v (.int xs.length))
  | .len, [.lst xs] => some (.v (.int xs.length))
  | .len, [.dct xs] => some (.v (.int xs.length))
  | .all, [.lst xs] => match bools xs with
    | some bs => some (.v (.bl (bs.all id)))
    | none => none
  | .any, [.lst xs] => match bools xs with
    | some bs => some (.v (.bl (bs.any id)))
    | none => none
  | .list, [.lst xs] => some (.ol xs)
  | .list, [.tup xs] => some (.ol xs)
  | .tuple, [.lst xs] => some (.v (.tup xs))
  | .tuple, [.tup xs] => some (.v (.tup xs))
  | .list, [.dct kvs] => some (.ol (kvs.map fun p => keyD p.1))
  | .list, [.str x] => some (.ol (x.map fun c => .str [c]))
  | .int, [.bl b] => some (.v (.int (if b then 1 else 0)))
  | .int, [.int b] => some (.v (.int b))
  | .max, [.int a, .int b] => some (.v (.int (if b > a then b else a)))
  | .min, [.int a, .int b] => some (.v (.int (if b < a then b else a)))
  | .max, [.str a, .str b] => some (.v (.str (if a < b then b else a)))
  | .min, [.str a, .str b] => some (.v (.str (if b < a then b else a)))
  | .sum, [.lst xs] => match intsD xs with
    | some ns => some (.v (.int ns.sum))
    | none => none
  | .str, [.str x] => some (.v (.str x))
  | _, _ => none
theorem evBi_ok {b : Bi} {ds : List D} {t : T} {Q : T → Prop} (h : evBi b ds = some t) (q : Q t) : wBi b ds Q := by
  unfold evBi at h
  split at h
  · split at h
    · rename_i ts e
      obtain ⟨h1, rfl⟩ := gd_some h
      refine ⟨of_decide_eq_true h1, ts, e, fun ys hp hs => ?_⟩
      rw [le_uniq (hp.trans (isort_perm ts).symm) (le_of hs) (isort_le ts)]
      exact q
    · cases h
  all_goals first
    | (cases h; done)
    | (cases h; exact q)
    | (split at h <;> first | (rename_i e; cases h; exact ⟨_, e, q⟩) | cases h)
def evMt : Mt → D → List D → Option T
  | .join, .str sep, [.lst xs] => match texts xs with
    | some ts => gd (decide ((ts.map List.length).sum + ts.length * sep.length ≤ 16777216)) (.v (.str (TL.joinL sep ts)))
    | none => none
  | .split, .str x, [.str [c]] => gd (decide (x.length + 2 ≤ 16777216 ∧ c < 256)) (.ol ((TL.spl [c] 0 [] x).map D.str))
  | _, _, _ => none
theorem evMt_ok {m : Mt} {a : D} {ds : List D} {t : T} {Q : T → Prop} (h : evMt m a ds = some t) (q : Q t) : m.rcv a = true ∧ wMt m a ds Q := by
  unfold evMt at h
  split at h
  · split at h
    · rename_i e
      obtain ⟨h1, rfl⟩ := gd_some h
      exact ⟨rfl, _, e, of_decide_eq_true h1, q⟩
    · cases h
  · obtain ⟨h1, rfl⟩ := gd_some h
    exact ⟨rfl, of_decide_eq_true h1, q⟩
  · cases h
def evGl : D → Option D
  | .dct _ => none
  | d => some d
theorem evGl_ok {g d : D} {Q : D → Prop} (h : evGl g = some d) (q : Q d) : globW g Q := by
  cases g <;> first | (cases h; done) | (cases h; exact q)
def evGin (g d : D) : Option Bool := match g, d with
  | .dct kvs, .str z => some (kget kvs (.inr (mkS z))).isSome
  | _, _ => none
theorem evGin_ok {g d : D} {b : Bool} {Q : Bool → Prop} (h : evGin g d = some b) (q : Q b) : ginW g d Q := by
  unfold evGin at h
  split at h
  · cases h
    exact q
  · cases h
def evGix (g d : D) : Option D := match g, d with
  | .dct kvs, .str z => kget kvs (.inr (mkS z))
  | _, _ => none
theorem evGix_ok {g d b : D} {Q : D → Prop} (h : evGix g d = some b) (q : Q b) : gixW g d Q := by
  unfold evGix at h
  split at h
  · rw [gix_d, h]
    exact q
  · cases h
def evB : T → Option Bool
  | .v (.bl b) => some b
  | _ => none
theorem evB_ok {t : T} {b : Bool} {Q : Bool → Prop} (h : evB t = some b) (q : Q b) : isB Q t := by
  unfold evB at h
  split at h
  · cases h
    exact q
  · cases h
def evInt : D → Option Int
  | .int i => some i
  | _ => none
theorem evInt_ok {d : D} {i : Int} (h : evInt d = some i) : d = .int i := by
  cases d <;> first | (cases h; done) | (cases h; rfl)
def evLc (f : D → Option (Option D)) : List D → List D → Option (List D)
  | [], acc => some acc
  | d :: ds, acc => match f d with
    | some (some x) => evLc f ds (acc ++ [x])
    | some none => evLc f ds acc
    | none => none
theorem evLc_ok {f : D → Option (Option D)} {w : D → (Option D → Prop) → Prop} (hf : ∀ d r k, f d = some r → k r → w d k) {Q : List D → Prop} : ∀ (ds acc : List D) {l : List D}, evLc f ds acc = some l → Q l → wLc w ds acc Q
  | [], acc, l, h, q => by
    cases h
    exact q
  | d :: ds, acc, l, h, q => by
    unfold evLc at h
    split at h
    · rename_i e
      exact hf d _ _ e (evLc_ok hf ds _ h q)
    · rename_i e
      exact hf d _ _ e (evLc_ok hf ds _ h q)
    · cases h
section
variable (F : Nat → List D → Option D) (cg : Nat → D)
mutual
def evE : E → Env → Option T
  | .var i, env => match slot env i with
    | some (.v d) => some (.v d)
    | _ => none
  | .non, _ => some (.v .non)
  | .bl b, _ => some (.v (.bl b))
  | .int i, _ => some (.v (.int i))
  | .str x, _ => some (.v (.str x))
  | .glob _ j, _ => (evGl (cg j)).bind fun d => some (.v d)
  | .gin n _ j a, env => (evOp a (evE a env) env).bind fun d => (evGin (cg j) d).bind fun b => some (.v (.bl (if n then !b else b)))
  | .gix _ j a, env => (evOp a (evE a env) env).bind fun d => (evGix (cg j) d).bind fun d => some (.v d)
  | .fnv _ j, _ => some (.v (.fn j))
  | .tup es, env => (evV es env).bind fun ds => gd (decide (ds.length ≤ 16777216)) (.v (.tup ds))
  | .lst es, env => (evV es env).bind fun ds => gd (decide (ds.length ≤ 16777216)) (.ol ds)
  | .dict0, _ => some (.od [])
  | .dict ps, env => (evPs ps env).bind fun kvs => gd (decide (kvs.length ≤ 15)) (.od (kvs.foldl (fun acc kv => kput acc kv.1 kv.2) []))
  | .rev a, env => (evOp a (evE a env) env).bind fun x => match x with
    | .lst xs => some (.ol xs.reverse)
    | .tup xs => some (.v (.tup xs.reverse))
    | _ => none
  | .sset _, _ => none
  | .lset a, env => (evOp a (evE a env) env).bind fun x => (x.items).bind fun xs => (gd (decide (xs.length < 4000)) ()).bind fun _ => (texts xs).bind fun ts => some (.v (.int ((dd ts).length : Nat)))
  | .dget a e o, env => (evOp a (evE a env) env).bind fun x => match x with
    | .dct kvs => (evOp e (evE e env) env).bind fun y => (y.key).bind fun key => match o with
      | .none => some (.v ((kget kvs key).getD .non))
      | .some e => (evE e env).bind fun t => some (.v ((kget kvs key).getD t.d))
    | _ => none
  | .listr it, env => (evI it env).bind fun ds => gd (decide (ds.length ≤ 16777216)) (.ol ds)
  | .bin op a b, env => (evOp a (evE a env) env).bind fun x => (evOp b (evE b env) env).bind fun y => evBin op x y
  | .neg a, env => (evOp a (evE a env) env).bind fun x => (evInt x).bind fun i => some (.v (.int (-i)))
  | .cmp op a b, env => (evOp a (evE a env) env).bind fun x => (evOp b (evE b env) env).bind fun y => (evCmp op x y).bind fun t => some (.v (.bl t))
  | .chain op op' a b c, env => (evOp a (evE a env) env).bind fun x => (evOp b (evE b env) env).bind fun y => (evCmp op x y).bind fun t => if t = true then (evOp c (evE c env) env).bind fun z => (evCmp op' y z).bind fun t' => some (.v (.bl t')) else some (.v (.bl false))
  | .conj es, env => evAnd es env
  | .disj es, env => evOr es env
  | .not a, env => (evE a env).bind fun t => (evB t).bind fun b => some (.v (.bl !b))
  | .ite c a b, env => (evE c env).bind fun t => (evB t).bind fun t => if t = true then evE a env else evE b env
  | .ix a i, env => (evOp a (evE a env) env).bind fun x => (evOp i (evE i env) env).bind fun y => (evIx x y).bind fun d => some (.v d)
  | .cut a lo hi, env => (evOp a (evE a env) env).bind fun x => (evP lo env).bind fun l => (evP hi env).bind fun h => evCut x l h
  | .call _ j es, env => (evV es env).bind fun ds => (F j ds).bind fun d => some (.v d)
  | .callb _ j es, env => (evOs es env).bind fun ds => (F j ds).bind fun d => gd (D.pureb d) (.v d)
  | .calld _ j es dl, env => (evV es env).bind fun ds => (F j (ds ++ dl)).bind fun d => some (.v d)
  | .callv i es, env => match slot env i with
    | some (.v (.fn j)) => (evV es env).bind fun ds => (F j ds).bind fun d => some (.v d)
    | _ => none
  | .bi b es, env => (evOs es env).bind fun ds => evBi b ds
  | .mt m a es, env => (evOp a (evE a env) env).bind fun x => (evOs es env).bind fun ds => evMt m x ds
  | .isinst a t, env => (evOp a (evE a env) env).bind fun x => (wTy t x).bind fun b => some (.v (.bl b))
  | .dictof _, _ => none
  | .litems _, _ => none
  | .tpkof _, _ => none
  | .tp _, _ => none
  | .fld _ _ _, _ => none
  | .meth _ _ _ _ _, _ => none
  | .mk _ _ _ _, _ => none
  | .lc elt tg it cond own, env => (evI it env).bind fun ds => (gd (decide (ds.length < 16777216)) ()).bind fun _ => (evLc (fun d => (wTg tg d (wipeE env (own.map (·.2)))).bind fun env' => (evCs cond env').bind fun t => if t = true then (evE elt env').bind fun x => some (some x.d) else some none) ds []).bind fun acc => some (.ol acc)
def evAnd : Es → Env → Option T
  | .nil, _ => none
  | .cons a r, env => (evE a env).bind fun t => match r with
    | .nil => some t
    | .cons _ _ => (evB t).bind fun c => if c = true then evAnd r env else some (.v (.bl false))
def evOr : Es → Env → Option T
  | .nil, _ => none
  | .cons a r, env => (evE a env).bind fun t => match r with
    | .nil => some t
    | .cons _ _ => (evB t).bind fun c => if c = true then some (.v (.bl true)) else evOr r env
def evPs : Ps → Env → Option (List (Key × D))
  | .nil, _ => some []
  | .cons e x r, env => (evOp e (evE e env) env).bind fun y => (y.key).bind fun key => (evE x env).bind fun t => (evPs r env).bind fun kvs => some ((key, t.d) :: kvs)
def evP : Eo → Env → Option (Option Int)
  | .none, _ => some none
  | .some e, env => (evOp e (evE e env) env).bind fun x => (evInt x).bind fun i => some (some i)
def evV : Es → Env → Option (List D)
  | .nil, _ => some []
  | .cons e r, env => (evE e env).bind fun x => (evV r env).bind fun xs => some (x.d :: xs)
def evOs : Es → Env → Option (List D)
  | .nil, _ => some []
  | .cons e r, env => (evOp e (evE e env) env).bind fun x => (evOs r env).bind fun xs => some (x :: xs)
def evCs : Es → Env → Option Bool
  | .nil, _ => some true
  | .cons e r, env => match r with
    | .nil => (evE e env).bind fun t => evB t
    | .cons _ _ => none
def evI : I → Env → Option (List D)
  | .of e, env => (evOp e (evE e env) env).bind fun x => walked x
  | .range1 e, env => (evOp e (evE e env) env).bind fun x => (evInt x).bind fun i => gd (decide (-(2 ^ 62) ≤ i ∧ i < 2 ^ 62)) (rangeD 0 i)
  | .range2 a b, env => (evOp a (evE a env) env).bind fun x => (evOp b (evE b env) env).bind fun y => (evInt x).bind fun i => (evInt y).bind fun j => gd (decide (-(2 ^ 62) ≤ i ∧ i < 2 ^ 62 ∧ -(2 ^ 62) ≤ j ∧ j < 2 ^ 62)) (rangeD i j)
  | .range3 _ _ _, _ => none
  | .zip a b, env => (evOp a (evE a env) env).bind fun x => (evOp b (evE b env) env).bind fun y => match x, y with
    | .tup xs, .tup ys => some (zipD xs ys)
    | .lst xs, .lst ys => some (zipD xs ys)
    | .tup xs, .lst ys => some (zipD xs ys)
    | _, _ => none
  | .enum a, env => (evOp a (evE a env) env).bind fun x => match x with
    | .lst xs => some (enumD xs)
    | .tup xs => some (enumD xs)
    | _ => none
end
end
section
variable {Fv : Nat → List D → Option D} {F : Nat → List D → (D → Prop) → Prop} {cg : Nat → D} (hF : ∀ j ds d Q, Fv j ds = some d → Q d → F j ds Q)
include hF
mutual
theorem evE_ok : ∀ (e : E) (env : Env) (t : T) (Q : T → Prop), evE Fv cg e env = some t → Q t → wE F cg e env Q
  | .var i, env, t, Q, h, q => by
    unfold evE at h
    unfold wE
    revert h
    cases slot env i with
    | none => exact fun h => nomatch h
    | some u => cases u <;> intro h <;> first | (cases h; done) | (cases h; exact q)
  | .non, _, _, _, h, q => by unfold evE at h; unfold wE; cases h; exact q
  | .bl _, _, _, _, h, q => by unfold evE at h; unfold wE; cases h; exact q
  | .int _, _, _, _, h, q => by unfold evE at h; unfold wE; cases h; exact q
  | .str _, _, _, _, h, q => by unfold evE at h; unfold wE; cases h; exact q
  | .fnv _ _, _, _, _, h, q => by unfold evE at h; unfold wE; cases h; exact q
  | .dict0, _, _, _, h, q => by unfold evE at h; unfold wE; cases h; exact q
  | .glob _ _, _, _, _, h, q => by
    unfold evE at h; unfold wE
    obtain ⟨d, h1, h⟩ := bd_some h
    cases h
    exact evGl_ok h1 q
  | .gin n _ _ a, env, _, _, h, q => by
    unfold evE at h; unfold wE
    obtain ⟨d, h1, h⟩ := bd_some h
    obtain ⟨b, h2, h⟩ := bd_some h
    cases h
    exact evOp_ok (evE_ok a env) h1 (evGin_ok h2 q)
  | .gix _ _ a, env, _, _, h, q => by
    unfold evE at h; unfold wE
    obtain ⟨d, h1, h⟩ := bd_some h
    obtain ⟨b, h2, h⟩ := bd_some h
    cases h
    exact evOp_ok (evE_ok a env) h1 (evGix_ok h2 q)
  | .tup es, env, _, _, h, q => by
    unfold evE at h; unfold wE
    obtain ⟨ds, h1, h⟩ := bd_some h
    obtain ⟨h2, rfl⟩ := gd_some h
    exact evV_ok es env _ _ h1 ⟨of_decide_eq_true h2, q⟩
  | .lst es, env, _, _, h, q => by
    unfold evE at h; unfold wE
    obtain ⟨ds, h1, h⟩ := bd_some h
    obtain ⟨h2, rfl⟩ := gd_some h
    exact evV_ok es env _ _ h1 ⟨of_decide_eq_true h2, q⟩
  | .dict ps, env, _, _, h, q => by
    unfold evE at h; unfold wE
    obtain ⟨ds, h1, h⟩ := bd_some h
    obtain ⟨h2, rfl⟩ := gd_some h
    exact evPs_ok ps env _ _ h1 ⟨of_decide_eq_true h2, q⟩
  | .rev a, env, _, _, h, q => by
    unfold evE at h; unfold wE
    obtain ⟨d, h1, h⟩ := bd_some h
    refine evOp_ok (evE_ok a env) h1 ?_
    cases d <;> first | (cases h; done) | (cases h; exact q)
  | .sset _, _, _, _, h, _ => by unfold evE at h; cases h
  | .lset a, env, _, _, h, q => by
    unfold evE at h; unfold wE
    obtain ⟨x, h1, h⟩ := bd_some h
    obtain ⟨xs, h2, h⟩ := bd_some h
    obtain ⟨u, h3, h⟩ := bd_some h
    obtain ⟨ts, h4, h⟩ := bd_some h
    cases h
    refine evOp_ok (evE_ok a env) h1 ?_
    rw [h2]
    refine ⟨of_decide_eq_true (gd_some h3).1, ts, h4, fun ys nd hz => ?_⟩
    rw [((List.perm_ext_iff_of_nodup nd (dd_nd ts)).mpr fun z => (hz z).trans (dd_mem ts z).symm).length_eq]
    exact q
  | .dget a e .none, env, _, _, h, q => by
    unfold evE at h; unfold wE
    obtain ⟨d, h1, h⟩ := bd_some h
    refine evOp_ok (evE_ok a env) h1 ?_
    cases d <;> first | (cases h; done) | skip
    obtain ⟨y, h2, h⟩ := bd_some h
    obtain ⟨key, h3, h⟩ := bd_some h
    refine evOp_ok (evE_ok e env) h2 ?_
    rw [h3]
    cases h
    exact q
  | .dget a e (.some e2), env, _, _, h, q => by
    unfold evE at h; unfold wE
    obtain ⟨d, h1, h⟩ := bd_some h
    refine evOp_ok (evE_ok a env) h1 ?_
    cases d <;> first | (cases h; done) | skip
    obtain ⟨y, h2, h⟩ := bd_some h
    obtain ⟨key, h3, h⟩ := bd_some h
    refine evOp_ok (evE_ok e env) h2 ?_
    rw [h3]
    obtain ⟨t, h4, h⟩ := bd_some h
    cases h
    exact evE_ok e2 env _ _ h4 q
  | .listr it, env, _, _, h, q => by
    unfold evE at h; unfold wE
    obtain ⟨ds, h1, h⟩ := bd_some h
    obtain ⟨h2, rfl⟩ := gd_some h
    exact evI_ok it env _ _ h1 ⟨of_decide_eq_true h2, q⟩
  | .bin op a b, env, _, _, h, q => by
    unfold evE at h; unfold wE
    obtain ⟨x, h1, h⟩ := bd_some h
    obtain ⟨y, h2, h⟩ := bd_some h
    exact evOp_ok (evE_ok a env) h1 (evOp_ok (evE_ok b env) h2 (evBin_ok h q))
  | .neg a, env, _, _, h, q => by
    unfold evE at h; unfold wE
    obtain ⟨x, h1, h⟩ := bd_some h
    obtain ⟨y, h2, h⟩ := bd_some h
    cases h
    refine evOp_ok (evE_ok a env) h1 ?_
    rw [evInt_ok h2]
    exact q
  | .cmp op a b, env, _, _, h, q => by
    unfold evE at h; unfold wE
    obtain ⟨x, h1, h⟩ := bd_some h
    obtain ⟨y, h2, h⟩ := bd_some h
    obtain ⟨z, h3, h⟩ := bd_some h
    cases h
    exact evOp_ok (evE_ok a env) h1 (evOp_ok (evE_ok b env) h2 (evCmp_ok h3 q))
  | .chain op op' a b c, env, _, _, h, q => by
    unfold evE at h; unfold wE
    obtain ⟨x, h1, h⟩ := bd_some h
    obtain ⟨y, h2, h⟩ := bd_some h
    obtain ⟨z, h3, h⟩ := bd_some h
    refine evOp_ok (evE_ok a env) h1 (evOp_ok (evE_ok b env) h2 (evCmp_ok h3 ?_))
    split at h
    · rename_i hz
      rw [if_pos hz]
      obtain ⟨u, h4, h⟩ := bd_some h
      obtain ⟨v, h5, h⟩ := bd_some h
      cases h
      exact evOp_ok (evE_ok c env) h4 (evCmp_ok h5 q)
    · rename_i hz
      rw [if_neg hz]
      cases h
      exact q
  | .conj es, env, _, _, h, q => by unfold evE at h; unfold wE; exact evAnd_ok es env _ _ h q
  | .disj es, env, _, _, h, q => by unfold evE at h; unfold wE; exact evOr_ok es env _ _ h q
  | .not a, env, _, _, h, q => by
    unfold evE at h; unfold wE
    obtain ⟨x, h1, h⟩ := bd_some h
    obtain ⟨y, h2, h⟩ := bd_some h
    cases h
    exact evE_ok a env _ _ h1 (evB_ok h2 q)
  | .ite c a b, env, _, _, h, q => by
    unfold evE at h; unfold wE
    obtain ⟨x, h1, h⟩ := bd_some h
    obtain ⟨y, h2, h⟩ := bd_some h
    refine evE_ok c env _ _ h1 (evB_ok h2 ?_)
    split at h
    · rename_i hz
      rw [if_pos hz]
      exact evE_ok a env _ _ h q
    · rename_i hz
      rw [if_neg hz]
      exact evE_ok b env _ _ h q
  | .ix a i, env, _, _, h, q => by
    unfold evE at h; unfold wE
    obtain ⟨x, h1, h⟩ := bd_some h
    obtain ⟨y, h2, h⟩ := bd_some h
    obtain ⟨z, h3, h⟩ := bd_some h
    cases h
    exact evOp_ok (evE_ok a env) h1 (evOp_ok (evE_ok i env) h2 (evIx_ok h3 q))
  | .cut a lo hi, env, _, _, h, q => by
    unfold evE at h; unfold wE
    obtain ⟨x, h1, h⟩ := bd_some h
    obtain ⟨y, h2, h⟩ := bd_some h
    obtain ⟨z, h3, h⟩ := bd_some h
    exact evOp_ok (evE_ok a env) h1 (evP_ok lo env _ _ h2 (evP_ok hi env _ _ h3 (evCut_ok h q)))
  | .call _ j es, env, _, _, h, q => by
    unfold evE at h; unfold wE
    obtain ⟨x, h1, h⟩ := bd_some h
    obtain ⟨y, h2, h⟩ := bd_some h
    cases h
    exact evV_ok es env _ _ h1 (hF _ _ _ _ h2 q)
  | .callb _ j es, env, _, _, h, q => by
    unfold evE at h; unfold wE
    obtain ⟨x, h1, h⟩ := bd_some h
    obtain ⟨y, h2, h⟩ := bd_some h
    obtain ⟨h3, rfl⟩ := gd_some h
    exact evOs_ok es env _ _ h1 (hF _ _ _ _ h2 ⟨h3, q⟩)
  | .calld _ j es _, env, _, _, h, q => by
    unfold evE at h; unfold wE
    obtain ⟨x, h1, h⟩ := bd_some h
    obtain ⟨y, h2, h⟩ := bd_some h
    cases h
    exact evV_ok es env _ _ h1 (hF _ _ _ _ h2 q)
  | .callv i es, env, _, _, h, q => by
    unfold evE at h; unfold wE
    split at h
    · rename_i e
      try rw [e]
      obtain ⟨x, h1, h⟩ := bd_some h
      obtain ⟨y, h2, h⟩ := bd_some h
      cases h
      exact evV_ok es env _ _ h1 (hF _ _ _ _ h2 q)
    · cases h
  | .bi b es, env, _, _, h, q => by
    unfold evE at h; unfold wE
    obtain ⟨x, h1, h⟩ := bd_some h
    exact evOs_ok es env _ _ h1 (evBi_ok h q)
  | .mt m a es, env, _, _, h, q => by
    unfold evE at h; unfold wE
    obtain ⟨x, h1, h⟩ := bd_some h
    obtain ⟨y, h2, h⟩ := bd_some h
    have := evMt_ok h q
    exact evOp_ok (evE_ok a env) h1 ⟨this.1, evOs_ok es env _ _ h2 this.2⟩
  | .isinst a t, env, _, _, h, q => by
    unfold evE at h; unfold wE
    obtain ⟨x, h1, h⟩ := bd_some h
    obtain ⟨y, h2, h⟩ := bd_some h
    cases h
    refine evOp_ok (evE_ok a env) h1 ?_
    rw [h2]
    exact q
  | .dictof _, _, _, _, h, _ => by
    unfold evE at h
    cases h
  | .litems _, _, _, _, h, _ => by
    unfold evE at h
    cases h
  | .tpkof _, _, _, _, h, _ => by
    unfold evE at h
    cases h
  | .tp _, _, _, _, h, _ => by
    unfold evE at h
    cases h
  | .fld _ _ _, _, _, _, h, _ => by
    unfold evE at h
    cases h
  | .meth _ _ _ _ _, _, _, _, h, _ => by
    unfold evE at h
    cases h
  | .mk _ _ _ _, _, _, _, h, _ => by
    unfold evE at h
    cases h
  | .lc elt tg it cond own, env, _, _, h, q => by
    unfold evE at h; unfold wE
    obtain ⟨ds, h1, h⟩ := bd_some h
    obtain ⟨u, h2, h⟩ := bd_some h
    obtain ⟨acc, h3, h⟩ := bd_some h
    cases h
    refine evI_ok it env _ _ h1 ⟨of_decide_eq_true (gd_some h2).1, evLc_ok (fun d r k hr hk => ?_) ds [] h3 q⟩
    obtain ⟨env', e1, hr⟩ := bd_some hr
    obtain ⟨b, e2, hr⟩ := bd_some hr
    rw [e1]
    refine evCs_ok cond env' _ _ e2 ?_
    split at hr
    · rename_i hz
      rw [if_pos hz]
      obtain ⟨x, e3, hr⟩ := bd_some hr
      cases hr
      exact evE_ok elt env' _ _ e3 hk
    · rename_i hz
      rw [if_neg hz]
      cases hr
      exact hk
theorem evAnd_ok : ∀ (es : Es) (env : Env) (t : T) (Q : T → Prop), evAnd Fv cg es env = some t → Q t → wAnd F cg es env Q
  | .nil, _, _, _, h, _ => by unfold evAnd at h; cases h
  | .cons a .nil, env, _, _, h, q => by
    unfold evAnd at h; unfold wAnd
    obtain ⟨x, h1, h⟩ := bd_some h
    cases h
    exact evE_ok a env _ _ h1 q
  | .cons a (.cons b r), env, _, _, h, q => by
    unfold evAnd at h; unfold wAnd
    obtain ⟨x, h1, h⟩ := bd_some h
    obtain ⟨c, h2, h⟩ := bd_some h
    refine evE_ok a env _ _ h1 (evB_ok h2 ?_)
    split at h
    · rename_i hz
      rw [if_pos hz]
      exact evAnd_ok (.cons b r) env _ _ h q
    · rename_i hz
      rw [if_neg hz]
      cases h
      exact q
theorem evOr_ok : ∀ (es : Es) (env : Env) (t : T) (Q : T → Prop), evOr Fv cg es env = some t → Q t → wOr F cg es env Q
  | .nil, _, _, _, h, _ => by unfold evOr at h; cases h
  | .cons a .nil, env, _, _, h, q => by
    unfold evOr at h; unfold wOr
    obtain ⟨x, h1, h⟩ := bd_some h
    cases h
    exact evE_ok a env _ _ h1 q
  | .cons a (.cons b r), env, _, _, h, q => by
    unfold evOr at h; unfold wOr
    obtain ⟨x, h1, h⟩ := bd_some h
    obtain ⟨c, h2, h⟩ := bd_some h
    refine evE_ok a env _ _ h1 (evB_ok h2 ?_)
    split at h
    · rename_i hz
      rw [if_pos hz]
      cases h
      exact q
    · rename_i hz
      rw [if_neg hz]
      exact evOr_ok (.cons b r) env _ _ h q
theorem evPs_ok : ∀ (ps : Ps) (env : Env) (t : List (Key × D)) (Q : List (Key × D) → Prop), evPs Fv cg ps env = some t → Q t → wPs F cg ps env Q
  | .nil, _, _, _, h, q => by unfold evPs at h; unfold wPs; cases h; exact q
  | .cons e a r, env, _, _, h, q => by
    unfold evPs at h; unfold wPs
    obtain ⟨x, h1, h⟩ := bd_some h
    obtain ⟨y, h2, h⟩ := bd_some h
    obtain ⟨z, h3, h⟩ := bd_some h
    obtain ⟨u, h4, h⟩ := bd_some h
    cases h
    refine evOp_ok (evE_ok e env) h1 ?_
    rw [h2]
    exact evE_ok a env _ _ h3 (evPs_ok r env _ _ h4 q)
theorem evP_ok : ∀ (e : Eo) (env : Env) (t : Option Int) (Q : Option Int → Prop), evP Fv cg e env = some t → Q t → wP F cg e env Q
  | .none, _, _, _, h, q => by unfold evP at h; unfold wP; cases h; exact q
  | .some e, env, _, _, h, q => by
    unfold evP at h; unfold wP
    obtain ⟨x, h1, h⟩ := bd_some h
    obtain ⟨y, h2, h⟩ := bd_some h
    cases h
    refine evOp_ok (evE_ok e env) h1 ?_
    rw [evInt_ok h2]
    exact q
theorem evV_ok : ∀ (es : Es) (env : Env) (t : List D) (Q : List D → Prop), evV Fv cg es env = some t → Q t → wV F cg es env Q
  | .nil, _, _, _, h, q => by unfold evV at h; unfold wV; cases h; exact q
  | .cons e r, env, _, _, h, q => by
    unfold evV at h; unfold wV
    obtain ⟨x, h1, h⟩ := bd_some h
    obtain ⟨y, h2, h⟩ := bd_some h
    cases h
    exact evE_ok e env _ _ h1 (evV_ok r env _ _ h2 q)
theorem evOs_ok : ∀ (es : Es) (env : Env) (t : List D) (Q : List D → Prop), evOs Fv cg es env = some t → Q t → wOs F cg es env Q
  | .nil, _, _, _, h, q => by unfold evOs at h; unfold wOs; cases h; exact q
  | .cons e r, env, _, _, h, q => by
    unfold evOs at h; unfold wOs
    obtain ⟨x, h1, h⟩ := bd_some h
    obtain ⟨y, h2, h⟩ := bd_some h
    cases h
    exact evOp_ok (evE_ok e env) h1 (evOs_ok r env _ _ h2 q)
theorem evCs_ok : ∀ (es : Es) (env : Env) (t : Bool) (Q : Bool → Prop), evCs Fv cg es env = some t → Q t → wCs F cg es env Q
  | .nil, _, _, _, h, q => by unfold evCs at h; unfold wCs; cases h; exact q
  | .cons e .nil, env, _, _, h, q => by
    unfold evCs at h; unfold wCs
    obtain ⟨x, h1, h⟩ := bd_some h
    exact evE_ok e env _ _ h1 (evB_ok h q)
  | .cons _ (.cons _ _), _, _, _, h, _ => by unfold evCs at h; cases h
theorem evI_ok : ∀ (it : I) (env : Env) (t : List D) (Q : List D → Prop), evI Fv cg it env = some t → Q t → wI F cg it env Q
  | .of e, env, _, _, h, q => by
    unfold evI at h; unfold wI
    obtain ⟨x, h1, h⟩ := bd_some h
    refine evOp_ok (evE_ok e env) h1 ?_
    rw [h]
    exact q
  | .range1 e, env, _, _, h, q => by
    unfold evI at h; unfold wI
    obtain ⟨x, h1, h⟩ := bd_some h
    obtain ⟨i, h2, h⟩ := bd_some h
    obtain ⟨h3, rfl⟩ := gd_some h
    refine evOp_ok (evE_ok e env) h1 ?_
    rw [evInt_ok h2]
    exact ⟨of_decide_eq_true h3, q⟩
  | .range2 a b, env, _, _, h, q => by
    unfold evI at h; unfold wI
    obtain ⟨x, h1, h⟩ := bd_some h
    obtain ⟨y, h2, h⟩ := bd_some h
    obtain ⟨i, h3, h⟩ := bd_some h
    obtain ⟨j, h4, h⟩ := bd_some h
    obtain ⟨h5, rfl⟩ := gd_some h
    refine evOp_ok (evE_ok a env) h1 (evOp_ok (evE_ok b env) h2 ?_)
    rw [evInt_ok h3, evInt_ok h4]
    exact ⟨of_decide_eq_true h5, q⟩
  | .range3 _ _ _, _, _, _, h, _ => by unfold evI at h; cases h
  | .zip a b, env, _, _, h, q => by
    unfold evI at h; unfold wI
    obtain ⟨x, h1, h⟩ := bd_some h
    obtain ⟨y, h2, h⟩ := bd_some h
    refine evOp_ok (evE_ok a env) h1 (evOp_ok (evE_ok b env) h2 ?_)
    cases x <;> cases y <;> first | (cases h; done) | (cases h; exact q)
  | .enum a, env, _, _, h, q => by
    unfold evI at h; unfold wI
    obtain ⟨x, h1, h⟩ := bd_some h
    refine evOp_ok (evE_ok a env) h1 ?_
    cases x <;> first | (cases h; done) | (cases h; exact q)
end
end
def Kn.at (k : Kn) : Env ⊕ D → Prop
  | .inl e => k.nx e
  | .inr d => k.rt d
def evFor (f : D → Env → Option (Env ⊕ D)) : List D → Env → Option (Env ⊕ D)
  | [], env => some (.inl env)
  | d :: ds, env => match f d env with
    | some (.inl env') => evFor f ds env'
    | some (.inr d) => some (.inr d)
    | none => none
theorem evFor_ok {f : D → Env → Option (Env ⊕ D)} {w : D → Env → Kn → Prop} (hf : ∀ d env r k, f d env = some r → k.at r → w d env k) : ∀ (ds : List D) (env : Env) (r : Env ⊕ D) (k : Kn), evFor f ds env = some r → k.at r → wFor w ds env k
  | [], env, r, k, h, q => by
    cases h
    exact q
  | d :: ds, env, r, k, h, q => by
    unfold evFor at h
    split at h
    · rename_i e
      refine hf d env _ ⟨fun env' => wFor w ds env' k, k.rt⟩ e ?_
      exact evFor_ok hf ds _ r k h q
    · rename_i e
      cases h
      exact hf d env _ ⟨fun env' => wFor w ds env' k, k.rt⟩ e q
    · cases h
def eFzB (a : E) (env : Env) : Bool := match a with
  | .var i => match slot env i with
    | some (.v _) => true
    | _ => false
  | _ => true
theorem eFzB_ok {a : E} {env : Env} (h : eFzB a env = true) : eFz a env := by
  unfold eFzB at h
  unfold eFz
  cases a with
  | var i =>
    dsimp only at h ⊢
    revert h
    cases slot env i with
    | none => exact fun h => nomatch h
    | some u => cases u <;> intro h <;> first | (cases h; done) | trivial
  | _ => trivial
def itB (it : I) (env : Env) : Bool := match it with
  | .of a => eFzB a env
  | .zip a b => eFzB a env && eFzB b env
  | .enum a => eFzB a env
  | _ => true
theorem itB_ok {it : I} {env : Env} (h : itB it env = true) : itOk it env := by
  unfold itB at h
  unfold itOk
  cases it with
  | of a => exact eFzB_ok h
  | zip a b =>
    dsimp only at h
    rw [Bool.and_eq_true] at h
    exact ⟨eFzB_ok h.1, eFzB_ok h.2⟩
  | enum a => exact eFzB_ok h
  | _ => trivial
section
variable (F : Nat → List D → Option D) (cg : Nat → D)
mutual
def evS : S → Env → Option (Env ⊕ D)
  | .asg i e, env => (evE F cg e env).bind fun t => some (.inl (env.set i (some t)))
  | .unp is e, env => (evE F cg e env).bind fun t => (wTg (.tup is) t.d env).bind fun env' => some (.inl env')
  | .ret e, env => (evOp e (evE F cg e env) env).bind fun d => some (.inr d)
  | .retn, _ => some (.inr .non)
  | .ifs c a b, env => (evE F cg c env).bind fun t => (evB t).bind fun t => if t = true then evSs a env else evSs b env
  | .fors tg it body, env => (gd (itB it env) ()).bind fun _ => (evI F cg it env).bind fun ds => evFor (fun d env => (wTg tg d env).bind fun env' => evSs body env') ds env
  | .whiles _ _, _ => none
  | .append i e, env => match slot env i with
    | some (.ol ds) => (gd (decide (ds.length < 16777216)) ()).bind fun _ => (evE F cg e env).bind fun t => some (.inl (env.set i (some (.ol (ds ++ [t.d])))))
    | _ => none
  | .extend i e, env => match slot env i with
    | some (.ol ds) => (evOp e (evE F cg e env) env).bind fun x => match x with
      | .lst xs => gd (decide (ds.length + xs.length ≤ 16777216)) (.inl (env.set i (some (.ol (ds ++ xs)))))
      | _ => none
    | _ => none
  | .aug i op e, env => match slot env i with
    | some (.v (.int a)) => (gd (decide (op = .add ∨ op = .sub)) ()).bind fun _ => (evOp e (evE F cg e env) env).bind fun y => (evInt y).bind fun b => some (.inl (env.set i (some (.v (.int (if op = .add then a + b else a - b))))))
    | _ => none
  | .pop _ _ _, _ => none
  | .lput _ _ _, _ => none
  | .dupd i e, env => match slot env i with
    | some (.od kvs) => (evE F cg e env).bind fun t => match t.d with
      | .dct more => gd (decide (kvs.length + more.length ≤ 16777216)) (.inl (env.set i (some (.od (more.foldl (fun acc kv => kput acc kv.1 kv.2) kvs)))))
      | _ => none
    | _ => none
  | .dput i ke e, env => match slot env i with
    | some (.od kvs) => (gd (decide (kvs.length < 16777216)) ()).bind fun _ => (evE F cg e env).bind fun t => (evOp ke (evE F cg ke env) env).bind fun kd => (kd.key).bind fun key => some (.inl (env.set i (some (.od (kput kvs key t.d)))))
    | some (.op kvs) => (gd (decide (kvs.length < 16777216)) ()).bind fun _ => (evE F cg e env).bind fun t => (evOp ke (evE F cg ke env) env).bind fun kd => (kd.key).bind fun key => some (.inl (env.set i (some (.op (kput kvs key t.d)))))
    | _ => none
  | .par i j es, env => (evV F cg es env).bind fun ds => match ds with
    | [d1, d2] => some (.inl ((env.set i (some (.v d1))).set j (some (.v d2))))
    | _ => none
  | .freeze i, env => match slot env i with
    | some t => some (.inl (env.set i (some (.v t.d))))
    | _ => none
  | .lock i, env => match slot env i with
    | some (.od kvs) => some (.inl (env.set i (some (.v (.lck kvs)))))
    | _ => none
  | .sfld _ _ _ _, _ => none
  | .apop _ _ _, _ => none
  | .pass, env => some (.inl env)
  | .expr e, env => (evE F cg e env).bind fun _ => some (.inl env)
  | .lend _ j _ i es, env => match slot env i with
    | some (.od kvs) => (evV F cg es env).bind fun ds => (F j (.dct kvs :: ds)).bind fun d => match d with
      | .dct kvs' => some (.inl (env.set i (some (.od kvs'))))
      | _ => none
    | some (.op kvs) => (evV F cg es env).bind fun ds => (F j (.dct kvs :: ds)).bind fun d => match d with
      | .dct kvs' => some (.inl (env.set i (some (.op kvs'))))
      | _ => none
    | _ => none
def evSs : Ss → Env → Option (Env ⊕ D)
  | .nil, env => some (.inl env)
  | .cons s ss, env => (evS s env).bind fun r => match r with
    | .inl env' => evSs ss env'
    | .inr d => some (.inr d)
  | .skip c ss, env => (evE F cg c env).bind fun t => (evB t).bind fun t => if t = true then some (.inl env) else evSs ss env
end
end
section
variable {Fv : Nat → List D → Option D} {F : Nat → List D → (D → Prop) → Prop} {cg : Nat → D} (hF : ∀ j ds d Q, Fv j ds = some d → Q d → F j ds Q)
include hF
mutual
theorem evS_ok : ∀ (s : S) (env : Env) (r : Env ⊕ D) (k : Kn), evS Fv cg s env = some r → k.at r → wS F cg s env k
  | .asg i e, env, r, k, h, q => by
    unfold evS at h; unfold wS
    obtain ⟨x, h1, h⟩ := bd_some h
    cases h
    exact evE_ok hF e env _ _ h1 q
  | .unp is e, env, r, k, h, q => by
    unfold evS at h; unfold wS
    obtain ⟨x, h1, h⟩ := bd_some h
    obtain ⟨y, h2, h⟩ := bd_some h
    cases h
    refine evE_ok hF e env _ _ h1 ?_
    rw [h2]
    exact q
  | .ret e, env, r, k, h, q => by
    unfold evS at h; unfold wS
    obtain ⟨x, h1, h⟩ := bd_some h
    cases h
    exact evOp_ok (evE_ok hF e env) h1 q
  | .retn, _, _, _, h, q => by unfold evS at h; unfold wS; cases h; exact q
  | .ifs c a b, env, r, k, h, q => by
    unfold evS at h; unfold wS
    obtain ⟨x, h1, h⟩ := bd_some h
    obtain ⟨y, h2, h⟩ := bd_some h
    refine evE_ok hF c env _ _ h1 (evB_ok h2 ?_)
    split at h
    · rename_i hz
      rw [if_pos hz]
      exact evSs_ok a env _ _ h q
    · rename_i hz
      rw [if_neg hz]
      exact evSs_ok b env _ _ h q
  | .fors tg it body, env, r, k, h, q => by
    unfold evS at h; unfold wS
    obtain ⟨x, h1, h⟩ := bd_some h
    obtain ⟨ds, h2, h⟩ := bd_some h
    refine ⟨itB_ok (gd_some h1).1, evI_ok hF it env _ _ h2 (evFor_ok (fun d env r k hr hk => ?_) ds env r k h q)⟩
    obtain ⟨env', e1, hr⟩ := bd_some hr
    rw [e1]
    exact evSs_ok body env' _ _ hr hk
  | .whiles _ _, _, _, _, h, _ => by unfold evS at h; cases h
  | .append i e, env, r, k, h, q => by
    unfold evS at h; unfold wS
    split at h
    · rename_i e1
      try rw [e1]
      obtain ⟨x, h1, h⟩ := bd_some h
      obtain ⟨y, h2, h⟩ := bd_some h
      cases h
      exact ⟨of_decide_eq_true (gd_some h1).1, evE_ok hF e env _ _ h2 q⟩
    · cases h
  | .extend i e, env, r, k, h, q => by
    unfold evS at h; unfold wS
    split at h
    · rename_i e1
      try rw [e1]
      obtain ⟨x, h1, h⟩ := bd_some h
      refine evOp_ok (evE_ok hF e env) h1 ?_
      cases x <;> first | (cases h; done) | skip
      obtain ⟨h2, rfl⟩ := gd_some h
      exact ⟨of_decide_eq_true h2, q⟩
    · cases h
  | .aug i op e, env, r, k, h, q => by
    unfold evS at h; unfold wS
    split at h
    · rename_i e1
      try rw [e1]
      obtain ⟨x, h1, h⟩ := bd_some h
      obtain ⟨y, h2, h⟩ := bd_some h
      obtain ⟨z, h3, h⟩ := bd_some h
      cases h
      refine ⟨of_decide_eq_true (gd_some h1).1, evOp_ok (evE_ok hF e env) h2 ?_⟩
      rw [evInt_ok h3]
      exact q
    · cases h
  | .pop _ _ _, _, _, _, h, _ => by unfold evS at h; cases h
  | .lput _ _ _, _, _, _, h, _ => by unfold evS at h; cases h
  | .dupd i e, env, r, k, h, q => by
    unfold evS at h; unfold wS
    split at h
    · rename_i e1
      try rw [e1]
      obtain ⟨x, h1, h⟩ := bd_some h
      refine evE_ok hF e env _ _ h1 ?_
      split at h
      · rename_i e2
        try rw [e2]
        obtain ⟨h2, rfl⟩ := gd_some h
        exact ⟨of_decide_eq_true h2, q⟩
      · cases h
    · cases h
  | .dput i ke e, env, r, k, h, q => by
    unfold evS at h; unfold wS
    split at h
    · rename_i e1
      try rw [e1]
      obtain ⟨x, h1, h⟩ := bd_some h
      obtain ⟨y, h2, h⟩ := bd_some h
      obtain ⟨z, h3, h⟩ := bd_some h
      obtain ⟨u, h4, h⟩ := bd_some h
      cases h
      refine ⟨of_decide_eq_true (gd_some h1).1, evE_ok hF e env _ _ h2 (evOp_ok (evE_ok hF ke env) h3 ?_)⟩
      rw [h4]
      exact q
    · rename_i e1
      try rw [e1]
      obtain ⟨x, h1, h⟩ := bd_some h
      obtain ⟨y, h2, h⟩ := bd_some h
      obtain ⟨z, h3, h⟩ := bd_some h
      obtain ⟨u, h4, h⟩ := bd_some h
      cases h
      refine ⟨of_decide_eq_true (gd_some h1).1, evE_ok hF e env _ _ h2 (evOp_ok (evE_ok hF ke env) h3 ?_)⟩
      rw [h4]
      exact q
    · cases h
  | .par i j es, env, r, k, h, q => by
    unfold evS at h; unfold wS
    obtain ⟨x, h1, h⟩ := bd_some h
    refine evV_ok hF es env _ _ h1 ?_
    split at h
    · cases h
      exact q
    · cases h
  | .freeze i, env, r, k, h, q => by
    unfold evS at h; unfold wS
    split at h
    · rename_i e1
      try rw [e1]
      cases h
      exact q
    · cases h
  | .lock i, env, r, k, h, q => by
    unfold evS at h; unfold wS
    split at h
    · rename_i e1
      try rw [e1]
      cases h
      exact q
    · cases h
  | .sfld _ _ _ _, _, _, _, h, q => by unfold evS at h; cases h
  | .apop _ _ _, _, _, _, h, q => by unfold evS at h; cases h
  | .pass, _, _, _, h, q => by unfold evS at h; unfold wS; cases h; exact q
  | .expr e, env, r, k, h, q => by
    unfold evS at h; unfold wS
    obtain ⟨x, h1, h⟩ := bd_some h
    cases h
    exact evE_ok hF e env _ _ h1 q
  | .lend _ j _ i es, env, r, k, h, q => by
    unfold evS at h; unfold wS
    split at h
    · rename_i e1
      try rw [e1]
      obtain ⟨x, h1, h⟩ := bd_some h
      obtain ⟨y, h2, h⟩ := bd_some h
      refine evV_ok hF es env _ _ h1 (hF _ _ _ _ h2 ?_)
      cases y <;> first | (cases h; done) | skip
      cases h
      exact q
    · rename_i e1
      try rw [e1]
      obtain ⟨x, h1, h⟩ := bd_some h
      obtain ⟨y, h2, h⟩ := bd_some h
      refine evV_ok hF es env _ _ h1 (hF _ _ _ _ h2 ?_)
      cases y <;> first | (cases h; done) | skip
      cases h
      exact q
    · cases h
theorem evSs_ok : ∀ (s : Ss) (env : Env) (r : Env ⊕ D) (k : Kn), evSs Fv cg s env = some r → k.at r → wSs F cg s env k
  | .nil, _, _, _, h, q => by unfold evSs at h; unfold wSs; cases h; exact q
  | .cons s ss, env, r, k, h, q => by
    unfold evSs at h; unfold wSs
    obtain ⟨x, h1, h⟩ := bd_some h
    cases x with
    | inl env' => exact evS_ok s env _ ⟨fun env' => wSs F cg ss env' k, k.rt⟩ h1 (evSs_ok ss env' r k h q)
    | inr d =>
      cases h
      exact evS_ok s env _ ⟨fun env' => wSs F cg ss env' k, k.rt⟩ h1 q
  | .skip c ss, env, r, k, h, q => by
    unfold evSs at h; unfold wSs
    obtain ⟨x, h1, h⟩ := bd_some h
    obtain ⟨y, h2, h⟩ := bd_some h
    refine evE_ok hF c env _ _ h1 (evB_ok h2 ?_)
    split at h
    · rename_i hz
      rw [if_pos hz]
      cases h
      exact q
    · rename_i hz
      rw [if_neg hz]
      exact evSs_ok ss env _ _ h q
end
end
def run (tab : List Fn) (cg : Nat → D) : Nat → Nat → List D → Option D
  | 0, _, _ => none
  | k + 1, j, ds => match tab[j]? with
    | some (.body n m b) => if ds.length = n then match evSs (run tab cg k) cg b (start0 ds m) with
      | some (.inr d) => some d
      | some (.inl _) => some .non
      | none => none
      else none
    | some (.lent n m p b) => match ds with
      | .dct kvs :: r => if r.length + 1 = n ∧ p < n then match evSs (run tab cg k) cg b (startL kvs r m p) with
        | some (.inl env) => match slot env p with
          | some (.op kvs') => some (.dct kvs')
          | _ => none
        | _ => none
        else none
      | _ => none
    | _ => none
theorem run_ok {tab : List Fn} {cg : Nat → D} : ∀ {k K j : Nat} {ds : List D} {d : D} {Q : D → Prop}, k ≤ K → run tab cg k j ds = some d → Q d → Phi tab cg K j ds Q
  | 0, _, _, _, _, _, _, h, _ => nomatch h
  | _ + 1, 0, _, _, _, _, hk, _, _ => nomatch hk
  | k + 1, K + 1, j, ds, d, Q, hk, h, q => by
    unfold run at h
    unfold Phi
    split at h
    · rename_i n m b e
      try rw [e]
      split at h
      · rename_i hl
        refine ⟨hl, ?_⟩
        split at h
        · rename_i e2
          cases h
          exact evSs_ok (Fv := run tab cg k) (F := Phi tab cg K) (fun j ds d Q h q => run_ok (Nat.le_of_succ_le_succ hk) h q) b _ _ ⟨fun _ => Q .non, Q⟩ e2 q
        · rename_i e2
          cases h
          exact evSs_ok (Fv := run tab cg k) (F := Phi tab cg K) (fun j ds d Q h q => run_ok (Nat.le_of_succ_le_succ hk) h q) b _ _ ⟨fun _ => Q .non, Q⟩ e2 q
        · cases h
      · cases h
    · rename_i n m p b e
      try rw [e]
      cases ds with
      | nil => cases h
      | cons d0 r =>
        cases d0 with
        | dct kvs =>
          dsimp only at h ⊢
          split at h
          · rename_i hl
            refine ⟨hl, ?_⟩
            split at h
            · rename_i env e2
              refine evSs_ok (Fv := run tab cg k) (F := Phi tab cg K) (fun j ds d Q h q => run_ok (Nat.le_of_succ_le_succ hk) h q) b _ _ (lentK p Q) e2 ?_
              show (lentK p Q).nx env
              unfold lentK
              dsimp only
              split at h
              · rename_i e3
                try rw [e3]
                cases h
                exact q
              · cases h
            · cases h
          · cases h
        | _ => cases h
    · cases h
end LC

namespace LC
open PySem L2
def topS (i : Nat) : Stmt := PySem.Challenge.pw_linecourt_k42_whole_summed_kind_by_kind.main.body.getD i (.Pass ⟨0, 0, 0, 0⟩)
abbrev cellsF (n s : Int) (cs : List Int) : List V := .int n :: .int s :: cs.map V.int
def dkpF (H : Hp) (a c : Addr) : Prop := c = a ∧ ∃ (n s : Int) (cs : List Int), H a = some (.lst (cellsF n s cs)) ∧ cs.length ≤ 63
def GF (K : PySem.W.Frag) (fa : (Nat → Option Addr) × (Nat → Option Addr)) : Gx where
  K := K
  fa := fa.1
  ca := fa.2
  scr := fun ns => ns.length ≤ 63
  dkp := dkpF
  loc := fun H H' a c h e1 e2 => by
    obtain ⟨e, n, s, cs, h1, h3⟩ := h
    exact ⟨e, n, s, cs, e1.trans h1, h3⟩
  there := fun H a c h => by
    obtain ⟨e, n, s, cs, h1, h3⟩ := h
    subst e
    exact ⟨fun z => (by rw [h1] at z; cases z), fun z => (by rw [h1] at z; cases z)⟩
def p_l_mixed : List D → (D → Prop) → Prop := fun ds Q => ∃ a b : Int, ds = [.int a, .int b] ∧ ∀ n : Int, Q (.int n)
def p_l_deck : List D → (D → Prop) → Prop := fun ds Q => ds = [.script] ∧ Q .deck
def p_l_draw : List D → (D → Prop) → Prop := fun ds Q => ∃ m : Int, ds = [.deck, .int m] ∧ 0 < m ∧ m < 1073741824 ∧ ∀ n : Int, 0 ≤ n → n < m → Q (.int n)
section
variable {P : Program} {w : World} {K : PySem.W.Frag} {mg : Str → Option Value} {base : Heap} {fa : (Nat → Option Addr) × (Nat → Option Addr)}
def spM : Sp := fun vs H Q _ => ∃ a b : Int, vs = [.int a, .int b] ∧ ∀ n : Int, Q (.int n) H
theorem scM : FnScope ["_law_cell", "_law_k", "_law_number"] ["_law_cell", "_law_k"] (defScope (topS 6)) := ⟨rfl, rfl, rfl, by decide +kernel, rfl, by decide +kernel, by decide +kernel⟩
theorem m64 (a m : Int) (h : 0 < m) (h2 : m < 2 ^ 63) : -(2 ^ 64) < a % m ∧ a % m < 2 ^ 64 := by
  have h1 := Int.emod_nonneg a (show m ≠ 0 by omega)
  have h2 := Int.emod_lt_of_pos a h
  omega
theorem ok_mixed {f : Addr} {fd : FuncData} (F : Fun K "_law_mixed" "_law_mixed" (topS 6) f fd) : FnOk P w K mg base CX0 1 f fd ["_law_cell", "_law_k"] spM := by
  refine F.ok scM (fun vs H Q E h => ?_) (fun cdv A outer s H vs Q E hr h => ?_)
  · obtain ⟨a, b, rfl, _⟩ := h
    rfl
  · obtain ⟨a, b, rfl, k⟩ := h
    refine ⟨_, pss_cons (ps_set (i := 2) scM.nd rfl (.inl rfl) (pe_op op_mod (pe_op op_add (pe_op op_add (pe_op op_mul (pe_op op_mod (pv 0) pe_int) pe_int) (pe_op op_mul (pv 1) pe_int)) pe_int) pe_int))
      (pss_cons (ps_set (i := 2) scM.nd rfl (.inl rfl) (pe_op op_mod (pe_op op_add (pe_op op_add (pe_op op_mul (pv 2) (pv 2)) (pe_op op_mul pe_int (pv 2))) (pv 1)) pe_int))
      (pss_one (ps_ret (pe_op op_mod (pe_op op_mul (pe_op op_add (pe_op op_mul (pe_op op_mod (pv 2) pe_int) pe_int) (pe_op op_fdiv (pv 2) pe_int)) pe_int) pe_int)))), ?_⟩
    refine ⟨_, rfl, _, _, rfl, rfl, (show (0 : Int) < _ by decide), _, _, rfl, rfl, .inr ⟨by decide, by decide⟩, _, rfl, _, _, rfl, rfl, .inr ⟨by decide, by decide⟩, _, _, rfl, rfl, _, _, rfl, rfl, _, _, rfl, rfl, (show (0 : Int) < _ by decide), ?_⟩
    refine ⟨_, rfl, _, rfl, _, _, rfl, rfl, .inl (m64 _ _ (by decide) (by decide)), _, rfl, _, _, rfl, rfl, .inl ⟨by decide, by decide⟩, _, _, rfl, rfl, _, rfl, _, _, rfl, rfl, _, _, rfl, rfl, (show (0 : Int) < _ by decide), ?_⟩
    refine ⟨_, rfl, _, _, rfl, rfl, (show (0 : Int) < _ by decide), _, _, rfl, rfl, .inr ⟨by decide, by decide⟩, _, rfl, _, _, rfl, rfl, ⟨by decide, by decide⟩, _, _, rfl, rfl, _, _, rfl, rfl, .inr ⟨by decide, by decide⟩, _, _, rfl, rfl, (show (0 : Int) < _ by decide), ?_⟩
    exact k _
theorem scD : FnScope ["_law_script", "_law_cells"] ["_law_script"] (defScope (topS 7)) := ⟨rfl, rfl, rfl, by decide +kernel, rfl, by decide +kernel, by decide +kernel⟩
theorem ok_deck {f : Addr} {fd : FuncData} (F : Fun K "_law_deck" "_law_deck" (topS 7) f fd) (g1 : mg "list" = none) (g3 : mg "sum" = none) : FnOk P w K mg base CX0 2 f fd ["_law_script"] (spOf (GF K fa) 1 p_l_deck) := by
  refine F.ok scD (fun vs H Q E h => h.1) (fun cdv A outer s H vs Q E hr h => ?_)
  obtain ⟨hl, Z, ds, ok, rl, e, k⟩ := h
  subst e
  cases rl with | cons r0 r => ?_
  cases r
  cases r0 with | script sq sc => ?_
  rename_i a ns
  refine ⟨_, pss_cons (ps_set (i := 1) scD.nd rfl (.inl rfl) (pe_callTy call_list_of rfl g1 (by decide +kernel) (pa_cons (pe_slice sl_list (pv 0) po_none (po_some pe_int)) pa_nil)))
    (pss_one (ps_ret (pe_op op_cat (pe_lst (pa_cons pe_int (pa_cons (pe_op op_mod (pe_callB (cr_sum rfl) rfl g3 (by decide +kernel) (pa_cons (pv 1) pa_nil)) pe_int) pa_nil))) (pe_revA (pv 1))))), ?_⟩
  have sH : SqL K H a (ns.map V.int) := sqL_mono ok.le sq
  refine ⟨_, rfl, _, rfl, a, _, rfl, sH, fun p1 n1 => ⟨p1, _, rfl, .inl (sqCut ns none _), fun p2 n2 => ?_⟩⟩
  have k1 : ∀ b u, H b = some u → _ := kept_upd (o := .lst (cutV (ns.map V.int) none (some 63))) n1
  have k2 := kept_upd (o := .lst ((cut ns none (some 63)).map V.int)) n2
  have e2 := upd_at (H := upd H p1 (.lst (cutV (ns.map V.int) none (some 63)))) (p := p2) (o := .lst ((cut ns none (some 63)).map V.int))
  refine ⟨_, rfl, p2, _, rfl, SqL.of e2, _, _, rfl, rfl, (show (0 : Int) < _ by decide), (show 2 ≤ sizeLine by decide), fun p3 n3 => ?_⟩
  have k3 := kept_upd (o := .lst [.int 0, .int ((cut ns none (some 63)).sum % 2147483647)]) n3
  have e3 := k3 _ _ e2
  refine ⟨_, rfl, p2, _, rfl, .inl ⟨SqL.of e3, fun p4 n4 => ?_⟩⟩
  have k4 := kept_upd (o := .lst ((cut ns none (some 63)).map V.int).reverse) n4
  refine ⟨p3, p4, _, _, rfl, rfl, k4 _ _ upd_same, upd_same, ?_, fun p5 n5 => ?_⟩
  · have := cut_len ns none (some 63)
    have sc' : ns.length ≤ 63 := sc
    rw [List.length_reverse, List.length_map]
    exact Nat.le_trans (show 2 + (cut ns none (some 63)).length ≤ 65 by omega) (by decide)
  have k5 := kept_upd (o := .lst ([.int 0, .int ((cut ns none (some 63)).sum % 2147483647)] ++ ((cut ns none (some 63)).map V.int).reverse)) n5
  have kk := fun b u e => k4 b u (k3 b u (k2 b u (k1 b u e)))
  refine k ⟨Z.F, fun q => Z.dk q ∨ q = (p5, p5)⟩ _ _ (Ext.deck ok (fun b u e => k5 b u (kk b u e)) (back_none kk n5) (back_none kk n5) ?_) (.deck (.inr rfl))
  refine ⟨rfl, 0, (cut ns none (some 63)).sum % 2147483647, (cut ns none (some 63)).reverse, ?_, ?_⟩
  · rw [upd_same]
    simp [cellsF]
  · rw [List.length_reverse]
    exact Nat.le_trans (cut_len ns none (some 63)) sc
theorem scT : FnScope ["_law_deck_here", "_law_most", "_law_cell"] ["_law_deck_here", "_law_most"] (defScope (topS 8)) := ⟨rfl, rfl, rfl, by decide +kernel, rfl, by decide +kernel, by decide +kernel⟩
theorem ok_draw {f fM : Addr} {fd fdM : FuncData} (F : Fun K "_law_draw" "_law_draw" (topS 8) f fd) (FM : Fun K "_law_mixed" "_law_mixed" (topS 6) fM fdM) (bM : Binds K fdM ["_law_cell", "_law_k"] []) (mM : mg "_law_mixed" = some (.ref fM)) (g4 : mg "len" = none) :
    FnOk P w K mg base CX0 2 f fd ["_law_deck_here", "_law_most"] (spOf (GF K fa) 2 p_l_draw) := by
  have GM : FnOk P w K mg base CX0 1 fM fdM ["_law_cell", "_law_k"] spM := ok_mixed FM
  refine F.ok scT (fun vs H Q E h => h.1) (fun cdv A outer s H vs Q E hr h => ?_)
  obtain ⟨hl, Z, ds, ok, rl, m, e, m0, m1, k⟩ := h
  subst e
  cases rl with | cons r0 r => ?_
  cases r with | cons r1 r => ?_
  cases r
  cases r1
  cases r0 with | deck hd => ?_
  rename_i a c
  obtain ⟨⟨eac, n, sm, cs, ha, hn⟩, f1, f2⟩ := ok.dk a c hd
  subst eac
  refine ⟨_, pss_cons (ps_asg (pe_op op_add (pe_ix ix_list (pv 0) pe_int (fun _ _ => rfl)) pe_int) (pg_sub (pv 0) pe_int set_list))
    (pss_cons (ps_if (pt_cmpR op_lt (pe_callB call_len_seq rfl g4 PySem.boot_len (pa_cons (pv 0) pa_nil)) pe_int (nomark _))
      (pss_one (ps_ret (pe_op op_mod (pe_call GM hr (by rfl) mM FM.kp bM .nil pass0 (pa_cons (pe_ix ix_list (pv 0) pe_int (fun _ _ => rfl)) (pa_cons (pe_ix ix_list (pv 0) pe_int (fun _ _ => rfl)) pa_nil))) (pv 1)))) pss_nil)
    (pss_cons (ps_set (i := 2) scT.nd rfl (.inl rfl) (pe_bm0 PySem.F.plainAttrs_list PySem.F.slot_list_pop PySem.F.type_list_pop mt_pop (pv 0)))
    (pss_cons (ps_if (pt_cmpR op_lt (pv 2) (pe_op op_pow pe_int pe_int) (nomark _))
      (pss_one (ps_ret (pe_op op_mod (pe_call GM hr (by rfl) mM FM.kp bM .nil pass0 (pa_cons (pv 2) (pa_cons (pe_ix ix_list (pv 0) pe_int (fun _ _ => rfl)) pa_nil))) (pv 1)))) pss_nil)
    (pss_cons (ps_expr (pe_bm PySem.F.plainAttrs_list PySem.F.slot_list_append PySem.F.type_list_append mt_append (pv 0) (pa_cons (pe_op op_fdiv (pv 2) (pv 1)) pa_nil)))
    (pss_one (ps_ret (pe_op op_mod (pv 2) (pv 1)))))))), ?_⟩
  have fin : ∀ (H' : Hp) (cs' : List Int) (n' : Int), H' c = some (.lst (cellsF n' sm cs')) → cs'.length ≤ 63 → (∀ b o, b ≠ c → H b = some o → H' b = some o) → ∀ x : Int, Q (.int (x % m)) H' := fun H' cs' n' h1 h3 h4 x =>
    k (x % m) (Int.emod_nonneg x (by omega)) (Int.emod_lt_of_pos x m0) Z H' _ (Ext.draw ok hd (fun b o h1 _ e => h4 b o h1 e) ⟨rfl, n', sm, cs', h1, h3⟩) (.int _)
  have t0 : ∀ (n : Int) (cs : List Int), atI (cellsF n sm cs) 0 = some (.int n) := fun n cs => L2.atI_nat (j := 0) rfl
  have t1 : ∀ (n : Int) (cs : List Int), atI (cellsF n sm cs) 1 = some (.int sm) := fun n cs => L2.atI_nat (j := 1) rfl
  have x0 : ∀ (n : Int) (cs : List Int), ixN (cellsF n sm cs).length 0 = some 0 := fun n cs => by
    unfold ixN
    rw [if_pos (by decide), if_pos (by rw [List.length_cons]; omega)]
    rfl
  refine ⟨_, rfl, c, _, _, _, rfl, rfl, SqL.of ha, t0 n cs, _, _, rfl, rfl, _, rfl, c, _, _, 0, rfl, rfl, ha, x0 n cs, ?_⟩
  have a2 : upd H c (.lst (cellsF (n + 1) sm cs)) c = some (.lst (cellsF (n + 1) sm cs)) := upd_same
  have o2 : ∀ b o, b ≠ c → H b = some o → upd H c (.lst (cellsF (n + 1) sm cs)) b = some o := fun b o h1 e => by
    rw [upd_ne h1]
    exact e
  show tSeq _ _ _ _ (upd H c (.lst (cellsF (n + 1) sm cs)))
  generalize upd H c (.lst (cellsF (n + 1) sm cs)) = H2 at a2 o2 ⊢
  refine ⟨_, rfl, c, _, rfl, .inl (SqL.of a2), _, _, rfl, rfl, _, rfl, ?_⟩
  rcases List.eq_nil_or_concat cs with e | ⟨cr, z, e⟩
  · subst e
    refine onT (decide_eq_true (show (2 : Int) < 3 by decide)) ?_
    refine ⟨_, rfl, c, _, _, _, rfl, rfl, SqL.of a2, t1 _ _, _, rfl, c, _, _, _, rfl, rfl, SqL.of a2, t0 _ _, _, _, rfl, fun y => ?_⟩
    exact ⟨_, rfl, _, _, rfl, rfl, m0, fin _ [] _ a2 (Nat.zero_le _) o2 _⟩
  · rw [List.concat_eq_append] at e
    have e1 : cellsF (n + 1) sm cs = cellsF (n + 1) sm cr ++ [V.int z] := by
      rw [e, cellsF, List.map_append]
      rfl
    have ly : (cellsF (n + 1) sm cs)[(cellsF (n + 1) sm cs).length - 1]? = some (V.int z) := by
      rw [e1]
      simp
    have ld : (cellsF (n + 1) sm cs).dropLast = cellsF (n + 1) sm cr := by
      rw [e1, List.dropLast_concat]
    have ll : cr.length + 1 ≤ 63 := by
      rw [e, List.length_append] at hn
      exact hn
    refine onF (decide_eq_false ?_) ?_
    · rw [e1]
      simp only [List.length_append, List.length_cons, List.length_nil]
      omega
    refine ⟨_, rfl, .inl ⟨rfl, _, SqL.of a2⟩, c, _, _, rfl, rfl, a2, ly, ?_⟩
    rw [ld]
    have a3 : upd H2 c (.lst (cellsF (n + 1) sm cr)) c = some (.lst (cellsF (n + 1) sm cr)) := upd_same
    have o3 : ∀ b o, b ≠ c → H b = some o → upd H2 c (.lst (cellsF (n + 1) sm cr)) b = some o := fun b o h1 e => by
      rw [upd_ne h1]
      exact o2 b o h1 e
    generalize upd H2 c (.lst (cellsF (n + 1) sm cr)) = H3 at a3 o3 ⊢
    refine ⟨_, rfl, _, _, rfl, rfl, ⟨by decide, by decide, by decide⟩, _, _, rfl, rfl, _, rfl, ?_⟩
    by_cases hz : z < 10 ^ (18 : Int).toNat
    · refine onT (decide_eq_true hz) ?_
      refine ⟨_, rfl, _, rfl, c, _, _, _, rfl, rfl, SqL.of a3, t0 _ _, _, _, rfl, fun y => ?_⟩
      exact ⟨_, rfl, _, _, rfl, rfl, m0, fin _ cr _ a3 (by omega) o3 _⟩
    · refine onF (decide_eq_false hz) ?_
      refine ⟨_, rfl, .inl ⟨rfl, _, SqL.of a3⟩, _, rfl, _, rfl, _, _, rfl, rfl, ⟨m0, m1⟩, c, _, _, rfl, rfl, a3, ?_, ?_⟩
      · simp only [List.length_cons, List.length_map]
        exact Nat.lt_of_le_of_lt (show cr.length + 1 + 1 ≤ 65 by omega) (by decide)
      · refine ⟨_, rfl, _, rfl, _, _, rfl, rfl, m0, fin _ (cr ++ [z / m]) (n + 1) ?_ (by rw [List.length_append]; exact ll) (fun b o h1 e => ?_) z⟩
        · rw [upd_same]
          simp [cellsF]
        · rw [upd_ne h1]
          exact o3 b o h1 e
theorem prim_mixed {f : Addr} {fd : FuncData} (F : Fun K "_law_mixed" "_law_mixed" (topS 6) f fd) : FnOk P w K mg base CX0 5 f fd ["_law_cell", "_law_k"] (spOf (GF K fa) 2 p_l_mixed) := by
  refine ((ok_mixed F).mono (by decide)).imp fun vs H Q E h => ?_
  obtain ⟨hl, Z, ds, ok, rl, a, b, e, k⟩ := h
  subst e
  cases rl with | cons r0 r => ?_
  cases r with | cons r1 r => ?_
  cases r
  cases r1
  cases r0
  exact ⟨a, b, rfl, fun n => k n Z H _ (.refl ok) (.int n)⟩
end
theorem mono_mixed : ∀ ds Q Q', (∀ d, Q d → Q' d) → p_l_mixed ds Q → p_l_mixed ds Q' := fun ds Q Q' h ⟨a, b, e, k⟩ => ⟨a, b, e, fun n => h _ (k n)⟩
theorem mono_deck : ∀ ds Q Q', (∀ d, Q d → Q' d) → p_l_deck ds Q → p_l_deck ds Q' := fun ds Q Q' h ⟨e, k⟩ => ⟨e, h _ k⟩
theorem mono_draw : ∀ ds Q Q', (∀ d, Q d → Q' d) → p_l_draw ds Q → p_l_draw ds Q' := fun ds Q Q' h ⟨m, e, h1, h2, k⟩ => ⟨m, e, h1, h2, fun n a b => h _ (k n a b)⟩
def b_laid_on_1 : Ss :=
 (.cons (.dput 0 (.var 5) (.bin .add (.dget (.var 0) (.var 5) (.some (.int 0))) (.bin .mul (.var 6) (.var 2))))
 .nil)
def b_laid_on : Ss :=
 (.cons (.unp [3, 4] (.var 1))
 (.cons (.dput 0 (.str []) (.bin .add (.dget (.var 0) (.str []) (.some (.int 0))) (.bin .mul (.var 4) (.var 2))))
 (.cons (.fors (.tup [5, 6]) (.of (.tp (.var 3))) b_laid_on_1)
 .nil)))
def b_over : Ss :=
 (.cons (.lend "laid_on" 0 0 1 (.cons (.ix (.var 0) (.int 1)) (.cons (.var 2) .nil)))
 (.cons (.lend "laid_on" 0 0 1 (.cons (.ix (.var 0) (.int 2)) (.cons (.bin .sub (.int 0) (.var 2)) .nil)))
 .nil))
def b_are_times : Ss :=
 (.cons (.ifs (.cmp .ne (.bi .len (.cons (.var 0) .nil)) (.var 1)) (.cons (.ret (.bl false))
 .nil) .nil)
 (.cons (.ret (.bi .all (.cons (.lc (.conj (.cons (.isinst (.var 2) .int) (.cons (.not (.isinst (.var 2) .bool)) (.cons (.cmp .ge (.var 2) (.int 0)) .nil)))) (.name 2) (.of (.var 0)) .nil [("often", 2)]) .nil)))
 .nil))
def b_summed_1 : Ss :=
 (.cons (.lend "over" 1 1 3 (.cons (.var 4) (.cons (.bin .sub (.int 0) (.var 5)) .nil)))
 .nil)
def b_summed : Ss :=
 (.cons (.ifs (.disj (.cons (.not (.call "are_times" 2 (.cons (.var 2) (.cons (.bi .len (.cons (.var 1) .nil)) .nil)))) (.cons (.not (.bi .all (.cons (.lc (.cmp .eq (.ix (.var 4) (.int 0)) (.str [108, 101, 97, 115, 116])) (.name 4) (.of (.bin .add (.tup (.cons (.var 0) .nil)) (.bi .tuple (.cons (.var 1) .nil)))) .nil [("one", 4)]) .nil))) .nil))) (.cons (.ret (.bl false))
 .nil) .nil)
 (.cons (.asg 3 .dict0)
 (.cons (.lend "over" 1 1 3 (.cons (.var 0) (.cons (.int 1) .nil)))
 (.cons (.fors (.tup [4, 5]) (.zip (.var 1) (.var 2)) b_summed_1)
 (.cons (.lock 3)
 (.cons (.ret (.bi .all (.cons (.lc (.cmp .ge (.ix (.var 3) (.var 6)) (.int 0)) (.name 6) (.of (.var 3)) .nil [("kind", 6)]) .nil)))
 .nil))))))
def b_l_word_1 : Ss :=
 (.cons (.asg 4 (.bin .add (.var 4) (.ix (.var 3) (.call "_law_draw" 6 (.cons (.var 0) (.cons (.int 26) .nil))))))
 .nil)
def b_l_word : Ss :=
 (.cons (.asg 3 (.str [97, 98, 99, 100, 101, 102, 103, 104, 105, 106, 107, 108, 109, 110, 111, 112, 113, 114, 115, 116, 117, 118, 119, 120, 121, 122]))
 (.cons (.asg 4 (.str []))
 (.cons (.fors (.name 5) (.range1 (.bin .add (.var 1) (.call "_law_draw" 6 (.cons (.var 0) (.cons (.bin .add (.bin .sub (.var 2) (.var 1)) (.int 1)) .nil))))) b_l_word_1)
 (.cons (.ret (.var 4))
 .nil))))
def b_l_kinds_1 : Ss :=
 (.cons (.asg 5 (.call "_law_word" 7 (.cons (.var 0) (.cons (.int 2) (.cons (.int 8) .nil)))))
 (.cons (.asg 6 (.call "_law_draw" 6 (.cons (.var 0) (.cons (.int 3) .nil))))
 (.cons (.ifs (.conj (.cons (.cmp .eq (.var 6) (.int 1)) (.cons (.cmp .ne (.var 3) (.lst .nil)) .nil))) (.cons (.asg 5 (.cut (.bin .add (.ix (.var 3) (.int 0)) (.var 5)) .none (.some (.int 8))))
 .nil) .nil)
 (.cons (.ifs (.conj (.cons (.cmp .eq (.var 6) (.int 2)) (.cons (.cmp .ne (.var 3) (.lst .nil)) .nil))) (.cons (.asg 7 (.call "_law_draw" 6 (.cons (.var 0) (.cons (.bi .len (.cons (.ix (.var 3) (.int 0)) .nil)) .nil))))
 (.cons (.asg 5 (.bin .add (.bin .add (.cut (.ix (.var 3) (.int 0)) .none (.some (.var 7))) (.ix (.var 5) (.int 0))) (.cut (.ix (.var 3) (.int 0)) (.some (.bin .add (.var 7) (.int 1))) .none)))
 .nil)) .nil)
 (.cons (.ifs (.disj (.cons (.cmp .isin (.var 5) (.var 2)) (.cons (.cmp .isin (.var 5) (.var 3)) .nil))) (.cons (.asg 5 (.ix (.lc (.var 8) (.name 8) (.of (.lc (.bin .add (.str [113]) (.var 9)) (.name 9) (.of (.str [97, 98, 99, 100, 101, 102, 103, 104, 105, 106, 107, 108, 109, 110, 111, 112, 113, 114, 115, 116])) .nil [("_law_sign", 9)])) (.cons (.cmp .notin (.var 8) (.var 3)) .nil) [("_law_one", 8)]) (.int 0)))
 .nil) .nil)
 (.cons (.freeze 5)
 (.cons (.append 3 (.var 5))
 .nil)))))))
def b_l_kinds : Ss :=
 (.cons (.asg 2 (.str [97, 98, 115, 117, 114, 100, 32, 97, 108, 108, 32, 97, 110, 32, 97, 110, 100, 32, 97, 110, 121, 32, 97, 114, 101, 32, 97, 115, 32, 97, 116, 32, 98, 101, 32, 98, 121, 32, 102, 97, 108, 115, 101, 32, 105, 102, 32, 105, 115, 32, 108, 101, 97, 115, 116, 32, 109, 97, 110, 121, 32, 109, 111, 114, 101, 32, 110, 111, 32, 110, 111, 116, 32, 111, 110, 108, 121, 32, 111, 114, 32, 115, 97, 109, 101, 32, 115, 111, 109, 101, 32, 116, 104, 97, 110]))
 (.cons (.asg 2 (.mt .split (.bin .add (.var 2) (.str [32, 116, 104, 101, 32, 116, 104, 101, 110, 32, 116, 104, 101, 114, 101, 32, 101, 118, 101, 114, 121, 32, 101, 105, 116, 104, 101, 114, 32, 117, 110, 108, 101, 115, 115])) (.cons (.str [32]) .nil)))
 (.cons (.asg 3 (.lst .nil))
 (.cons (.fors (.name 4) (.range1 (.var 1)) b_l_kinds_1)
 (.cons (.ret (.var 3))
 .nil)))))
def b_l_names_1 : Ss :=
 (.cons (.asg 4 (.bin .add (.ix (.str [65, 66, 67, 68, 69, 70, 71, 72, 73, 74, 75, 76, 77, 78, 79, 80, 81, 82, 83, 84, 85, 86, 87, 88, 89, 90]) (.call "_law_draw" 6 (.cons (.var 0) (.cons (.int 26) .nil)))) (.call "_law_word" 7 (.cons (.var 0) (.cons (.int 0) (.cons (.int 7) .nil))))))
 (.cons (.ifs (.cmp .isin (.var 4) (.var 2)) (.cons (.asg 4 (.ix (.lc (.var 5) (.name 5) (.of (.lst (.cons (.str [81, 97]) (.cons (.str [81, 98]) (.cons (.str [81, 99]) (.cons (.str [81, 100]) (.cons (.str [81, 101]) (.cons (.str [81, 102]) (.cons (.str [81, 103]) .nil))))))))) (.cons (.cmp .notin (.var 5) (.var 2)) .nil) [("_law_one", 5)]) (.int 0)))
 .nil) .nil)
 (.cons (.freeze 4)
 (.cons (.append 2 (.var 4))
 .nil))))
def b_l_names : Ss :=
 (.cons (.asg 2 (.lst .nil))
 (.cons (.fors (.name 3) (.range1 (.var 1)) b_l_names_1)
 (.cons (.ret (.var 2))
 .nil)))
def b_l_letter : Ss :=
 (.cons (.ret (.bin .add (.ix (.str [117, 118, 119, 120, 121, 122]) (.call "_law_draw" 6 (.cons (.var 0) (.cons (.int 6) .nil)))) (.ix (.lst (.cons (.str []) (.cons (.str [48]) (.cons (.str [49]) (.cons (.str [57]) .nil))))) (.call "_law_draw" 6 (.cons (.var 0) (.cons (.int 4) .nil))))))
 .nil)
def b_l_sum_1 : Ss :=
 (.cons (.ifs (.cmp .eq (.call "_law_draw" 6 (.cons (.var 0) (.cons (.int 2) .nil))) (.int 1)) (.cons (.append 3 (.tup (.cons (.var 4) (.cons (.bin .add (.int 1) (.call "_law_draw" 6 (.cons (.var 0) (.cons (.ix (.lst (.cons (.int 3) (.cons (.var 2) .nil))) (.call "_law_draw" 6 (.cons (.var 0) (.cons (.int 2) .nil)))) .nil)))) .nil))))
 .nil) .nil)
 .nil)
def b_l_sum : Ss :=
 (.cons (.asg 3 (.lst .nil))
 (.cons (.fors (.name 4) (.of (.bi .sorted (.cons (.var 1) .nil))) b_l_sum_1)
 (.cons (.ret (.tup (.cons (.tpkof (.var 3)) (.cons (.call "_law_draw" 6 (.cons (.var 0) (.cons (.ix (.lst (.cons (.int 4) (.cons (.var 2) .nil))) (.call "_law_draw" 6 (.cons (.var 0) (.cons (.int 2) .nil)))) .nil))) .nil))))
 .nil)))
def b_l_count : Ss :=
 (.cons (.ret (.bin .add (.ix (.var 0) (.int 1)) (.bi .sum (.cons (.lc (.bin .mul (.var 3) (.dget (.var 1) (.var 2) (.some (.int 0)))) (.tup [2, 3]) (.of (.tp (.ix (.var 0) (.int 0)))) .nil [("_law_kind", 2), ("_law_times", 3)]) .nil))))
 .nil)
def b_l_more : Ss :=
 (.cons (.ret (.bin .sub (.call "_law_count" 12 (.cons (.ix (.var 0) (.int 1)) (.cons (.var 1) .nil))) (.call "_law_count" 12 (.cons (.ix (.var 0) (.int 2)) (.cons (.var 1) .nil)))))
 .nil)
def b_l_over_1 : Ss :=
 (.cons (.asg 4 (.bin .sub (.var 4) (.bin .mul (.ix (.var 2) (.var 5)) (.call "_law_more" 13 (.cons (.ix (.var 1) (.var 5)) (.cons (.var 3) .nil))))))
 .nil)
def b_l_over : Ss :=
 (.cons (.asg 4 (.call "_law_more" 13 (.cons (.var 0) (.cons (.var 3) .nil))))
 (.cons (.fors (.name 5) (.range1 (.bi .len (.cons (.var 1) .nil))) b_l_over_1)
 (.cons (.ret (.var 4))
 .nil)))
def b_l_due : Ss :=
 (.cons (.ifs (.cmp .ne (.lc (.var 5) (.name 5) (.of (.bin .add (.tup (.cons (.var 0) .nil)) (.var 1))) (.cons (.cmp .ne (.ix (.var 5) (.int 0)) (.str [108, 101, 97, 115, 116])) .nil) [("_law_one", 5)]) (.lst .nil)) (.cons (.ret (.bl false))
 .nil) .nil)
 (.cons (.asg 4 (.call "_law_over" 14 (.cons (.var 0) (.cons (.var 1) (.cons (.var 2) (.cons .dict0 .nil))))))
 (.cons (.ifs (.cmp .lt (.var 4) (.int 0)) (.cons (.ret (.bl false))
 .nil) .nil)
 (.cons (.ret (.cmp .eq (.lc (.var 6) (.name 6) (.of (.var 3)) (.cons (.cmp .lt (.call "_law_over" 14 (.cons (.var 0) (.cons (.var 1) (.cons (.var 2) (.cons (.dict (.cons (.var 6) (.int 1) .nil)) .nil))))) (.var 4)) .nil) [("_law_kind", 6)]) (.lst .nil)))
 .nil))))
def b_l_side : Ss :=
 (.cons (.ret (.tup (.cons (.tpkof (.lc (.tup (.cons (.var 2) (.cons (.ix (.var 0) (.var 2)) .nil))) (.name 2) (.of (.bi .sorted (.cons (.var 0) .nil))) (.cons (.cmp .gt (.ix (.var 0) (.var 2)) (.int 0)) .nil) [("_law_kind", 2)])) (.cons (.var 1) .nil))))
 .nil)
def b_l_built_1 : Ss :=
 (.cons (.asg 10 (.bin .sub (.bi .sum (.cons (.lc (.bin .mul (.ix (.var 3) (.var 11)) (.call "_law_more" 13 (.cons (.ix (.var 2) (.var 11)) (.cons (.dict (.cons (.var 7) (.int 1) .nil)) .nil)))) (.name 11) (.range1 (.bi .len (.cons (.var 2) .nil))) .nil [("_law_k", 11)]) .nil)) (.var 4)))
 (.cons (.asg 8 (.ix (.lst (.cons (.int 0) (.cons (.int 1) (.cons (.int 5) .nil)))) (.call "_law_draw" 6 (.cons (.var 0) (.cons (.int 3) .nil)))))
 (.cons (.dput 5 (.var 7) (.bin .add (.bi .max (.cons (.int 0) (.cons (.var 10) .nil))) (.var 8)))
 (.cons (.dput 6 (.var 7) (.bin .add (.bi .max (.cons (.int 0) (.cons (.bin .sub (.int 0) (.var 10)) .nil))) (.var 8)))
 (.cons (.ifs (.cmp .eq (.call "_law_draw" 6 (.cons (.var 0) (.cons (.int 4) .nil))) (.int 1)) (.cons (.dput 5 (.var 7) (.bin .add (.bin .add (.ix (.var 5) (.var 7)) (.int 1)) (.call "_law_draw" 6 (.cons (.var 0) (.cons (.int 3) .nil)))))
 .nil) .nil)
 .nil)))))
def b_l_built : Ss :=
 (.cons (.asg 4 (.bi .sum (.cons (.lc (.bin .mul (.ix (.var 3) (.var 11)) (.call "_law_more" 13 (.cons (.ix (.var 2) (.var 11)) (.cons .dict0 .nil)))) (.name 11) (.range1 (.bi .len (.cons (.var 2) .nil))) .nil [("_law_k", 11)]) .nil)))
 (.cons (.asg 5 .dict0)
 (.cons (.asg 6 .dict0)
 (.cons (.fors (.name 7) (.of (.var 1)) b_l_built_1)
 (.cons (.asg 8 (.ix (.lst (.cons (.int 0) (.cons (.int 1) (.cons (.int 7) .nil)))) (.call "_law_draw" 6 (.cons (.var 0) (.cons (.int 3) .nil)))))
 (.cons (.asg 9 (.bin .add (.bin .add (.bi .max (.cons (.int 0) (.cons (.var 4) .nil))) (.var 8)) (.ix (.lst (.cons (.int 0) (.cons (.int 0) (.cons (.int 2) .nil)))) (.call "_law_draw" 6 (.cons (.var 0) (.cons (.int 3) .nil))))))
 (.cons (.freeze 5)
 (.cons (.freeze 6)
 (.cons (.freeze 9)
 (.cons (.ret (.tup (.cons (.str [108, 101, 97, 115, 116]) (.cons (.call "_law_side" 16 (.cons (.var 5) (.cons (.var 9) .nil))) (.cons (.call "_law_side" 16 (.cons (.var 6) (.cons (.bin .add (.bi .max (.cons (.int 0) (.cons (.bin .sub (.int 0) (.var 4)) .nil))) (.var 8)) .nil))) .nil)))))
 .nil))))))))))
def b_l_bent_sum : Ss :=
 (.cons (.asg 3 (.dictof (.ix (.var 1) (.int 0))))
 (.cons (.asg 4 (.ix (.lst (.cons (.int 1) (.cons (.neg (.int 1)) .nil))) (.call "_law_draw" 6 (.cons (.var 0) (.cons (.int 2) .nil)))))
 (.cons (.asg 5 (.call "_law_draw" 6 (.cons (.var 0) (.cons (.bin .add (.bi .len (.cons (.var 2) .nil)) (.int 1)) .nil))))
 (.cons (.ifs (.cmp .eq (.var 5) (.bi .len (.cons (.var 2) .nil))) (.cons (.ret (.tup (.cons (.ix (.var 1) (.int 0)) (.cons (.bi .max (.cons (.int 0) (.cons (.bin .add (.ix (.var 1) (.int 1)) (.var 4)) .nil))) .nil))))
 .nil) .nil)
 (.cons (.dput 3 (.ix (.var 2) (.var 5)) (.bi .max (.cons (.int 0) (.cons (.bin .add (.dget (.var 3) (.ix (.var 2) (.var 5)) (.some (.int 0))) (.var 4)) .nil))))
 (.cons (.freeze 3)
 (.cons (.ret (.call "_law_side" 16 (.cons (.var 3) (.cons (.ix (.var 1) (.int 1)) .nil))))
 .nil)))))))
def b_l_bent : Ss :=
 (.cons (.asg 3 (.call "_law_draw" 6 (.cons (.var 0) (.cons (.int 5) .nil))))
 (.cons (.ifs (.cmp .lt (.var 3) (.int 2)) (.cons (.ret (.tup (.cons (.str [108, 101, 97, 115, 116]) (.cons (.call "_law_bent_sum" 18 (.cons (.var 0) (.cons (.ix (.var 1) (.int 1)) (.cons (.var 2) .nil)))) (.cons (.ix (.var 1) (.int 2)) .nil)))))
 .nil) .nil)
 (.cons (.ifs (.cmp .lt (.var 3) (.int 4)) (.cons (.ret (.tup (.cons (.str [108, 101, 97, 115, 116]) (.cons (.ix (.var 1) (.int 1)) (.cons (.call "_law_bent_sum" 18 (.cons (.var 0) (.cons (.ix (.var 1) (.int 2)) (.cons (.var 2) .nil)))) .nil)))))
 .nil) .nil)
 (.cons (.ret (.tup (.cons (.str [108, 101, 97, 115, 116]) (.cons (.ix (.var 1) (.int 2)) (.cons (.ix (.var 1) (.int 1)) .nil)))))
 .nil))))
def b_l_told : Ss :=
 (.cons (.asg 4 (.call "summed" 3 (.cons (.var 0) (.cons (.var 1) (.cons (.var 2) .nil)))))
 (.cons (.ret (.conj (.cons (.isinst (.var 4) .bool) (.cons (.cmp .eq (.var 4) (.var 3)) .nil))))
 .nil))
def b_law_1 : Ss :=
 (.cons (.asg 13 (.call "_law_sum" 11 (.cons (.var 1) (.cons (.var 4) (.cons (.var 11) .nil)))))
 (.cons (.asg 5 (.bin .add (.var 5) (.tup (.cons (.tup (.cons (.str [108, 101, 97, 115, 116]) (.cons (.var 13) (.cons (.call "_law_sum" 11 (.cons (.var 1) (.cons (.var 4) (.cons (.var 11) .nil)))) .nil)))) .nil))))
 (.cons (.asg 14 (.lst (.cons (.int 0) (.cons (.int 1) (.cons (.call "_law_draw" 6 (.cons (.var 1) (.cons (.bi .min (.cons (.int 5) (.cons (.var 12) .nil))) .nil))) (.cons (.call "_law_draw" 6 (.cons (.var 1) (.cons (.var 12) .nil))) .nil))))))
 (.cons (.asg 6 (.bin .add (.var 6) (.tup (.cons (.ix (.var 14) (.call "_law_draw" 6 (.cons (.var 1) (.cons (.int 4) .nil)))) .nil))))
 .nil))))
def b_law_2 : Ss :=
 (.cons (.asg 8 (.call "_law_bent" 19 (.cons (.var 1) (.cons (.var 8) (.cons (.var 4) .nil)))))
 (.cons (.freeze 5)
 (.cons (.freeze 6)
 (.cons (.ifs (.not (.call "_law_told" 20 (.cons (.var 8) (.cons (.var 5) (.cons (.var 6) (.cons (.call "_law_due" 15 (.cons (.var 8) (.cons (.var 5) (.cons (.var 6) (.cons (.var 4) .nil))))) .nil)))))) (.cons (.ret (.bl false))
 .nil) .nil)
 .nil))))
def b_law_3 : Ss :=
 (.cons (.asg 3 (.cmp .eq (.call "_law_draw" 6 (.cons (.var 1) (.cons (.int 8) .nil))) (.int 5)))
 (.cons (.asg 4 (.call "_law_kinds" 8 (.cons (.var 1) (.cons (.ix (.lst (.cons (.int 4) (.cons (.int 6) (.cons (.int 4) (.cons (.int 4) .nil))))) (.call "_law_draw" 6 (.cons (.var 1) (.cons (.int 4) .nil)))) .nil))))
 (.cons (.asg 5 (.tup .nil))
 (.cons (.asg 6 (.tup .nil))
 (.cons (.unp [11, 12] (.ix (.lst (.cons (.tup (.cons (.int 1000) (.cons (.bin .pow (.int 10) (.int 4)) .nil))) (.cons (.tup (.cons (.bin .pow (.int 10) (.int 8)) (.cons (.int 2) .nil))) .nil))) (.call "_law_draw" 6 (.cons (.var 1) (.cons (.int 2) .nil)))))
 (.cons (.fors (.name 7) (.range1 (.ix (.lst (.cons (.call "_law_draw" 6 (.cons (.var 1) (.cons (.int 7) .nil))) (.cons (.bin .add (.int 12) (.call "_law_draw" 6 (.cons (.var 1) (.cons (.int 9) .nil)))) .nil))) (.bi .int (.cons (.var 3) .nil)))) b_law_1)
 (.cons (.freeze 5)
 (.cons (.freeze 6)
 (.cons (.asg 8 (.call "_law_built" 17 (.cons (.var 1) (.cons (.var 4) (.cons (.var 5) (.cons (.var 6) .nil))))))
 (.cons (.freeze 5)
 (.cons (.freeze 6)
 (.cons (.ifs (.disj (.cons (.not (.call "_law_told" 20 (.cons (.var 8) (.cons (.var 5) (.cons (.var 6) (.cons (.bl true) .nil)))))) (.cons (.not (.call "_law_due" 15 (.cons (.var 8) (.cons (.var 5) (.cons (.var 6) (.cons (.var 4) .nil)))))) .nil))) (.cons (.ret (.bl false))
 .nil) .nil)
 (.cons (.fors (.name 7) (.range1 (.int 3)) b_law_2)
 (.cons (.asg 9 (.bi .tuple (.cons (.lc (.bi .max (.cons (.int 0) (.cons (.bin .sub (.var 13) (.int 1)) .nil))) (.name 13) (.of (.var 6)) .nil [("_law_one", 13)]) .nil)))
 (.cons (.freeze 5)
 (.cons (.ifs (.not (.call "_law_told" 20 (.cons (.var 8) (.cons (.var 5) (.cons (.var 9) (.cons (.call "_law_due" 15 (.cons (.var 8) (.cons (.var 5) (.cons (.var 9) (.cons (.var 4) .nil))))) .nil)))))) (.cons (.ret (.bl false))
 .nil) .nil)
 (.cons (.asg 10 (.ix (.lst (.cons (.tup (.cons (.str [102, 97, 108, 115, 101]) .nil)) (.cons (.tup (.cons (.str [110, 111, 116]) (.cons (.var 8) .nil))) .nil))) (.call "_law_draw" 6 (.cons (.var 1) (.cons (.int 2) .nil)))))
 (.cons (.ifs (.not (.call "_law_told" 20 (.cons (.var 8) (.cons (.bin .add (.var 5) (.tup (.cons (.var 10) .nil))) (.cons (.bin .add (.var 6) (.tup (.cons (.call "_law_draw" 6 (.cons (.var 1) (.cons (.int 2) .nil))) .nil))) (.cons (.bl false) .nil)))))) (.cons (.ret (.bl false))
 .nil) .nil)
 (.cons (.freeze 5)
 (.cons (.freeze 6)
 (.cons (.ifs (.not (.call "_law_told" 20 (.cons (.var 10) (.cons (.var 5) (.cons (.var 6) (.cons (.bl false) .nil)))))) (.cons (.ret (.bl false))
 .nil) .nil)
 .nil)))))))))))))))))))))
def b_law : Ss :=
 (.cons (.asg 1 (.call "_law_deck" 5 (.cons (.var 0) .nil)))
 (.cons (.fors (.name 2) (.range1 (.int 4)) b_law_3)
 (.cons (.ret (.bl true))
 .nil)))
def cgs : List D := []
def cg (j : Nat) : D := cgs.getD j .non
def fnsT : List (Str × Nat) := [(("are_times" : Str), (2 : Nat)), (("summed" : Str), (3 : Nat)), (("_law_mixed" : Str), (4 : Nat)), (("_law_deck" : Str), (5 : Nat)), (("_law_draw" : Str), (6 : Nat)), (("_law_word" : Str), (7 : Nat)), (("_law_kinds" : Str), (8 : Nat)), (("_law_names" : Str), (9 : Nat)), (("_law_letter" : Str), (10 : Nat)), (("_law_sum" : Str), (11 : Nat)), (("_law_count" : Str), (12 : Nat)), (("_law_more" : Str), (13 : Nat)), (("_law_over" : Str), (14 : Nat)), (("_law_due" : Str), (15 : Nat)), (("_law_side" : Str), (16 : Nat)), (("_law_built" : Str), (17 : Nat)), (("_law_bent_sum" : Str), (18 : Nat)), (("_law_bent" : Str), (19 : Nat)), (("_law_told" : Str), (20 : Nat)), (("law" : Str), (21 : Nat))]
def clsT : List CD := []
def lfsT : Lf := ⟨[(("laid_on" : Str), (0 : Nat), (0 : Nat)), (("over" : Str), (1 : Nat), (1 : Nat))], clsT⟩
def glsT : List (Str × Nat) := []
def tab : List Fn := [.lent 3 4 0 b_laid_on,
  .lent 3 0 1 b_over,
  .body 2 1 b_are_times,
  .body 3 4 b_summed,
  .prim 2 p_l_mixed,
  .prim 1 p_l_deck,
  .prim 2 p_l_draw,
  .body 3 3 b_l_word,
  .body 2 8 b_l_kinds,
  .body 2 4 b_l_names,
  .body 1 0 b_l_letter,
  .body 3 2 b_l_sum,
  .body 2 2 b_l_count,
  .body 2 0 b_l_more,
  .body 4 2 b_l_over,
  .body 4 3 b_l_due,
  .body 2 1 b_l_side,
  .body 4 8 b_l_built,
  .body 3 3 b_l_bent_sum,
  .body 3 1 b_l_bent,
  .body 4 1 b_l_told,
  .body 1 14 b_law]
def dfsT : List (Nat × List D) := []
theorem monoT : Mono tab := fun n p hp => by
  simp only [tab, List.mem_cons, List.not_mem_nil, or_false, reduceCtorEq, false_or, Fn.prim.injEq] at hp
  rcases hp with ⟨_, rfl⟩ | ⟨_, rfl⟩ | ⟨_, rfl⟩
  · exact mono_mixed
  · exact mono_deck
  · exact mono_draw
end LC

namespace LC
open PySem L2
theorem s_draw {K : Nat} {m : Int} {Q : D → Prop} (hK : 6 ≤ K) (h0 : 0 < m) (h1 : m < 1073741824) (h : ∀ n : Int, 0 ≤ n → n < m → Q (.int n)) : Phi tab cg K 6 [.deck, .int m] Q := phi_primK rfl rfl hK ⟨m, rfl, h0, h1, h⟩
theorem s_deck {K : Nat} {Q : D → Prop} (hK : 6 ≤ K) (h : Q .deck) : Phi tab cg K 5 [.script] Q := phi_primK rfl rfl hK ⟨rfl, h⟩
abbrev abc : List Nat := [97, 98, 99, 100, 101, 102, 103, 104, 105, 106, 107, 108, 109, 110, 111, 112, 113, 114, 115, 116, 117, 118, 119, 120, 121, 122]
def Wl (n m : Nat) (x : List Nat) : Prop := n ≤ x.length ∧ x.length ≤ m ∧ ∀ c ∈ x, c ∈ abc
theorem s_word {K : Nat} {n m : Nat} {Q : D → Prop} (hK : 7 ≤ K) (hn : n ≤ m) (hm : m ≤ 100) (h : ∀ x, Wl n m x → Q (.str x)) : Phi tab cg K 7 [.deck, .int (n : Int), .int (m : Int)] Q := by
  refine phi_goK rfl rfl (by omega) ?_
  have hF := Phi_mono (cg := cg) monoT (K - 1)
  unfold b_l_word
  refine asg_cut hF (fun t => t = .v (.str abc)) rfl fun t e => ?_
  subst e
  refine asg_cut hF (fun t => t = .v (.str [])) rfl fun t e => ?_
  subst e
  refine ss_cut hF (fun env => ∃ x a5, env = [some (.v (.deck)), some (.v (.int n)), some (.v (.int m)), some (.v (.str abc)), some (.v (.str x)), a5] ∧ Wl n m x) (fors_idx hF trivial ?_) fun env ⟨x, a5, e, hx⟩ => ?_
  · simp only [wSs, wS, wE, wOp, wOs, wV, wI, wCs, wAnd, wOr, wP, wTg, wipeE, slot0, slotS, start0, d_v, d_ol, d_od, w_tup, w_lst, w_str, isB_bl, gl_tup, gl_str, gl_int, gin_d, gix_d, itOk, eFz, c_eq, c_ne, c_ltI, c_leI, c_gtI, c_geI, c_ltS, c_leS, c_gtS, c_geS, c_inS, c_niS, c_inT, c_niT, c_inL, c_niL, c_isN, c_isnotN, c_isB, c_isnotB, b_addI, b_addS, b_addT, b_addL, b_sub, b_mul, b_rep, b_pow, b_shl, b_mod, b_fdiv, k_str, k_tup, k_lst, n_str, n_tup, n_lst, n_all, n_any, n_listL, n_listT, n_listD, n_listS, n_lenD, n_sortL, n_sortD, n_intB, n_intI, n_tupL, n_tupT, m_join, m_split, r_join, r_split, n_max2, n_sortP, n_maxS, n_minS, n_min2, n_maxL, n_minL, n_sum, n_strI, n_strS, m_upper, m_index, r_upper, r_index, i_dS, i_dI, c_inD, c_niD, key_str, key_int, wPs, at0, at1, at2, at3, ct1, ct2, ct3, ct4, tk1, tk2, tk3, dr1, dr2, dr3, dr4, tt1, tt2, tt3, zd_cons, zd_nil, zd_nil', wTy, aA, aB, List.replicate, aD, aE, aF, aG, if_true, ite_true, if_false, ite_false, true_and, and_true, cg, cgs, cgGet0, cgGetS, aH, aI, Nat.reduceAdd, Nat.zero_add, Nat.reduceLeDiff, cok_ss, cok_ii, cok_bb, cok_is, cok_si, iok, iokI, afl_s, afl_i, afl_n, bcc, bnc, bcn, bnn, ev_str, ev_int, ev_bl, aJ, aK, Nat.reduceBEq, Int.reduceBEq, aL, aM, aN, aO, aP, aQ, aR, aS, aT, aU, aV, beq_self_eq_true]
    refine s_draw (by omega) (by omega) (by omega) fun q q0 q1 => ⟨⟨by omega, by omega⟩, fun i env => ∃ x a5, env = [some (.v (.deck)), some (.v (.int n)), some (.v (.int m)), some (.v (.str abc)), some (.v (.str x)), a5] ∧ x.length = i ∧ ∀ c ∈ x, c ∈ abc, ⟨[], _, rfl, rfl, fun _ z => nomatch z⟩, fun i y hy env hi => ?_, fun env he => ?_⟩
    · obtain ⟨x, a5, rfl, hl, hc⟩ := hi
      obtain ⟨rfl, hlt⟩ := rangeD_get hy
      refine ⟨_, rfl, ?_⟩
      simp only [b_l_word_1, wSs, wS, wE, wOp, wOs, wV, wI, wCs, wAnd, wOr, wP, wTg, wipeE, slot0, slotS, start0, d_v, d_ol, d_od, w_tup, w_lst, w_str, isB_bl, gl_tup, gl_str, gl_int, gin_d, gix_d, itOk, eFz, c_eq, c_ne, c_ltI, c_leI, c_gtI, c_geI, c_ltS, c_leS, c_gtS, c_geS, c_inS, c_niS, c_inT, c_niT, c_inL, c_niL, c_isN, c_isnotN, c_isB, c_isnotB, b_addI, b_addS, b_addT, b_addL, b_sub, b_mul, b_rep, b_pow, b_shl, b_mod, b_fdiv, k_str, k_tup, k_lst, n_str, n_tup, n_lst, n_all, n_any, n_listL, n_listT, n_listD, n_listS, n_lenD, n_sortL, n_sortD, n_intB, n_intI, n_tupL, n_tupT, m_join, m_split, r_join, r_split, n_max2, n_sortP, n_maxS, n_minS, n_min2, n_maxL, n_minL, n_sum, n_strI, n_strS, m_upper, m_index, r_upper, r_index, i_dS, i_dI, c_inD, c_niD, key_str, key_int, wPs, at0, at1, at2, at3, ct1, ct2, ct3, ct4, tk1, tk2, tk3, dr1, dr2, dr3, dr4, tt1, tt2, tt3, zd_cons, zd_nil, zd_nil', wTy, aA, aB, List.replicate, aD, aE, aF, aG, if_true, ite_true, if_false, ite_false, true_and, and_true, cg, cgs, cgGet0, cgGetS, aH, aI, Nat.reduceAdd, Nat.zero_add, Nat.reduceLeDiff, cok_ss, cok_ii, cok_bb, cok_is, cok_si, iok, iokI, afl_s, afl_i, afl_n, bcc, bnc, bcn, bnn, ev_str, ev_int, ev_bl, aJ, aK, Nat.reduceBEq, Int.reduceBEq, aL, aM, aN, aO, aP, aQ, aR, aS, aT, aU, aV, beq_self_eq_true]
      refine s_draw (by omega) (by decide) (by decide) fun p p0 p1 => ixS_any p0 p1 fun c hcm => ?_
      simp only [wSs, wS, wE, wOp, wOs, wV, wI, wCs, wAnd, wOr, wP, wTg, wipeE, slot0, slotS, start0, d_v, d_ol, d_od, w_tup, w_lst, w_str, isB_bl, gl_tup, gl_str, gl_int, gin_d, gix_d, itOk, eFz, c_eq, c_ne, c_ltI, c_leI, c_gtI, c_geI, c_ltS, c_leS, c_gtS, c_geS, c_inS, c_niS, c_inT, c_niT, c_inL, c_niL, c_isN, c_isnotN, c_isB, c_isnotB, b_addI, b_addS, b_addT, b_addL, b_sub, b_mul, b_rep, b_pow, b_shl, b_mod, b_fdiv, i_str, i_tup, i_lst, k_str, k_tup, k_lst, n_str, n_tup, n_lst, n_all, n_any, n_listL, n_listT, n_listD, n_listS, n_lenD, n_sortL, n_sortD, n_intB, n_intI, n_tupL, n_tupT, m_join, m_split, r_join, r_split, n_max2, n_sortP, n_maxS, n_minS, n_min2, n_maxL, n_minL, n_sum, n_strI, n_strS, m_upper, m_index, r_upper, r_index, i_dS, i_dI, c_inD, c_niD, key_str, key_int, wPs, at0, at1, at2, at3, ct1, ct2, ct3, ct4, tk1, tk2, tk3, dr1, dr2, dr3, dr4, tt1, tt2, tt3, zd_cons, zd_nil, zd_nil', wTy, aA, aB, List.replicate, aD, aE, aF, aG, if_true, ite_true, if_false, ite_false, true_and, and_true, cg, cgs, cgGet0, cgGetS, aH, aI, Nat.reduceAdd, Nat.zero_add, Nat.reduceLeDiff, cok_ss, cok_ii, cok_bb, cok_is, cok_si, iok, iokI, afl_s, afl_i, afl_n, bcc, bnc, bcn, bnn, ev_str, ev_int, ev_bl, aJ, aK, Nat.reduceBEq, Int.reduceBEq, aL, aM, aN, aO, aP, aQ, aR, aS, aT, aU, aV, beq_self_eq_true]
      refine ⟨by omega, x ++ [c], _, rfl, by rw [List.length_append, hl]; rfl, fun z hz => ?_⟩
      rcases List.mem_append.mp hz with hz | hz
      · exact hc z hz
      · rw [List.mem_singleton.mp hz]
        exact hcm
    · obtain ⟨x, a5, rfl, hl, hc⟩ := he
      rw [rangeD_len] at hl
      exact ⟨x, a5, rfl, by omega, by omega, hc⟩
  subst e
  simp only [wSs, wS, wE, wOp, wOs, wV, wI, wCs, wAnd, wOr, wP, wTg, wipeE, slot0, slotS, start0, d_v, d_ol, d_od, w_tup, w_lst, w_str, isB_bl, gl_tup, gl_str, gl_int, gin_d, gix_d, itOk, eFz, c_eq, c_ne, c_ltI, c_leI, c_gtI, c_geI, c_ltS, c_leS, c_gtS, c_geS, c_inS, c_niS, c_inT, c_niT, c_inL, c_niL, c_isN, c_isnotN, c_isB, c_isnotB, b_addI, b_addS, b_addT, b_addL, b_sub, b_mul, b_rep, b_pow, b_shl, b_mod, b_fdiv, i_str, i_tup, i_lst, k_str, k_tup, k_lst, n_str, n_tup, n_lst, n_all, n_any, n_listL, n_listT, n_listD, n_listS, n_lenD, n_sortL, n_sortD, n_intB, n_intI, n_tupL, n_tupT, m_join, m_split, r_join, r_split, n_max2, n_sortP, n_maxS, n_minS, n_min2, n_maxL, n_minL, n_sum, n_strI, n_strS, m_upper, m_index, r_upper, r_index, i_dS, i_dI, c_inD, c_niD, key_str, key_int, wPs, at0, at1, at2, at3, ct1, ct2, ct3, ct4, tk1, tk2, tk3, dr1, dr2, dr3, dr4, tt1, tt2, tt3, zd_cons, zd_nil, zd_nil', wTy, aA, aB, List.replicate, aD, aE, aF, aG, if_true, ite_true, if_false, ite_false, true_and, and_true, cg, cgs, cgGet0, cgGetS, aH, aI, Nat.reduceAdd, Nat.zero_add, Nat.reduceLeDiff, cok_ss, cok_ii, cok_bb, cok_is, cok_si, iok, iokI, afl_s, afl_i, afl_n, bcc, bnc, bcn, bnn, ev_str, ev_int, ev_bl, aJ, aK, Nat.reduceBEq, Int.reduceBEq, aL, aM, aN, aO, aP, aQ, aR, aS, aT, aU, aV, beq_self_eq_true]
  exact h x hx
def taken1 : List Nat := [97, 98, 115, 117, 114, 100, 32, 97, 108, 108, 32, 97, 110, 32, 97, 110, 100, 32, 97, 110, 121, 32, 97, 114, 101, 32, 97, 115, 32, 97, 116, 32, 98, 101, 32, 98, 121, 32, 102, 97, 108, 115, 101, 32, 105, 102, 32, 105, 115, 32, 108, 101, 97, 115, 116, 32, 109, 97, 110, 121, 32, 109, 111, 114, 101, 32, 110, 111, 32, 110, 111, 116, 32, 111, 110, 108, 121, 32, 111, 114, 32, 115, 97, 109, 101, 32, 115, 111, 109, 101, 32, 116, 104, 97, 110]
def taken2 : List Nat := [32, 116, 104, 101, 32, 116, 104, 101, 110, 32, 116, 104, 101, 114, 101, 32, 101, 118, 101, 114, 121, 32, 101, 105, 116, 104, 101, 114, 32, 117, 110, 108, 101, 115, 115]
def taken : List (List Nat) := TL.spl [32] 0 [] (taken1 ++ taken2)
def qsL : List Nat := [97, 98, 99, 100, 101, 102, 103, 104, 105, 106, 107, 108, 109, 110, 111, 112, 113, 114, 115, 116]
theorem qs_ok : ∀ c ∈ qsL, c ∈ abc ∧ [113, c] ∉ taken := by decide +kernel
theorem wl_ne {n m : Nat} {x : List Nat} (h : Wl n m x) (hn : 0 < n) : ∃ c r, x = c :: r ∧ c ∈ abc := by
  cases x with
  | nil => exact absurd h.1 (by simp; omega)
  | cons c r => exact ⟨c, r, rfl, h.2.2 c List.mem_cons_self⟩
theorem lst_ne0 (ks : List (List Nat)) : (!(D.lst (ks.map D.str)).eqv (.lst [])) = !ks.isEmpty := by cases ks <;> rfl
theorem kinds1 {K : Nat} {m : Int} {ks : List (List Nat)} {y : D} {a5 a6 a7 a8 a9 : Option T} {k : Kn} (hK : 8 ≤ K) (hl : ks.length ≤ 19) (hw : ∀ x ∈ ks, Wl 2 8 x) (h : ∀ x b5 b6 b7, Wl 2 8 x → x ∉ taken → x ∉ ks → k.nx [some (.v (.deck)), some (.v (.int m)), some (.ol (taken.map D.str)), some (.ol ((ks ++ [x]).map D.str)), some (.v (y)), b5, b6, b7, a8, a9]) :
    wSs (Phi tab cg (K - 1)) cg b_l_kinds_1 [some (.v (.deck)), some (.v (.int m)), some (.ol (taken.map D.str)), some (.ol (ks.map D.str)), some (.v (y)), a5, a6, a7, a8, a9] k := by
  have hF := Phi_mono (cg := cg) monoT (K - 1)
  unfold b_l_kinds_1
  refine asg_cut hF (fun t => ∃ x, t = .v (.str x) ∧ Wl 2 8 x) ?_ fun t ⟨x, e, hx⟩ => ?_
  · simp only [wSs, wS, wE, wOp, wOs, wV, wI, wCs, wAnd, wOr, wP, wTg, wipeE, slot0, slotS, start0, d_v, d_ol, d_od, w_tup, w_lst, w_str, isB_bl, gl_tup, gl_str, gl_int, gin_d, gix_d, itOk, eFz, c_eq, c_ne, c_ltI, c_leI, c_gtI, c_geI, c_ltS, c_leS, c_gtS, c_geS, c_inS, c_niS, c_inT, c_niT, c_inL, c_niL, c_isN, c_isnotN, c_isB, c_isnotB, b_addI, b_addS, b_addT, b_addL, b_sub, b_mul, b_rep, b_pow, b_shl, b_mod, b_fdiv, i_str, i_tup, i_lst, k_str, k_tup, k_lst, n_str, n_tup, n_lst, n_all, n_any, n_listL, n_listT, n_listD, n_listS, n_lenD, n_sortL, n_sortD, n_intB, n_intI, n_tupL, n_tupT, m_join, m_split, r_join, r_split, n_max2, n_sortP, n_maxS, n_minS, n_min2, n_maxL, n_minL, n_sum, n_strI, n_strS, m_upper, m_index, r_upper, r_index, i_dS, i_dI, c_inD, c_niD, key_str, key_int, wPs, at0, at1, at2, at3, ct1, ct2, ct3, ct4, tk1, tk2, tk3, dr1, dr2, dr3, dr4, tt1, tt2, tt3, zd_cons, zd_nil, zd_nil', wTy, aA, aB, List.replicate, aD, aE, aF, aG, if_true, ite_true, if_false, ite_false, true_and, and_true, cg, cgs, cgGet0, cgGetS, aH, aI, Nat.reduceAdd, Nat.zero_add, Nat.reduceLeDiff, cok_ss, cok_ii, cok_bb, cok_is, cok_si, iok, iokI, afl_s, afl_i, afl_n, bcc, bnc, bcn, bnn, ev_str, ev_int, ev_bl, aJ, aK, Nat.reduceBEq, Int.reduceBEq, aL, aM, aN, aO, aP, aQ, aR, aS, aT, aU, aV, beq_self_eq_true]
    exact s_word (n := 2) (m := 8) (by omega) (by decide) (by decide) fun x hx => ⟨x, rfl, hx⟩
  subst e
  refine asg_cut hF (fun t => ∃ w : Int, t = .v (.int w)) ?_ fun t ⟨w, e⟩ => ?_
  · simp only [wSs, wS, wE, wOp, wOs, wV, wI, wCs, wAnd, wOr, wP, wTg, wipeE, slot0, slotS, start0, d_v, d_ol, d_od, w_tup, w_lst, w_str, isB_bl, gl_tup, gl_str, gl_int, gin_d, gix_d, itOk, eFz, c_eq, c_ne, c_ltI, c_leI, c_gtI, c_geI, c_ltS, c_leS, c_gtS, c_geS, c_inS, c_niS, c_inT, c_niT, c_inL, c_niL, c_isN, c_isnotN, c_isB, c_isnotB, b_addI, b_addS, b_addT, b_addL, b_sub, b_mul, b_rep, b_pow, b_shl, b_mod, b_fdiv, i_str, i_tup, i_lst, k_str, k_tup, k_lst, n_str, n_tup, n_lst, n_all, n_any, n_listL, n_listT, n_listD, n_listS, n_lenD, n_sortL, n_sortD, n_intB, n_intI, n_tupL, n_tupT, m_join, m_split, r_join, r_split, n_max2, n_sortP, n_maxS, n_minS, n_min2, n_maxL, n_minL, n_sum, n_strI, n_strS, m_upper, m_index, r_upper, r_index, i_dS, i_dI, c_inD, c_niD, key_str, key_int, wPs, at0, at1, at2, at3, ct1, ct2, ct3, ct4, tk1, tk2, tk3, dr1, dr2, dr3, dr4, tt1, tt2, tt3, zd_cons, zd_nil, zd_nil', wTy, aA, aB, List.replicate, aD, aE, aF, aG, if_true, ite_true, if_false, ite_false, true_and, and_true, cg, cgs, cgGet0, cgGetS, aH, aI, Nat.reduceAdd, Nat.zero_add, Nat.reduceLeDiff, cok_ss, cok_ii, cok_bb, cok_is, cok_si, iok, iokI, afl_s, afl_i, afl_n, bcc, bnc, bcn, bnn, ev_str, ev_int, ev_bl, aJ, aK, Nat.reduceBEq, Int.reduceBEq, aL, aM, aN, aO, aP, aQ, aR, aS, aT, aU, aV, beq_self_eq_true]
    exact s_draw (by omega) (by decide) (by decide) fun n _ _ => ⟨n, rfl⟩
  subst e
  simp only [List.set_cons_zero, List.set_cons_succ]
  have ck : D.cmpOk (.lst (ks.map D.str)) (.lst []) = true := cmpOk_60 (cmpb_strs 59 ks) rfl
  refine ss_cut hF (fun env => ∃ x, env = [some (.v (.deck)), some (.v (.int m)), some (.ol (taken.map D.str)), some (.ol (ks.map D.str)), some (.v (y)), some (.v (.str x)), some (.v (.int w)), a7, a8, a9] ∧ Wl 2 8 x) ?_ fun env ⟨x, e, hx⟩ => ?_
  · simp only [wSs, wS, wE, wOp, wOs, wV, wI, wCs, wAnd, wOr, wP, wTg, wipeE, slot0, slotS, start0, d_v, d_ol, d_od, w_tup, w_lst, w_str, isB_bl, gl_tup, gl_str, gl_int, gin_d, gix_d, itOk, eFz, c_eq, c_ne, c_ltI, c_leI, c_gtI, c_geI, c_ltS, c_leS, c_gtS, c_geS, c_inS, c_niS, c_inT, c_niT, c_inL, c_niL, c_isN, c_isnotN, c_isB, c_isnotB, b_addI, b_addS, b_addT, b_addL, b_sub, b_mul, b_rep, b_pow, b_shl, b_mod, b_fdiv, i_str, i_tup, i_lst, k_str, k_tup, k_lst, n_str, n_tup, n_lst, n_all, n_any, n_listL, n_listT, n_listD, n_listS, n_lenD, n_sortL, n_sortD, n_intB, n_intI, n_tupL, n_tupT, m_join, m_split, r_join, r_split, n_max2, n_sortP, n_maxS, n_minS, n_min2, n_maxL, n_minL, n_sum, n_strI, n_strS, m_upper, m_index, r_upper, r_index, i_dS, i_dI, c_inD, c_niD, key_str, key_int, wPs, at0, at1, at2, at3, ct1, ct2, ct3, ct4, tk1, tk2, tk3, dr1, dr2, dr3, dr4, tt1, tt2, tt3, zd_cons, zd_nil, zd_nil', wTy, aA, aB, List.replicate, aD, aE, aF, aG, if_true, ite_true, if_false, ite_false, true_and, and_true, cg, cgs, cgGet0, cgGetS, aH, aI, Nat.reduceAdd, Nat.zero_add, Nat.reduceLeDiff, cok_ss, cok_ii, cok_bb, cok_is, cok_si, iok, iokI, afl_s, afl_i, afl_n, bcc, bnc, bcn, bnn, ev_str, ev_int, ev_bl, aJ, aK, Nat.reduceBEq, Int.reduceBEq, aL, aM, aN, aO, aP, aQ, aR, aS, aT, aU, aV, beq_self_eq_true, ck, lst_ne0]
    refine ite_of (fun _ => ite_of (fun hne => ?_) fun _ => ⟨x, rfl, hx⟩) fun _ => ⟨x, rfl, hx⟩
    cases ks with
    | nil => cases hne
    | cons k0 kr =>
      obtain ⟨h1, h2, h3⟩ := hw k0 List.mem_cons_self
      have e8 : cut (k0 ++ x) none (some 8) = (k0 ++ x).take 8 := cut_to _ 8
      simp only [wSs, wS, wE, wOp, wOs, wV, wI, wCs, wAnd, wOr, wP, wTg, wipeE, slot0, slotS, start0, d_v, d_ol, d_od, w_tup, w_lst, w_str, isB_bl, gl_tup, gl_str, gl_int, gin_d, gix_d, itOk, eFz, c_eq, c_ne, c_ltI, c_leI, c_gtI, c_geI, c_ltS, c_leS, c_gtS, c_geS, c_inS, c_niS, c_inT, c_niT, c_inL, c_niL, c_isN, c_isnotN, c_isB, c_isnotB, b_addI, b_addS, b_addT, b_addL, b_sub, b_mul, b_rep, b_pow, b_shl, b_mod, b_fdiv, i_str, i_tup, i_lst, k_str, k_tup, k_lst, n_str, n_tup, n_lst, n_all, n_any, n_listL, n_listT, n_listD, n_listS, n_lenD, n_sortL, n_sortD, n_intB, n_intI, n_tupL, n_tupT, m_join, m_split, r_join, r_split, n_max2, n_sortP, n_maxS, n_minS, n_min2, n_maxL, n_minL, n_sum, n_strI, n_strS, m_upper, m_index, r_upper, r_index, i_dS, i_dI, c_inD, c_niD, key_str, key_int, wPs, at0, at1, at2, at3, ct1, ct2, ct3, ct4, tk1, tk2, tk3, dr1, dr2, dr3, dr4, tt1, tt2, tt3, zd_cons, zd_nil, zd_nil', wTy, aA, aB, List.replicate, aD, aE, aF, aG, if_true, ite_true, if_false, ite_false, true_and, and_true, cg, cgs, cgGet0, cgGetS, aH, aI, Nat.reduceAdd, Nat.zero_add, Nat.reduceLeDiff, cok_ss, cok_ii, cok_bb, cok_is, cok_si, iok, iokI, afl_s, afl_i, afl_n, bcc, bnc, bcn, bnn, ev_str, ev_int, ev_bl, aJ, aK, Nat.reduceBEq, Int.reduceBEq, aL, aM, aN, aO, aP, aQ, aR, aS, aT, aU, aV, beq_self_eq_true, e8]
      obtain ⟨x1, x2, x3⟩ := hx
      refine ⟨by omega, _, rfl, ?_, ?_, fun c hc => ?_⟩
      · rw [List.length_take, List.length_append]
        omega
      · rw [List.length_take]
        omega
      · rcases List.mem_append.mp (List.mem_of_mem_take hc) with hc | hc
        · exact h3 c hc
        · exact x3 c hc
  subst e
  refine ss_cut hF (fun env => ∃ x b7, env = [some (.v (.deck)), some (.v (.int m)), some (.ol (taken.map D.str)), some (.ol (ks.map D.str)), some (.v (y)), some (.v (.str x)), some (.v (.int w)), b7, a8, a9] ∧ Wl 2 8 x) ?_ fun env ⟨x, b7, e, hx⟩ => ?_
  · simp only [wSs, wS, wE, wOp, wOs, wV, wI, wCs, wAnd, wOr, wP, wTg, wipeE, slot0, slotS, start0, d_v, d_ol, d_od, w_tup, w_lst, w_str, isB_bl, gl_tup, gl_str, gl_int, gin_d, gix_d, itOk, eFz, c_eq, c_ne, c_ltI, c_leI, c_gtI, c_geI, c_ltS, c_leS, c_gtS, c_geS, c_inS, c_niS, c_inT, c_niT, c_inL, c_niL, c_isN, c_isnotN, c_isB, c_isnotB, b_addI, b_addS, b_addT, b_addL, b_sub, b_mul, b_rep, b_pow, b_shl, b_mod, b_fdiv, i_str, i_tup, i_lst, k_str, k_tup, k_lst, n_str, n_tup, n_lst, n_all, n_any, n_listL, n_listT, n_listD, n_listS, n_lenD, n_sortL, n_sortD, n_intB, n_intI, n_tupL, n_tupT, m_join, m_split, r_join, r_split, n_max2, n_sortP, n_maxS, n_minS, n_min2, n_maxL, n_minL, n_sum, n_strI, n_strS, m_upper, m_index, r_upper, r_index, i_dS, i_dI, c_inD, c_niD, key_str, key_int, wPs, at0, at1, at2, at3, ct1, ct2, ct3, ct4, tk1, tk2, tk3, dr1, dr2, dr3, dr4, tt1, tt2, tt3, zd_cons, zd_nil, zd_nil', wTy, aA, aB, List.replicate, aD, aE, aF, aG, if_true, ite_true, if_false, ite_false, true_and, and_true, cg, cgs, cgGet0, cgGetS, aH, aI, Nat.reduceAdd, Nat.zero_add, Nat.reduceLeDiff, cok_ss, cok_ii, cok_bb, cok_is, cok_si, iok, iokI, afl_s, afl_i, afl_n, bcc, bnc, bcn, bnn, ev_str, ev_int, ev_bl, aJ, aK, Nat.reduceBEq, Int.reduceBEq, aL, aM, aN, aO, aP, aQ, aR, aS, aT, aU, aV, beq_self_eq_true, ck, lst_ne0]
    refine ite_of (fun _ => ite_of (fun hne => ?_) fun _ => ⟨x, _, rfl, hx⟩) fun _ => ⟨x, _, rfl, hx⟩
    cases ks with
    | nil => cases hne
    | cons k0 kr =>
      obtain ⟨h1, h2, h3⟩ := hw k0 List.mem_cons_self
      obtain ⟨c0, r0, rfl, hc0⟩ := wl_ne hx (by decide)
      simp only [wSs, wS, wE, wOp, wOs, wV, wI, wCs, wAnd, wOr, wP, wTg, wipeE, slot0, slotS, start0, d_v, d_ol, d_od, w_tup, w_lst, w_str, isB_bl, gl_tup, gl_str, gl_int, gin_d, gix_d, itOk, eFz, c_eq, c_ne, c_ltI, c_leI, c_gtI, c_geI, c_ltS, c_leS, c_gtS, c_geS, c_inS, c_niS, c_inT, c_niT, c_inL, c_niL, c_isN, c_isnotN, c_isB, c_isnotB, b_addI, b_addS, b_addT, b_addL, b_sub, b_mul, b_rep, b_pow, b_shl, b_mod, b_fdiv, i_str, i_tup, i_lst, k_str, k_tup, k_lst, n_str, n_tup, n_lst, n_all, n_any, n_listL, n_listT, n_listD, n_listS, n_lenD, n_sortL, n_sortD, n_intB, n_intI, n_tupL, n_tupT, m_join, m_split, r_join, r_split, n_max2, n_sortP, n_maxS, n_minS, n_min2, n_maxL, n_minL, n_sum, n_strI, n_strS, m_upper, m_index, r_upper, r_index, i_dS, i_dI, c_inD, c_niD, key_str, key_int, wPs, at0, at1, at2, at3, ct1, ct2, ct3, ct4, tk1, tk2, tk3, dr1, dr2, dr3, dr4, tt1, tt2, tt3, zd_cons, zd_nil, zd_nil', wTy, aA, aB, List.replicate, aD, aE, aF, aG, if_true, ite_true, if_false, ite_false, true_and, and_true, cg, cgs, cgGet0, cgGetS, aH, aI, Nat.reduceAdd, Nat.zero_add, Nat.reduceLeDiff, cok_ss, cok_ii, cok_bb, cok_is, cok_si, iok, iokI, afl_s, afl_i, afl_n, bcc, bnc, bcn, bnn, ev_str, ev_int, ev_bl, aJ, aK, Nat.reduceBEq, Int.reduceBEq, aL, aM, aN, aO, aP, aQ, aR, aS, aT, aU, aV, beq_self_eq_true]
      refine s_draw (by omega) (by omega) (by omega) fun p p0 p1 => ?_
      obtain ⟨j, rfl⟩ := Int.eq_ofNat_of_zero_le p0
      have e1 : cut k0 none (some (j : Int)) = k0.take j := cut_to _ j
      have e2 : cut k0 (some ((j : Int) + 1)) none = k0.drop (j + 1) := cut_from k0 (j + 1)
      simp only [wSs, wS, wE, wOp, wOs, wV, wI, wCs, wAnd, wOr, wP, wTg, wipeE, slot0, slotS, start0, d_v, d_ol, d_od, w_tup, w_lst, w_str, isB_bl, gl_tup, gl_str, gl_int, gin_d, gix_d, itOk, eFz, c_eq, c_ne, c_ltI, c_leI, c_gtI, c_geI, c_ltS, c_leS, c_gtS, c_geS, c_inS, c_niS, c_inT, c_niT, c_inL, c_niL, c_isN, c_isnotN, c_isB, c_isnotB, b_addI, b_addS, b_addT, b_addL, b_sub, b_mul, b_rep, b_pow, b_shl, b_mod, b_fdiv, i_str, i_tup, i_lst, k_str, k_tup, k_lst, n_str, n_tup, n_lst, n_all, n_any, n_listL, n_listT, n_listD, n_listS, n_lenD, n_sortL, n_sortD, n_intB, n_intI, n_tupL, n_tupT, m_join, m_split, r_join, r_split, n_max2, n_sortP, n_maxS, n_minS, n_min2, n_maxL, n_minL, n_sum, n_strI, n_strS, m_upper, m_index, r_upper, r_index, i_dS, i_dI, c_inD, c_niD, key_str, key_int, wPs, at0, at1, at2, at3, ct1, ct2, ct3, ct4, tk1, tk2, tk3, dr1, dr2, dr3, dr4, tt1, tt2, tt3, zd_cons, zd_nil, zd_nil', wTy, aA, aB, List.replicate, aD, aE, aF, aG, if_true, ite_true, if_false, ite_false, true_and, and_true, cg, cgs, cgGet0, cgGetS, aH, aI, Nat.reduceAdd, Nat.zero_add, Nat.reduceLeDiff, cok_ss, cok_ii, cok_bb, cok_is, cok_si, iok, iokI, afl_s, afl_i, afl_n, bcc, bnc, bcn, bnn, ev_str, ev_int, ev_bl, aJ, aK, Nat.reduceBEq, Int.reduceBEq, aL, aM, aN, aO, aP, aQ, aR, aS, aT, aU, aV, beq_self_eq_true, e1, e2, List.length_append, List.length_take, List.length_drop]
      refine ⟨by omega, by omega, _, _, rfl, ?_, ?_, fun c hc => ?_⟩
      · simp only [List.length_append, List.length_take, List.length_drop, List.length_cons, List.length_nil]
        omega
      · simp only [List.length_append, List.length_take, List.length_drop, List.length_cons, List.length_nil]
        omega
      · rcases List.mem_append.mp hc with hc | hc
        · rcases List.mem_append.mp hc with hc | hc
          · exact h3 c (List.mem_of_mem_take hc)
          · rw [List.mem_singleton.mp hc]
            exact hc0
        · exact h3 c (List.mem_of_mem_drop hc)
  subst e
  refine ss_cut hF (fun env => ∃ x, env = [some (.v (.deck)), some (.v (.int m)), some (.ol (taken.map D.str)), some (.ol (ks.map D.str)), some (.v (y)), some (.v (.str x)), some (.v (.int w)), b7, a8, a9] ∧ Wl 2 8 x ∧ x ∉ taken ∧ x ∉ ks) ?_ fun env ⟨x, e, hx, ht, hk⟩ => ?_
  · have go : wE (Phi tab cg (K - 1)) cg (.ix (.lc (.var 8) (.name 8) (.of (.lc (.bin .add (.str [113]) (.var 9)) (.name 9) (.of (.str qsL)) .nil [("_law_sign", 9)])) (.cons (.cmp .notin (.var 8) (.var 3)) .nil) [("_law_one", 8)]) (.int 0)) [some (.v (.deck)), some (.v (.int m)), some (.ol (taken.map D.str)), some (.ol (ks.map D.str)), some (.v (y)), some (.v (.str x)), some (.v (.int w)), b7, a8, a9] (fun t => ∃ x, t = .v (.str x) ∧ Wl 2 8 x ∧ x ∉ taken ∧ x ∉ ks) := by
      simp only [wSs, wS, wE, wOp, wOs, wV, wI, wCs, wAnd, wOr, wP, wTg, wipeE, slot0, slotS, start0, d_v, d_ol, d_od, w_tup, w_lst, w_str, isB_bl, gl_tup, gl_str, gl_int, gin_d, gix_d, itOk, eFz, c_eq, c_ne, c_ltI, c_leI, c_gtI, c_geI, c_ltS, c_leS, c_gtS, c_geS, c_inS, c_niS, c_inT, c_niT, c_inL, c_niL, c_isN, c_isnotN, c_isB, c_isnotB, b_addI, b_addS, b_addT, b_addL, b_sub, b_mul, b_rep, b_pow, b_shl, b_mod, b_fdiv, k_str, k_tup, k_lst, n_str, n_tup, n_lst, n_all, n_any, n_listL, n_listT, n_listD, n_listS, n_lenD, n_sortL, n_sortD, n_intB, n_intI, n_tupL, n_tupT, m_join, m_split, r_join, r_split, n_max2, n_sortP, n_maxS, n_minS, n_min2, n_maxL, n_minL, n_sum, n_strI, n_strS, m_upper, m_index, r_upper, r_index, i_dS, i_dI, c_inD, c_niD, key_str, key_int, wPs, at0, at1, at2, at3, ct1, ct2, ct3, ct4, tk1, tk2, tk3, dr1, dr2, dr3, dr4, tt1, tt2, tt3, zd_cons, zd_nil, zd_nil', wTy, aA, aB, List.replicate, aD, aE, aF, aG, if_true, ite_true, if_false, ite_false, true_and, and_true, cg, cgs, cgGet0, cgGetS, List.length_map]
      refine ⟨by decide, wLc_mapT (v := fun c => D.str [113, c]) qsL (fun c hc k hk => ?_) ?_⟩
      · exact ⟨(Nat.le_of_ble_eq_true rfl), hk⟩
      simp only [wSs, wS, wE, wOp, wOs, wV, wI, wCs, wAnd, wOr, wP, wTg, wipeE, slot0, slotS, start0, d_v, d_ol, d_od, w_tup, w_lst, w_str, isB_bl, gl_tup, gl_str, gl_int, gin_d, gix_d, itOk, eFz, c_eq, c_ne, c_ltI, c_leI, c_gtI, c_geI, c_ltS, c_leS, c_gtS, c_geS, c_inS, c_niS, c_inT, c_niT, c_inL, c_niL, c_isN, c_isnotN, c_isB, c_isnotB, b_addI, b_addS, b_addT, b_addL, b_sub, b_mul, b_rep, b_pow, b_shl, b_mod, b_fdiv, k_str, k_tup, k_lst, n_str, n_tup, n_lst, n_all, n_any, n_listL, n_listT, n_listD, n_listS, n_lenD, n_sortL, n_sortD, n_intB, n_intI, n_tupL, n_tupT, m_join, m_split, r_join, r_split, n_max2, n_sortP, n_maxS, n_minS, n_min2, n_maxL, n_minL, n_sum, n_strI, n_strS, m_upper, m_index, r_upper, r_index, i_dS, i_dI, c_inD, c_niD, key_str, key_int, wPs, at0, at1, at2, at3, ct1, ct2, ct3, ct4, tk1, tk2, tk3, dr1, dr2, dr3, dr4, tt1, tt2, tt3, zd_cons, zd_nil, zd_nil', wTy, aA, aB, List.replicate, aD, aE, aF, aG, if_true, ite_true, if_false, ite_false, true_and, and_true, cg, cgs, cgGet0, cgGetS, List.length_map]
      have em : qsL.map (fun c => D.str [113, c]) = (qsL.map fun c => [113, c]).map D.str := by rw [List.map_map]; rfl
      rw [em]
      refine ⟨by decide, wLc_mapF (g := fun x => if ks.contains x then none else some (D.str x)) _ [] (fun x hx k hk => ?_) ?_⟩
      · simp only [any_str, iok_map]
        refine ⟨trivial, ?_⟩
        cases hc : ks.contains x with
        | true =>
          rw [hc] at hk
          exact onF rfl hk
        | false =>
          rw [hc] at hk
          exact onT rfl hk
      · rw [List.nil_append]
        obtain ⟨z, zr, ez, hz⟩ : ∃ z zr, ((qsL.map fun c => [113, c]).filterMap fun x => if ks.contains x then none else some (D.str x)) = .str z :: zr ∧ z ∈ (qsL.map fun c => [113, c]) ∧ z ∉ ks := by
          cases hf : ((qsL.map fun c => [113, c]).filterMap fun x => if ks.contains x then none else some (D.str x)) with
          | nil =>
            exfalso
            rw [List.filterMap_eq_nil_iff] at hf
            have := nodup_len (qsL.map fun c => [113, c]) ks (by decide +kernel) fun x hx => by
              have := hf x hx
              by_cases hc : ks.contains x = true
              · exact List.contains_iff_mem.mp hc
              · rw [if_neg hc] at this
                cases this
            have h20 : (qsL.map fun c => [113, c]).length = 20 := rfl
            omega
          | cons d r =>
            have hm : d ∈ ((qsL.map fun c => [113, c]).filterMap fun x => if ks.contains x then none else some (D.str x)) := by
              rw [hf]
              exact List.mem_cons_self
            obtain ⟨z, hz, e⟩ := List.mem_filterMap.mp hm
            by_cases hc : ks.contains z = true
            · rw [if_pos hc] at e
              cases e
            · rw [if_neg hc] at e
              cases e
              exact ⟨z, r, rfl, hz, fun q => hc (List.contains_iff_mem.mpr q)⟩
        rw [ez]
        simp only [wSs, wS, wE, wOp, wOs, wV, wI, wCs, wAnd, wOr, wP, wTg, wipeE, slot0, slotS, start0, d_v, d_ol, d_od, w_tup, w_lst, w_str, isB_bl, gl_tup, gl_str, gl_int, gin_d, gix_d, itOk, eFz, c_eq, c_ne, c_ltI, c_leI, c_gtI, c_geI, c_ltS, c_leS, c_gtS, c_geS, c_inS, c_niS, c_inT, c_niT, c_inL, c_niL, c_isN, c_isnotN, c_isB, c_isnotB, b_addI, b_addS, b_addT, b_addL, b_sub, b_mul, b_rep, b_pow, b_shl, b_mod, b_fdiv, i_str, i_tup, i_lst, k_str, k_tup, k_lst, n_str, n_tup, n_lst, n_all, n_any, n_listL, n_listT, n_listD, n_listS, n_lenD, n_sortL, n_sortD, n_intB, n_intI, n_tupL, n_tupT, m_join, m_split, r_join, r_split, n_max2, n_sortP, n_maxS, n_minS, n_min2, n_maxL, n_minL, n_sum, n_strI, n_strS, m_upper, m_index, r_upper, r_index, i_dS, i_dI, c_inD, c_niD, key_str, key_int, wPs, at0, at1, at2, at3, ct1, ct2, ct3, ct4, tk1, tk2, tk3, dr1, dr2, dr3, dr4, tt1, tt2, tt3, zd_cons, zd_nil, zd_nil', wTy, aA, aB, List.replicate, aD, aE, aF, aG, if_true, ite_true, if_false, ite_false, true_and, and_true, cg, cgs, cgGet0, cgGetS, aH, aI, Nat.reduceAdd, Nat.zero_add, Nat.reduceLeDiff, cok_ss, cok_ii, cok_bb, cok_is, cok_si, iok, iokI, afl_s, afl_i, afl_n, bcc, bnc, bcn, bnn, ev_str, ev_int, ev_bl, aJ, aK, Nat.reduceBEq, Int.reduceBEq, aL, aM, aN, aO, aP, aQ, aR, aS, aT, aU, aV, beq_self_eq_true]
        obtain ⟨c, hc, rfl⟩ := List.mem_map.mp hz.1
        obtain ⟨c1, c2⟩ := qs_ok c hc
        refine ⟨_, rfl, ⟨(Nat.le_of_ble_eq_true rfl), (Nat.le_of_ble_eq_true rfl), fun z hz => ?_⟩, c2, hz.2⟩
        simp only [List.mem_cons, List.not_mem_nil, or_false] at hz
        rcases hz with rfl | rfl
        · decide
        · exact c1
    refine ifs_go hF (fun b => b = false → x ∉ taken ∧ x ∉ ks) ?_ (fun _ => ?_) (fun hb => ⟨x, rfl, hx, hb rfl⟩)
    · simp only [wSs, wS, wE, wOp, wOs, wV, wI, wCs, wAnd, wOr, wP, wTg, wipeE, slot0, slotS, start0, d_v, d_ol, d_od, w_tup, w_lst, w_str, isB_bl, gl_tup, gl_str, gl_int, gin_d, gix_d, itOk, eFz, c_eq, c_ne, c_ltI, c_leI, c_gtI, c_geI, c_ltS, c_leS, c_gtS, c_geS, c_inS, c_niS, c_inT, c_niT, c_inL, c_niL, c_isN, c_isnotN, c_isB, c_isnotB, b_addI, b_addS, b_addT, b_addL, b_sub, b_mul, b_rep, b_pow, b_shl, b_mod, b_fdiv, i_str, i_tup, i_lst, k_str, k_tup, k_lst, n_str, n_tup, n_lst, n_all, n_any, n_listL, n_listT, n_listD, n_listS, n_lenD, n_sortL, n_sortD, n_intB, n_intI, n_tupL, n_tupT, m_join, m_split, r_join, r_split, n_max2, n_sortP, n_maxS, n_minS, n_min2, n_maxL, n_minL, n_sum, n_strI, n_strS, m_upper, m_index, r_upper, r_index, i_dS, i_dI, c_inD, c_niD, key_str, key_int, wPs, at0, at1, at2, at3, ct1, ct2, ct3, ct4, tk1, tk2, tk3, dr1, dr2, dr3, dr4, tt1, tt2, tt3, zd_cons, zd_nil, zd_nil', wTy, aA, aB, List.replicate, aD, aE, aF, aG, if_true, ite_true, if_false, ite_false, true_and, and_true, cg, cgs, cgGet0, cgGetS, any_str, iok_map]
      refine ite_of (fun e z => nomatch z) fun e z => ?_
      refine ⟨fun q => ?_, fun q => ?_⟩
      · rw [← List.contains_iff_mem, e] at q
        cases q
      · rw [← List.contains_iff_mem, z] at q
        cases q
    · refine asg_cut hF _ go fun t ⟨x, e, h⟩ => ?_
      subst e
      exact ⟨x, rfl, h⟩
  subst e
  simp only [wSs, wS, wE, wOp, wOs, wV, wI, wCs, wAnd, wOr, wP, wTg, wipeE, slot0, slotS, start0, d_v, d_ol, d_od, w_tup, w_lst, w_str, isB_bl, gl_tup, gl_str, gl_int, gin_d, gix_d, itOk, eFz, c_eq, c_ne, c_ltI, c_leI, c_gtI, c_geI, c_ltS, c_leS, c_gtS, c_geS, c_inS, c_niS, c_inT, c_niT, c_inL, c_niL, c_isN, c_isnotN, c_isB, c_isnotB, b_addI, b_addS, b_addT, b_addL, b_sub, b_mul, b_rep, b_pow, b_shl, b_mod, b_fdiv, i_str, i_tup, i_lst, k_str, k_tup, k_lst, n_str, n_tup, n_lst, n_all, n_any, n_listL, n_listT, n_listD, n_listS, n_lenD, n_sortL, n_sortD, n_intB, n_intI, n_tupL, n_tupT, m_join, m_split, r_join, r_split, n_max2, n_sortP, n_maxS, n_minS, n_min2, n_maxL, n_minL, n_sum, n_strI, n_strS, m_upper, m_index, r_upper, r_index, i_dS, i_dI, c_inD, c_niD, key_str, key_int, wPs, at0, at1, at2, at3, ct1, ct2, ct3, ct4, tk1, tk2, tk3, dr1, dr2, dr3, dr4, tt1, tt2, tt3, zd_cons, zd_nil, zd_nil', wTy, aA, aB, List.replicate, aD, aE, aF, aG, if_true, ite_true, if_false, ite_false, true_and, and_true, cg, cgs, cgGet0, cgGetS, aH, aI, Nat.reduceAdd, Nat.zero_add, Nat.reduceLeDiff, cok_ss, cok_ii, cok_bb, cok_is, cok_si, iok, iokI, afl_s, afl_i, afl_n, bcc, bnc, bcn, bnn, ev_str, ev_int, ev_bl, aJ, aK, Nat.reduceBEq, Int.reduceBEq, aL, aM, aN, aO, aP, aQ, aR, aS, aT, aU, aV, beq_self_eq_true, List.length_map]
  refine ⟨by omega, ?_⟩
  have := h x (some (.v (.str x))) (some (.v (.int w))) b7 hx ht hk
  rw [List.map_append] at this
  exact this
theorem s_kinds {K n : Nat} {Q : D → Prop} (hK : 8 ≤ K) (hn : n ≤ 15) (h : ∀ ks : List (List Nat), ks.length = n → (∀ x ∈ ks, Wl 2 8 x ∧ x ∉ taken) → ks.Nodup → Q (.lst (ks.map D.str))) : Phi tab cg K 8 [.deck, .int (n : Int)] Q := by
  refine phi_goK rfl rfl (by omega) ?_
  have hF := Phi_mono (cg := cg) monoT (K - 1)
  unfold b_l_kinds
  refine asg_cut hF (fun t => t = .v (.str taken1)) rfl fun t e => ?_
  subst e
  refine asg_cut hF (fun t => t = .ol (taken.map D.str)) ?_ fun t e => ?_
  · simp only [wSs, wS, wE, wOp, wOs, wV, wI, wCs, wAnd, wOr, wP, wTg, wipeE, slot0, slotS, start0, d_v, d_ol, d_od, w_tup, w_lst, w_str, isB_bl, gl_tup, gl_str, gl_int, gin_d, gix_d, itOk, eFz, c_eq, c_ne, c_ltI, c_leI, c_gtI, c_geI, c_ltS, c_leS, c_gtS, c_geS, c_inS, c_niS, c_inT, c_niT, c_inL, c_niL, c_isN, c_isnotN, c_isB, c_isnotB, b_addI, b_addS, b_addT, b_addL, b_sub, b_mul, b_rep, b_pow, b_shl, b_mod, b_fdiv, i_str, i_tup, i_lst, k_str, k_tup, k_lst, n_str, n_tup, n_lst, n_all, n_any, n_listL, n_listT, n_listD, n_listS, n_lenD, n_sortL, n_sortD, n_intB, n_intI, n_tupL, n_tupT, m_join, m_split, r_join, r_split, n_max2, n_sortP, n_maxS, n_minS, n_min2, n_maxL, n_minL, n_sum, n_strI, n_strS, m_upper, m_index, r_upper, r_index, i_dS, i_dI, c_inD, c_niD, key_str, key_int, wPs, at0, at1, at2, at3, ct1, ct2, ct3, ct4, tk1, tk2, tk3, dr1, dr2, dr3, dr4, tt1, tt2, tt3, zd_cons, zd_nil, zd_nil', wTy, aA, aB, List.replicate, aD, aE, aF, aG, if_true, ite_true, if_false, ite_false, true_and, and_true, cg, cgs, cgGet0, cgGetS, aH, aI, Nat.reduceAdd, Nat.zero_add, Nat.reduceLeDiff, cok_ss, cok_ii, cok_bb, cok_is, cok_si, iok, iokI, afl_s, afl_i, afl_n, bcc, bnc, bcn, bnn, ev_str, ev_int, ev_bl, aJ, aK, Nat.reduceBEq, Int.reduceBEq, aL, aM, aN, aO, aP, aQ, aR, aS, aT, aU, aV, beq_self_eq_true]
    exact ⟨by decide +kernel, ⟨by decide +kernel, by decide⟩, rfl⟩
  subst e
  refine asg_cut hF (fun t => t = .ol []) (by simp only [wSs, wS, wE, wOp, wOs, wV, wI, wCs, wAnd, wOr, wP, wTg, wipeE, slot0, slotS, start0, d_v, d_ol, d_od, w_tup, w_lst, w_str, isB_bl, gl_tup, gl_str, gl_int, gin_d, gix_d, itOk, eFz, c_eq, c_ne, c_ltI, c_leI, c_gtI, c_geI, c_ltS, c_leS, c_gtS, c_geS, c_inS, c_niS, c_inT, c_niT, c_inL, c_niL, c_isN, c_isnotN, c_isB, c_isnotB, b_addI, b_addS, b_addT, b_addL, b_sub, b_mul, b_rep, b_pow, b_shl, b_mod, b_fdiv, i_str, i_tup, i_lst, k_str, k_tup, k_lst, n_str, n_tup, n_lst, n_all, n_any, n_listL, n_listT, n_listD, n_listS, n_lenD, n_sortL, n_sortD, n_intB, n_intI, n_tupL, n_tupT, m_join, m_split, r_join, r_split, n_max2, n_sortP, n_maxS, n_minS, n_min2, n_maxL, n_minL, n_sum, n_strI, n_strS, m_upper, m_index, r_upper, r_index, i_dS, i_dI, c_inD, c_niD, key_str, key_int, wPs, at0, at1, at2, at3, ct1, ct2, ct3, ct4, tk1, tk2, tk3, dr1, dr2, dr3, dr4, tt1, tt2, tt3, zd_cons, zd_nil, zd_nil', wTy, aA, aB, List.replicate, aD, aE, aF, aG, if_true, ite_true, if_false, ite_false, true_and, and_true, cg, cgs, cgGet0, cgGetS, aH, aI, Nat.reduceAdd, Nat.zero_add, Nat.reduceLeDiff, cok_ss, cok_ii, cok_bb, cok_is, cok_si, iok, iokI, afl_s, afl_i, afl_n, bcc, bnc, bcn, bnn, ev_str, ev_int, ev_bl, aJ, aK, Nat.reduceBEq, Int.reduceBEq, aL, aM, aN, aO, aP, aQ, aR, aS, aT, aU, aV, beq_self_eq_true]) fun t e => ?_
  subst e
  simp only [start0, List.map_cons, List.map_nil, List.replicate, List.cons_append, List.nil_append, List.set_cons_zero, List.set_cons_succ]
  refine ss_cut hF (fun env => ∃ (ks : List (List Nat)) (a4 a5 a6 a7 : Option T), env = [some (.v (.deck)), some (.v (.int n)), some (.ol (taken.map D.str)), some (.ol (ks.map D.str)), a4, a5, a6, a7, none, none] ∧ ks.length = n ∧ (∀ x ∈ ks, Wl 2 8 x ∧ x ∉ taken) ∧ ks.Nodup) (fors_idx hF trivial ?_) fun env ⟨ks, a4, a5, a6, a7, e, h1, h2, h3⟩ => ?_
  · simp only [wSs, wS, wE, wOp, wOs, wV, wI, wCs, wAnd, wOr, wP, wTg, wipeE, slot0, slotS, start0, d_v, d_ol, d_od, w_tup, w_lst, w_str, isB_bl, gl_tup, gl_str, gl_int, gin_d, gix_d, itOk, eFz, c_eq, c_ne, c_ltI, c_leI, c_gtI, c_geI, c_ltS, c_leS, c_gtS, c_geS, c_inS, c_niS, c_inT, c_niT, c_inL, c_niL, c_isN, c_isnotN, c_isB, c_isnotB, b_addI, b_addS, b_addT, b_addL, b_sub, b_mul, b_rep, b_pow, b_shl, b_mod, b_fdiv, i_str, i_tup, i_lst, k_str, k_tup, k_lst, n_str, n_tup, n_lst, n_all, n_any, n_listL, n_listT, n_listD, n_listS, n_lenD, n_sortL, n_sortD, n_intB, n_intI, n_tupL, n_tupT, m_join, m_split, r_join, r_split, n_max2, n_sortP, n_maxS, n_minS, n_min2, n_maxL, n_minL, n_sum, n_strI, n_strS, m_upper, m_index, r_upper, r_index, i_dS, i_dI, c_inD, c_niD, key_str, key_int, wPs, at0, at1, at2, at3, ct1, ct2, ct3, ct4, tk1, tk2, tk3, dr1, dr2, dr3, dr4, tt1, tt2, tt3, zd_cons, zd_nil, zd_nil', wTy, aA, aB, List.replicate, aD, aE, aF, aG, if_true, ite_true, if_false, ite_false, true_and, and_true, cg, cgs, cgGet0, cgGetS, aH, aI, Nat.reduceAdd, Nat.zero_add, Nat.reduceLeDiff, cok_ss, cok_ii, cok_bb, cok_is, cok_si, iok, iokI, afl_s, afl_i, afl_n, bcc, bnc, bcn, bnn, ev_str, ev_int, ev_bl, aJ, aK, Nat.reduceBEq, Int.reduceBEq, aL, aM, aN, aO, aP, aQ, aR, aS, aT, aU, aV, beq_self_eq_true]
    refine ⟨⟨by omega, by omega⟩, fun i env => ∃ (ks : List (List Nat)) (a4 a5 a6 a7 : Option T), env = [some (.v (.deck)), some (.v (.int n)), some (.ol (taken.map D.str)), some (.ol (ks.map D.str)), a4, a5, a6, a7, none, none] ∧ ks.length = i ∧ (∀ x ∈ ks, Wl 2 8 x ∧ x ∉ taken) ∧ ks.Nodup, ⟨[], _, _, _, _, rfl, rfl, (fun _ z => nomatch z), .nil⟩, fun i y hy env hi => ?_, fun env he => ?_⟩
    · obtain ⟨ks, a4, a5, a6, a7, rfl, h1, h2, h3⟩ := hi
      obtain ⟨rfl, hlt⟩ := rangeD_get hy
      refine ⟨_, rfl, ?_⟩
      refine kinds1 hK (by omega) (fun x hx => (h2 x hx).1) fun x b5 b6 b7 hx ht hk => ⟨ks ++ [x], _, _, _, _, rfl, by rw [List.length_append, h1]; rfl, fun z hz => ?_, ?_⟩
      · rcases List.mem_append.mp hz with hz | hz
        · exact h2 z hz
        · rw [List.mem_singleton.mp hz]
          exact ⟨hx, ht⟩
      · rw [List.nodup_append]
        refine ⟨h3, List.pairwise_singleton .., fun a ha b hb => ?_⟩
        rw [List.mem_singleton.mp hb]
        exact fun e => hk (e ▸ ha)
    · obtain ⟨ks, a4, a5, a6, a7, rfl, h1, h2, h3⟩ := he
      rw [rangeD_len] at h1
      exact ⟨ks, a4, a5, a6, a7, rfl, by omega, h2, h3⟩
  subst e
  simp only [wSs, wS, wE, wOp, wOs, wV, wI, wCs, wAnd, wOr, wP, wTg, wipeE, slot0, slotS, start0, d_v, d_ol, d_od, w_tup, w_lst, w_str, isB_bl, gl_tup, gl_str, gl_int, gin_d, gix_d, itOk, eFz, c_eq, c_ne, c_ltI, c_leI, c_gtI, c_geI, c_ltS, c_leS, c_gtS, c_geS, c_inS, c_niS, c_inT, c_niT, c_inL, c_niL, c_isN, c_isnotN, c_isB, c_isnotB, b_addI, b_addS, b_addT, b_addL, b_sub, b_mul, b_rep, b_pow, b_shl, b_mod, b_fdiv, i_str, i_tup, i_lst, k_str, k_tup, k_lst, n_str, n_tup, n_lst, n_all, n_any, n_listL, n_listT, n_listD, n_listS, n_lenD, n_sortL, n_sortD, n_intB, n_intI, n_tupL, n_tupT, m_join, m_split, r_join, r_split, n_max2, n_sortP, n_maxS, n_minS, n_min2, n_maxL, n_minL, n_sum, n_strI, n_strS, m_upper, m_index, r_upper, r_index, i_dS, i_dI, c_inD, c_niD, key_str, key_int, wPs, at0, at1, at2, at3, ct1, ct2, ct3, ct4, tk1, tk2, tk3, dr1, dr2, dr3, dr4, tt1, tt2, tt3, zd_cons, zd_nil, zd_nil', wTy, aA, aB, List.replicate, aD, aE, aF, aG, if_true, ite_true, if_false, ite_false, true_and, and_true, cg, cgs, cgGet0, cgGetS, aH, aI, Nat.reduceAdd, Nat.zero_add, Nat.reduceLeDiff, cok_ss, cok_ii, cok_bb, cok_is, cok_si, iok, iokI, afl_s, afl_i, afl_n, bcc, bnc, bcn, bnn, ev_str, ev_int, ev_bl, aJ, aK, Nat.reduceBEq, Int.reduceBEq, aL, aM, aN, aO, aP, aQ, aR, aS, aT, aU, aV, beq_self_eq_true]
  exact h ks h1 h2 h3
def ent (p : List Nat × Int) : Key × D := (.inr (mkS p.1), .int p.2)
def tget : List (List Nat × Int) → List Nat → Option Int
  | [], _ => none
  | p :: r, x => if p.1 = x then some p.2 else tget r x
def tput : List (List Nat × Int) → List Nat → Int → List (List Nat × Int)
  | [], x, v => [(x, v)]
  | p :: r, x, v => if p.1 = x then (x, v) :: r else p :: tput r x v
theorem key_ne {a b : List Nat} (h : a ≠ b) : ¬ ((.inr (mkS a) : Key) = .inr (mkS b)) := fun e => h (mkS_inj (Sum.inr.inj e))
theorem kget_t {x : List Nat} : ∀ {l : List (List Nat × Int)}, kget (l.map ent) (.inr (mkS x)) = (tget l x).map D.int
  | [] => rfl
  | p :: r => by
    have ih := kget_t (x := x) (l := r)
    unfold kget at ih ⊢
    unfold tget
    rw [List.map_cons, List.find?_cons]
    by_cases h : p.1 = x
    · rw [if_pos h]
      subst h
      simp [ent]
    · rw [if_neg h]
      have : decide ((ent p).1 = (.inr (mkS x) : Key)) = false := decide_eq_false (key_ne h)
      rw [this]
      exact ih
theorem kget_td {x : List Nat} {l : List (List Nat × Int)} : (kget (l.map ent) (.inr (mkS x))).getD (.int 0) = .int ((tget l x).getD 0) := by
  rw [kget_t]
  cases tget l x <;> rfl
theorem tput_new {x : List Nat} {v : Int} : ∀ {l : List (List Nat × Int)}, x ∉ l.map (·.1) → tput l x v = l ++ [(x, v)]
  | [], _ => rfl
  | p :: r, h => by
    rw [List.map_cons, List.mem_cons, not_or] at h
    unfold tput
    rw [if_neg fun e => h.1 e.symm, tput_new h.2]
    rfl
theorem tput_map {x : List Nat} {v : Int} : ∀ {l : List (List Nat × Int)}, (l.map (·.1)).Nodup → x ∈ l.map (·.1) → tput l x v = l.map fun p => if p.1 = x then (x, v) else p
  | [], _, h => nomatch h
  | p :: r, hn, h => by
    rw [List.map_cons, List.nodup_cons] at hn
    unfold tput
    rw [List.map_cons]
    by_cases e : p.1 = x
    · rw [if_pos e, if_pos e]
      congr 1
      have : ∀ q ∈ r, (if q.1 = x then (x, v) else q) = q := fun q hq => if_neg fun z => hn.1 (by rw [e, ← z]; exact List.mem_map_of_mem hq)
      rw [List.map_congr_left this, List.map_id']
    · rw [if_neg e, if_neg e]
      rw [List.map_cons, List.mem_cons] at h
      rw [tput_map hn.2 (h.resolve_left fun z => e z.symm)]
theorem kput_t {x : List Nat} {v : Int} {l : List (List Nat × Int)} (hn : (l.map (·.1)).Nodup) : kput (l.map ent) (.inr (mkS x)) (.int v) = (tput l x v).map ent := by
  unfold kput
  by_cases h : x ∈ l.map (·.1)
  · have ha : ((l.map ent).any fun kv => decide (kv.1 = (.inr (mkS x) : Key))) = true := by
      obtain ⟨p, hp, e⟩ := List.mem_map.mp h
      rw [List.any_eq_true]
      exact ⟨ent p, List.mem_map_of_mem hp, decide_eq_true (by unfold ent; rw [e])⟩
    rw [if_pos ha, tput_map hn h, List.map_map, List.map_map]
    refine List.map_congr_left fun p _ => ?_
    by_cases e : p.1 = x
    · subst e
      simp [ent]
    · have := key_ne e
      simp [ent, e, this]
  · have ha : ((l.map ent).any fun kv => decide (kv.1 = (.inr (mkS x) : Key))) = false := by
      rw [List.any_eq_false]
      intro q hq
      obtain ⟨p, hp, rfl⟩ := List.mem_map.mp hq
      have : p.1 ≠ x := fun z => h (z ▸ List.mem_map_of_mem hp)
      simpa [ent] using key_ne this
    rw [if_neg (by rw [ha]; exact Bool.false_ne_true), tput_new h, List.map_append]
    rfl
theorem tput_keys {x : List Nat} {v : Int} : ∀ {l : List (List Nat × Int)}, (tput l x v).map (·.1) = if x ∈ l.map (·.1) then l.map (·.1) else l.map (·.1) ++ [x]
  | [] => by simp [tput]
  | p :: r => by
    unfold tput
    by_cases e : p.1 = x
    · rw [if_pos e, if_pos (by rw [List.map_cons, e]; exact List.mem_cons_self)]
      rw [List.map_cons, List.map_cons, e]
    · rw [if_neg e, List.map_cons, tput_keys, List.map_cons]
      by_cases h : x ∈ r.map (·.1)
      · rw [if_pos h, if_pos (List.mem_cons_of_mem _ h)]
      · rw [if_neg h, if_neg (by rw [List.mem_cons, not_or]; exact ⟨fun z => e z.symm, h⟩)]
        rfl
def LOk (ks : List (List Nat)) (l : List (List Nat × Int)) : Prop := (l.map (·.1)).Nodup ∧ ∀ x ∈ l.map (·.1), x ∈ [] :: ks
theorem LOk.put {ks : List (List Nat)} {l : List (List Nat × Int)} {x : List Nat} {v : Int} (h : LOk ks l) (hx : x ∈ [] :: ks) : LOk ks (tput l x v) := by
  unfold LOk
  rw [tput_keys]
  split
  · exact h
  · rename_i hn
    refine ⟨?_, fun y hy => ?_⟩
    · rw [List.nodup_append]
      refine ⟨h.1, by simp, fun a ha b hb e => ?_⟩
      rw [List.mem_singleton.mp hb] at e
      exact hn (e ▸ ha)
    · rcases List.mem_append.mp hy with hy | hy
      · exact h.2 y hy
      · rw [List.mem_singleton.mp hy]; exact hx
theorem LOk.len {ks : List (List Nat)} {l : List (List Nat × Int)} (h : LOk ks l) : l.length ≤ ks.length + 1 := by
  have := nodup_len _ _ h.1 h.2
  rw [List.length_map, List.length_cons] at this
  exact this
abbrev pd (p : List Nat × Int) : D := .tup [.str p.1, .int p.2]
def Su.dk (s : Su) : D := .tup [.tpk (s.ps.map pd), .int s.n]
def lsF (p : Su × Su) : D := .tup [.str cLeast, p.1.dk, p.2.dk]
def psx (ps : List (List Nat × Int)) (x : List Nat) : Int := (ps.map fun p => if p.1 = x then p.2 else 0).sum
def co (s : Su) (x : List Nat) : Int := if x = [] then s.n else psx s.ps x
def dco (p : Su × Su) (x : List Nat) : Int := co p.1 x - co p.2 x
def zco (qs : List ((Su × Su) × Int)) (x : List Nat) : Int := (qs.map fun q => q.2 * dco q.1 x).sum
def SuK (ks : List (List Nat)) (s : Su) : Prop := (s.ps.map (·.1)).Nodup ∧ ∀ p ∈ s.ps, p.1 ∈ ks
def gx (l : List (List Nat × Int)) (x : List Nat) : Int := (tget l x).getD 0
theorem tget_put {x : List Nat} {v : Int} {y : List Nat} : ∀ {l : List (List Nat × Int)}, tget (tput l x v) y = if x = y then some v else tget l y
  | [] => rfl
  | p :: r => by
    unfold tput
    by_cases e : p.1 = x
    · rw [if_pos e]
      unfold tget
      by_cases h : x = y
      · rw [if_pos h, if_pos h]
      · rw [if_neg h, if_neg h, if_neg fun z => h (e.symm.trans z)]
    · rw [if_neg e]
      unfold tget
      by_cases h : p.1 = y
      · rw [if_pos h, if_neg fun z => e (h.trans z.symm), if_pos h]
      · rw [if_neg h, tget_put]
        by_cases h2 : x = y
        · rw [if_pos h2, if_pos h2]
        · rw [if_neg h2, if_neg h2, if_neg h]
theorem gx_put {x y : List Nat} {v : Int} {l : List (List Nat × Int)} : gx (tput l x v) y = if x = y then v else gx l y := by
  unfold gx
  rw [tget_put]
  split <;> rfl
theorem tget_no {x : List Nat} : ∀ {l : List (List Nat × Int)}, x ∉ l.map (·.1) → tget l x = none
  | [], _ => rfl
  | p :: r, h => by
    rw [List.map_cons, List.mem_cons, not_or] at h
    unfold tget
    rw [if_neg fun z => h.1 z.symm, tget_no h.2]
theorem tget_mem {p : List Nat × Int} : ∀ {l : List (List Nat × Int)}, (l.map (·.1)).Nodup → p ∈ l → tget l p.1 = some p.2
  | [], _, h => nomatch h
  | q :: r, hn, h => by
    rw [List.map_cons, List.nodup_cons] at hn
    unfold tget
    rcases List.mem_cons.mp h with rfl | h
    · rw [if_pos rfl]
    · rw [if_neg fun z => hn.1 (by rw [z]; exact List.mem_map_of_mem h), tget_mem hn.2 h]
theorem tget_has {x : List Nat} : ∀ {l : List (List Nat × Int)}, x ∈ l.map (·.1) → ∃ v, tget l x = some v ∧ (x, v) ∈ l
  | [], h => nomatch h
  | p :: r, h => by
    unfold tget
    by_cases e : p.1 = x
    · rw [if_pos e]
      exact ⟨_, rfl, by rw [← e]; exact List.mem_cons_self⟩
    · rw [if_neg e]
      rw [List.map_cons] at h
      rcases List.mem_cons.mp h with h | h
      · exact absurd h.symm e
      · obtain ⟨v, h1, h2⟩ := tget_has h
        exact ⟨v, h1, List.mem_cons_of_mem _ h2⟩
theorem psx_no {x : List Nat} : ∀ {ps : List (List Nat × Int)}, (∀ p ∈ ps, p.1 ≠ x) → psx ps x = 0
  | [], _ => rfl
  | p :: r, h => by
    have := psx_no (x := x) (ps := r) fun q hq => h q (List.mem_cons_of_mem _ hq)
    unfold psx at this ⊢
    rw [List.map_cons, List.sum_cons, this, if_neg (h p List.mem_cons_self)]
    rfl
theorem psx_snoc {ps : List (List Nat × Int)} {p : List Nat × Int} {x : List Nat} : psx (ps ++ [p]) x = psx ps x + if p.1 = x then p.2 else 0 := by
  unfold psx
  rw [List.map_append, List.sum_append]
  simp
theorem zco_snoc {qs : List ((Su × Su) × Int)} {q : (Su × Su) × Int} {x : List Nat} : zco (qs ++ [q]) x = zco qs x + q.2 * dco q.1 x := by
  unfold zco
  rw [List.map_append, List.sum_append]
  simp
theorem take_snoc {α : Type} {l : List α} {i : Nat} {a : α} (h : l[i]? = some a) : l.take (i + 1) = l.take i ++ [a] := by
  rw [List.take_add_one, h]
  rfl
theorem s_laid {ks : List (List Nat)} {l : List (List Nat × Int)} {s : Su} {o : Int} {K : Nat} {Q : D → Prop} (hne : [] ∉ ks) (hkl : ks.length ≤ 100) (hl : LOk ks l) (hs : ∀ p ∈ s.ps, p.1 ∈ ks) (ho : -(2 ^ 64) < o ∧ o < 2 ^ 64) (hK : 1 ≤ K)
    (h : ∀ l', LOk ks l' → (∀ x, gx l' x = gx l x + co s x * o) → Q (.dct (l'.map ent))) : Phi tab cg K 0 [.dct (l.map ent), s.dk, .int o] Q := by
  refine phi_goL rfl rfl (by decide) hK ?_
  have hF := Phi_mono (cg := cg) monoT (K - 1)
  show wSs (Phi tab cg (K - 1)) cg b_laid_on [some (.op (l.map ent)), some (.v (.tup [.tpk (s.ps.map pd), .int s.n])), some (.v (.int o)), none, none, none, none] (lentK 0 Q)
  unfold b_laid_on
  refine ss_cut hF (fun env => env = [some (.op (l.map ent)), some (.v (.tup [.tpk (s.ps.map pd), .int s.n])), some (.v (.int o)), some (.v (.tpk (s.ps.map pd))), some (.v (.int s.n)), none, none]) ?_ fun env e => ?_
  · simp only [wSs, wS, wE, wOp, wOs, wV, wI, wCs, wAnd, wOr, wP, wTg, wipeE, slot0, slotS, start0, d_v, d_ol, d_od, w_tup, w_lst, w_str, isB_bl, gl_tup, gl_str, gl_int, gin_d, gix_d, itOk, eFz, c_eq, c_ne, c_ltI, c_leI, c_gtI, c_geI, c_ltS, c_leS, c_gtS, c_geS, c_inS, c_niS, c_inT, c_niT, c_inL, c_niL, c_isN, c_isnotN, c_isB, c_isnotB, b_addI, b_addS, b_addT, b_addL, b_sub, b_mul, b_rep, b_pow, b_shl, b_mod, b_fdiv, i_str, i_tup, i_lst, k_str, k_tup, k_lst, n_str, n_tup, n_lst, n_all, n_any, n_listL, n_listT, n_listD, n_listS, n_lenD, n_sortL, n_sortD, n_intB, n_intI, n_tupL, n_tupT, m_join, m_split, r_join, r_split, n_max2, n_sortP, n_maxS, n_minS, n_min2, n_maxL, n_minL, n_sum, n_strI, n_strS, m_upper, m_index, r_upper, r_index, i_dS, i_dI, c_inD, c_niD, key_str, key_int, wPs, at0, at1, at2, at3, ct1, ct2, ct3, ct4, tk1, tk2, tk3, dr1, dr2, dr3, dr4, tt1, tt2, tt3, zd_cons, zd_nil, zd_nil', wTy, aA, aB, List.replicate, aD, aE, aF, aG, if_true, ite_true, if_false, ite_false, true_and, and_true, cg, cgs, cgGet0, cgGetS, aH, aI, Nat.reduceAdd, Nat.zero_add, Nat.reduceLeDiff, cok_ss, cok_ii, cok_bb, cok_is, cok_si, iok, iokI, afl_s, afl_i, afl_n, bcc, bnc, bcn, bnn, ev_str, ev_int, ev_bl, aJ, aK, Nat.reduceBEq, Int.reduceBEq, aL, aM, aN, aO, aP, aQ, aR, aS, aT, aU, aV, beq_self_eq_true]
    rfl
  subst e
  have hlen := hl.len
  refine ss_cut hF (fun env => ∃ l1, env = [some (.op (l1.map ent)), some (.v (.tup [.tpk (s.ps.map pd), .int s.n])), some (.v (.int o)), some (.v (.tpk (s.ps.map pd))), some (.v (.int s.n)), none, none] ∧ LOk ks l1 ∧ ∀ x, gx l1 x = gx l x + if [] = x then s.n * o else 0) ?_ fun env ⟨l1, e, h1, h2⟩ => ?_
  · simp only [wSs, wS, wE, wOp, wOs, wV, wI, wCs, wAnd, wOr, wP, wTg, wipeE, slot0, slotS, start0, d_v, d_ol, d_od, w_tup, w_lst, w_str, isB_bl, gl_tup, gl_str, gl_int, gin_d, gix_d, itOk, eFz, c_eq, c_ne, c_ltI, c_leI, c_gtI, c_geI, c_ltS, c_leS, c_gtS, c_geS, c_inS, c_niS, c_inT, c_niT, c_inL, c_niL, c_isN, c_isnotN, c_isB, c_isnotB, b_addI, b_addS, b_addT, b_addL, b_sub, b_mul, b_rep, b_pow, b_shl, b_mod, b_fdiv, i_str, i_tup, i_lst, k_str, k_tup, k_lst, n_str, n_tup, n_lst, n_all, n_any, n_listL, n_listT, n_listD, n_listS, n_lenD, n_sortL, n_sortD, n_intB, n_intI, n_tupL, n_tupT, m_join, m_split, r_join, r_split, n_max2, n_sortP, n_maxS, n_minS, n_min2, n_maxL, n_minL, n_sum, n_strI, n_strS, m_upper, m_index, r_upper, r_index, i_dS, i_dI, c_inD, c_niD, key_str, key_int, wPs, at0, at1, at2, at3, ct1, ct2, ct3, ct4, tk1, tk2, tk3, dr1, dr2, dr3, dr4, tt1, tt2, tt3, zd_cons, zd_nil, zd_nil', wTy, aA, aB, List.replicate, aD, aE, aF, aG, if_true, ite_true, if_false, ite_false, true_and, and_true, cg, cgs, cgGet0, cgGetS, aH, aI, Nat.reduceAdd, Nat.zero_add, Nat.reduceLeDiff, cok_ss, cok_ii, cok_bb, cok_is, cok_si, iok, iokI, afl_s, afl_i, afl_n, bcc, bnc, bcn, bnn, ev_str, ev_int, ev_bl, aJ, aK, Nat.reduceBEq, Int.reduceBEq, aL, aM, aN, aO, aP, aQ, aR, aS, aT, aU, aV, beq_self_eq_true, d_op, List.length_map, kget_td, kput_t hl.1]
    refine ⟨by omega, .inr ho, tput l [] ((tget l []).getD 0 + s.n * o), rfl, hl.put List.mem_cons_self, fun x => ?_⟩
    rw [gx_put]
    by_cases e : [] = x
    · rw [if_pos e, if_pos e, ← e]
      rfl
    · rw [if_neg e, if_neg e, Int.add_zero]
  subst e
  refine ss_cut hF (fun env => ∃ (l2 : List (List Nat × Int)) (a5 a6 : Option T), env = [some (.op (l2.map ent)), some (.v (.tup [.tpk (s.ps.map pd), .int s.n])), some (.v (.int o)), some (.v (.tpk (s.ps.map pd))), some (.v (.int s.n)), a5, a6] ∧ LOk ks l2 ∧ ∀ x, gx l2 x = gx l1 x + psx s.ps x * o) (fors_idx hF trivial ?_) fun env ⟨l2, a5, a6, e, h3, h4⟩ => ?_
  · simp only [wSs, wS, wE, wOp, wOs, wV, wI, wCs, wAnd, wOr, wP, wTg, wipeE, slot0, slotS, start0, d_v, d_ol, d_od, w_tup, w_lst, w_str, isB_bl, gl_tup, gl_str, gl_int, gin_d, gix_d, itOk, eFz, c_eq, c_ne, c_ltI, c_leI, c_gtI, c_geI, c_ltS, c_leS, c_gtS, c_geS, c_inS, c_niS, c_inT, c_niT, c_inL, c_niL, c_isN, c_isnotN, c_isB, c_isnotB, b_addI, b_addS, b_addT, b_addL, b_sub, b_mul, b_rep, b_pow, b_shl, b_mod, b_fdiv, i_str, i_tup, i_lst, k_str, k_tup, k_lst, n_str, n_tup, n_lst, n_all, n_any, n_listL, n_listT, n_listD, n_listS, n_lenD, n_sortL, n_sortD, n_intB, n_intI, n_tupL, n_tupT, m_join, m_split, r_join, r_split, n_max2, n_sortP, n_maxS, n_minS, n_min2, n_maxL, n_minL, n_sum, n_strI, n_strS, m_upper, m_index, r_upper, r_index, i_dS, i_dI, c_inD, c_niD, key_str, key_int, wPs, at0, at1, at2, at3, ct1, ct2, ct3, ct4, tk1, tk2, tk3, dr1, dr2, dr3, dr4, tt1, tt2, tt3, zd_cons, zd_nil, zd_nil', wTy, aA, aB, List.replicate, aD, aE, aF, aG, if_true, ite_true, if_false, ite_false, true_and, and_true, cg, cgs, cgGet0, cgGetS, aH, aI, Nat.reduceAdd, Nat.zero_add, Nat.reduceLeDiff, cok_ss, cok_ii, cok_bb, cok_is, cok_si, iok, iokI, afl_s, afl_i, afl_n, bcc, bnc, bcn, bnn, ev_str, ev_int, ev_bl, aJ, aK, Nat.reduceBEq, Int.reduceBEq, aL, aM, aN, aO, aP, aQ, aR, aS, aT, aU, aV, beq_self_eq_true]
    refine ⟨fun i env => ∃ (l2 : List (List Nat × Int)) (a5 a6 : Option T), env = [some (.op (l2.map ent)), some (.v (.tup [.tpk (s.ps.map pd), .int s.n])), some (.v (.int o)), some (.v (.tpk (s.ps.map pd))), some (.v (.int s.n)), a5, a6] ∧ LOk ks l2 ∧ ∀ x, gx l2 x = gx l1 x + psx (s.ps.take i) x * o, ⟨l1, _, _, rfl, h1, fun x => by simp [psx]⟩, fun i d hd env hi => ?_, fun env he => ?_⟩
    · obtain ⟨l2, a5, a6, rfl, h3, h4⟩ := hi
      rw [List.getElem?_map] at hd
      obtain ⟨p, hp, rfl⟩ := Option.map_eq_some_iff.mp hd
      have hpk := hs p (List.mem_of_getElem? hp)
      have hlen := h3.len
      refine ⟨_, rfl, ?_⟩
      simp only [b_laid_on_1, wSs, wS, wE, wOp, wOs, wV, wI, wCs, wAnd, wOr, wP, wTg, wipeE, slot0, slotS, start0, d_v, d_ol, d_od, w_tup, w_lst, w_str, isB_bl, gl_tup, gl_str, gl_int, gin_d, gix_d, itOk, eFz, c_eq, c_ne, c_ltI, c_leI, c_gtI, c_geI, c_ltS, c_leS, c_gtS, c_geS, c_inS, c_niS, c_inT, c_niT, c_inL, c_niL, c_isN, c_isnotN, c_isB, c_isnotB, b_addI, b_addS, b_addT, b_addL, b_sub, b_mul, b_rep, b_pow, b_shl, b_mod, b_fdiv, i_str, i_tup, i_lst, k_str, k_tup, k_lst, n_str, n_tup, n_lst, n_all, n_any, n_listL, n_listT, n_listD, n_listS, n_lenD, n_sortL, n_sortD, n_intB, n_intI, n_tupL, n_tupT, m_join, m_split, r_join, r_split, n_max2, n_sortP, n_maxS, n_minS, n_min2, n_maxL, n_minL, n_sum, n_strI, n_strS, m_upper, m_index, r_upper, r_index, i_dS, i_dI, c_inD, c_niD, key_str, key_int, wPs, at0, at1, at2, at3, ct1, ct2, ct3, ct4, tk1, tk2, tk3, dr1, dr2, dr3, dr4, tt1, tt2, tt3, zd_cons, zd_nil, zd_nil', wTy, aA, aB, List.replicate, aD, aE, aF, aG, if_true, ite_true, if_false, ite_false, true_and, and_true, cg, cgs, cgGet0, cgGetS, aH, aI, Nat.reduceAdd, Nat.zero_add, Nat.reduceLeDiff, cok_ss, cok_ii, cok_bb, cok_is, cok_si, iok, iokI, afl_s, afl_i, afl_n, bcc, bnc, bcn, bnn, ev_str, ev_int, ev_bl, aJ, aK, Nat.reduceBEq, Int.reduceBEq, aL, aM, aN, aO, aP, aQ, aR, aS, aT, aU, aV, beq_self_eq_true, List.zip_cons_cons, List.zip_nil_left, List.zip_nil_right, List.foldl_cons, List.foldl_nil, d_op, List.length_map, kget_td, kput_t h3.1]
      refine ⟨by omega, .inr ho, tput l2 p.1 ((tget l2 p.1).getD 0 + p.2 * o), _, _, rfl, h3.put (List.mem_cons_of_mem _ hpk), fun x => ?_⟩
      rw [gx_put, take_snoc hp, psx_snoc, Int.add_mul]
      by_cases e : p.1 = x
      · rw [if_pos e, if_pos e]
        have := h4 x
        unfold gx at this ⊢
        rw [e, this]
        omega
      · rw [if_neg e, if_neg e, h4, Int.zero_mul, Int.add_zero]
    · obtain ⟨l2, a5, a6, rfl, h3, h4⟩ := he
      rw [List.length_map, List.take_length] at h4
      exact ⟨l2, _, _, rfl, h3, h4⟩
  subst e
  simp only [wSs]
  refine lentK_op (kvs := l2.map ent) (slot0 _ _) (h l2 h3 fun x => ?_)
  rw [h4, h2]
  unfold co
  by_cases e : [] = x
  · rw [if_pos e, if_pos e.symm, psx_no fun p hp z => hne (by have := hs p hp; rw [z, ← e] at this; exact this), Int.zero_mul, Int.add_zero]
  · rw [if_neg e, if_neg (Ne.symm e), Int.add_zero]
theorem s_over {ks : List (List Nat)} {l : List (List Nat × Int)} {f : Su × Su} {o : Int} {K : Nat} {Q : D → Prop} (hne : [] ∉ ks) (hkl : ks.length ≤ 100) (hl : LOk ks l) (ha : SuK ks f.1) (hb : SuK ks f.2) (ho : -(2 ^ 60) < o ∧ o < 2 ^ 60) (hK : 2 ≤ K)
    (h : ∀ l', LOk ks l' → (∀ x, gx l' x = gx l x + dco f x * o) → Q (.dct (l'.map ent))) : Phi tab cg K 1 [.dct (l.map ent), lsF f, .int o] Q := by
  refine phi_goL rfl rfl (by decide) (by omega) ?_
  have hF := Phi_mono (cg := cg) monoT (K - 1)
  show wSs (Phi tab cg (K - 1)) cg b_over [some (.v (.tup [.str cLeast, f.1.dk, f.2.dk])), some (.op (l.map ent)), some (.v (.int o))] (lentK 1 Q)
  unfold b_over
  refine ss_cut hF (fun env => ∃ l1, env = [some (.v (.tup [.str cLeast, f.1.dk, f.2.dk])), some (.op (l1.map ent)), some (.v (.int o))] ∧ LOk ks l1 ∧ ∀ x, gx l1 x = gx l x + co f.1 x * o) ?_ fun env ⟨l1, e, h1, h2⟩ => ?_
  · simp only [wSs, wS, wE, wOp, wOs, wV, wI, wCs, wAnd, wOr, wP, wTg, wipeE, slot0, slotS, start0, d_v, d_ol, d_od, w_tup, w_lst, w_str, isB_bl, gl_tup, gl_str, gl_int, gin_d, gix_d, itOk, eFz, c_eq, c_ne, c_ltI, c_leI, c_gtI, c_geI, c_ltS, c_leS, c_gtS, c_geS, c_inS, c_niS, c_inT, c_niT, c_inL, c_niL, c_isN, c_isnotN, c_isB, c_isnotB, b_addI, b_addS, b_addT, b_addL, b_sub, b_mul, b_rep, b_pow, b_shl, b_mod, b_fdiv, i_str, i_tup, i_lst, k_str, k_tup, k_lst, n_str, n_tup, n_lst, n_all, n_any, n_listL, n_listT, n_listD, n_listS, n_lenD, n_sortL, n_sortD, n_intB, n_intI, n_tupL, n_tupT, m_join, m_split, r_join, r_split, n_max2, n_sortP, n_maxS, n_minS, n_min2, n_maxL, n_minL, n_sum, n_strI, n_strS, m_upper, m_index, r_upper, r_index, i_dS, i_dI, c_inD, c_niD, key_str, key_int, wPs, at0, at1, at2, at3, ct1, ct2, ct3, ct4, tk1, tk2, tk3, dr1, dr2, dr3, dr4, tt1, tt2, tt3, zd_cons, zd_nil, zd_nil', wTy, aA, aB, List.replicate, aD, aE, aF, aG, if_true, ite_true, if_false, ite_false, true_and, and_true, cg, cgs, cgGet0, cgGetS, aH, aI, Nat.reduceAdd, Nat.zero_add, Nat.reduceLeDiff, cok_ss, cok_ii, cok_bb, cok_is, cok_si, iok, iokI, afl_s, afl_i, afl_n, bcc, bnc, bcn, bnn, ev_str, ev_int, ev_bl, aJ, aK, Nat.reduceBEq, Int.reduceBEq, aL, aM, aN, aO, aP, aQ, aR, aS, aT, aU, aV, beq_self_eq_true]
    exact s_laid hne hkl hl ha.2 (by omega) (by omega) fun l' g1 g2 => ⟨l', rfl, g1, g2⟩
  subst e
  refine ss_cut hF (fun env => ∃ l2, env = [some (.v (.tup [.str cLeast, f.1.dk, f.2.dk])), some (.op (l2.map ent)), some (.v (.int o))] ∧ LOk ks l2 ∧ ∀ x, gx l2 x = gx l x + dco f x * o) ?_ fun env ⟨l2, e, h1, h2⟩ => ?_
  · simp only [wSs, wS, wE, wOp, wOs, wV, wI, wCs, wAnd, wOr, wP, wTg, wipeE, slot0, slotS, start0, d_v, d_ol, d_od, w_tup, w_lst, w_str, isB_bl, gl_tup, gl_str, gl_int, gin_d, gix_d, itOk, eFz, c_eq, c_ne, c_ltI, c_leI, c_gtI, c_geI, c_ltS, c_leS, c_gtS, c_geS, c_inS, c_niS, c_inT, c_niT, c_inL, c_niL, c_isN, c_isnotN, c_isB, c_isnotB, b_addI, b_addS, b_addT, b_addL, b_sub, b_mul, b_rep, b_pow, b_shl, b_mod, b_fdiv, i_str, i_tup, i_lst, k_str, k_tup, k_lst, n_str, n_tup, n_lst, n_all, n_any, n_listL, n_listT, n_listD, n_listS, n_lenD, n_sortL, n_sortD, n_intB, n_intI, n_tupL, n_tupT, m_join, m_split, r_join, r_split, n_max2, n_sortP, n_maxS, n_minS, n_min2, n_maxL, n_minL, n_sum, n_strI, n_strS, m_upper, m_index, r_upper, r_index, i_dS, i_dI, c_inD, c_niD, key_str, key_int, wPs, at0, at1, at2, at3, ct1, ct2, ct3, ct4, tk1, tk2, tk3, dr1, dr2, dr3, dr4, tt1, tt2, tt3, zd_cons, zd_nil, zd_nil', wTy, aA, aB, List.replicate, aD, aE, aF, aG, if_true, ite_true, if_false, ite_false, true_and, and_true, cg, cgs, cgGet0, cgGetS, aH, aI, Nat.reduceAdd, Nat.zero_add, Nat.reduceLeDiff, cok_ss, cok_ii, cok_bb, cok_is, cok_si, iok, iokI, afl_s, afl_i, afl_n, bcc, bnc, bcn, bnn, ev_str, ev_int, ev_bl, aJ, aK, Nat.reduceBEq, Int.reduceBEq, aL, aM, aN, aO, aP, aQ, aR, aS, aT, aU, aV, beq_self_eq_true]
    refine s_laid hne hkl h1 hb.2 (by omega) (by omega) fun l' g1 g2 => ⟨l', rfl, g1, fun x => ?_⟩
    rw [g2, h2]
    unfold dco
    rw [Int.sub_mul, Int.mul_sub, Int.mul_zero]
    omega
  subst e
  simp only [wSs]
  exact lentK_op (kvs := l2.map ent) rfl (h l2 h1 h2)
theorem bools_m {α : Type} {g : α → Bool} : ∀ {l : List α}, bools (l.map fun p => D.bl (g p)) = some (l.map g)
  | [] => rfl
  | a :: l => by
    rw [List.map_cons, bools, bools_m]
    rfl
theorem s_times {K : Nat} {ts : List Int} {Q : D → Prop} (hK : 1 ≤ K) (hl : ts.length ≤ 100) (h0 : ∀ t ∈ ts, 0 ≤ t) (h : Q (.bl true)) : Phi tab cg K 2 [.tup (ts.map D.int), .int (ts.length : Int)] Q := by
  refine phi_goK rfl rfl (by omega) ?_
  simp only [b_are_times, wSs, wS, wE, wOp, wOs, wV, wI, wCs, wAnd, wOr, wP, wTg, wipeE, slot0, slotS, start0, d_v, d_ol, d_od, w_tup, w_lst, w_str, isB_bl, gl_tup, gl_str, gl_int, gin_d, gix_d, itOk, eFz, c_eq, c_ne, c_ltI, c_leI, c_gtI, c_geI, c_ltS, c_leS, c_gtS, c_geS, c_inS, c_niS, c_inT, c_niT, c_inL, c_niL, c_isN, c_isnotN, c_isB, c_isnotB, b_addI, b_addS, b_addT, b_addL, b_sub, b_mul, b_rep, b_pow, b_shl, b_mod, b_fdiv, i_str, i_tup, i_lst, k_str, k_tup, k_lst, n_str, n_tup, n_lst, n_all, n_any, n_listL, n_listT, n_listD, n_listS, n_lenD, n_sortL, n_sortD, n_intB, n_intI, n_tupL, n_tupT, m_join, m_split, r_join, r_split, n_max2, n_sortP, n_maxS, n_minS, n_min2, n_maxL, n_minL, n_sum, n_strI, n_strS, m_upper, m_index, r_upper, r_index, i_dS, i_dI, c_inD, c_niD, key_str, key_int, wPs, at0, at1, at2, at3, ct1, ct2, ct3, ct4, tk1, tk2, tk3, dr1, dr2, dr3, dr4, tt1, tt2, tt3, zd_cons, zd_nil, zd_nil', wTy, aA, aB, List.replicate, aD, aE, aF, aG, if_true, ite_true, if_false, ite_false, true_and, and_true, cg, cgs, cgGet0, cgGetS, aH, aI, Nat.reduceAdd, Nat.zero_add, Nat.reduceLeDiff, cok_ss, cok_ii, cok_bb, cok_is, cok_si, iok, iokI, afl_s, afl_i, afl_n, bcc, bnc, bcn, bnn, ev_str, ev_int, ev_bl, aJ, aK, Nat.reduceBEq, Int.reduceBEq, aL, aM, aN, aO, aP, aQ, aR, aS, aT, aU, aV, beq_self_eq_true, List.length_map]
  refine ⟨by omega, wLc_mapT (v := fun (t : Int) => .bl (decide (0 ≤ t))) ts (fun t ht k hk => ?_) ?_⟩
  · exact hk
  · refine ⟨_, bools_m, ?_⟩
    have : ((ts.map fun (t : Int) => decide (0 ≤ t)).all id) = true := by
      rw [List.all_map, List.all_eq_true]
      intro t ht
      exact decide_eq_true (h0 t ht)
    rw [this]
    exact h
def dc (f : Su × Su) (ps : List (Su × Su)) (ts : List Int) (x : List Nat) : Int := dco f x - zco (ps.zip ts) x
def sb (ks : List (List Nat)) (f : Su × Su) (ps : List (Su × Su)) (ts : List Int) : Bool := ([] :: ks).all fun x => decide (0 ≤ dc f ps ts x)
theorem s_summed {ks : List (List Nat)} {f : Su × Su} {ps : List (Su × Su)} {ts : List Int} {K : Nat} {Q : D → Prop} (hne : [] ∉ ks) (hkl : ks.length ≤ 100) (hs : ∀ p ∈ f :: ps, SuK ks p.1 ∧ SuK ks p.2) (hl : ps.length = ts.length) (hl2 : ts.length ≤ 100) (ht : ∀ t ∈ ts, 0 ≤ t ∧ t ≤ 2 ^ 40) (hK : 4 ≤ K)
    (h : Q (.bl (sb ks f ps ts))) : Phi tab cg K 3 [lsF f, .tup (ps.map lsF), .tup (ts.map D.int)] Q := by
  refine phi_goK rfl rfl (by omega) ?_
  have hF := Phi_mono (cg := cg) monoT (K - 1)
  obtain ⟨hf1, hf2⟩ := hs f List.mem_cons_self
  unfold b_summed
  refine ss_cut hF (fun env => env = [some (.v (lsF f)), some (.v (.tup (ps.map lsF))), some (.v (.tup (ts.map D.int))), none, none, none, none]) ?_ fun env e => ?_
  · simp only [wSs, wS, wE, wOp, wOs, wV, wI, wCs, wAnd, wOr, wP, wTg, wipeE, slot0, slotS, start0, d_v, d_ol, d_od, w_tup, w_lst, w_str, isB_bl, gl_tup, gl_str, gl_int, gin_d, gix_d, itOk, eFz, c_eq, c_ne, c_ltI, c_leI, c_gtI, c_geI, c_ltS, c_leS, c_gtS, c_geS, c_inS, c_niS, c_inT, c_niT, c_inL, c_niL, c_isN, c_isnotN, c_isB, c_isnotB, b_addI, b_addS, b_addT, b_addL, b_sub, b_mul, b_rep, b_pow, b_shl, b_mod, b_fdiv, i_str, i_tup, i_lst, k_str, k_tup, k_lst, n_str, n_tup, n_lst, n_all, n_any, n_listL, n_listT, n_listD, n_listS, n_lenD, n_sortL, n_sortD, n_intB, n_intI, n_tupL, n_tupT, m_join, m_split, r_join, r_split, n_max2, n_sortP, n_maxS, n_minS, n_min2, n_maxL, n_minL, n_sum, n_strI, n_strS, m_upper, m_index, r_upper, r_index, i_dS, i_dI, c_inD, c_niD, key_str, key_int, wPs, at0, at1, at2, at3, ct1, ct2, ct3, ct4, tk1, tk2, tk3, dr1, dr2, dr3, dr4, tt1, tt2, tt3, zd_cons, zd_nil, zd_nil', wTy, aA, aB, List.replicate, aD, aE, aF, aG, if_true, ite_true, if_false, ite_false, true_and, and_true, cg, cgs, cgGet0, cgGetS, aH, aI, Nat.reduceAdd, Nat.zero_add, Nat.reduceLeDiff, cok_ss, cok_ii, cok_bb, cok_is, cok_si, iok, iokI, afl_s, afl_i, afl_n, bcc, bnc, bcn, bnn, ev_str, ev_int, ev_bl, aJ, aK, Nat.reduceBEq, Int.reduceBEq, aL, aM, aN, aO, aP, aQ, aR, aS, aT, aU, aV, beq_self_eq_true, List.length_map]
    rw [hl]
    refine s_times (by omega) hl2 (fun t h => (ht t h).1) ?_
    simp only [wSs, wS, wE, wOp, wOs, wV, wI, wCs, wAnd, wOr, wP, wTg, wipeE, slot0, slotS, start0, d_v, d_ol, d_od, w_tup, w_lst, w_str, isB_bl, gl_tup, gl_str, gl_int, gin_d, gix_d, itOk, eFz, c_eq, c_ne, c_ltI, c_leI, c_gtI, c_geI, c_ltS, c_leS, c_gtS, c_geS, c_inS, c_niS, c_inT, c_niT, c_inL, c_niL, c_isN, c_isnotN, c_isB, c_isnotB, b_addI, b_addS, b_addT, b_addL, b_sub, b_mul, b_rep, b_pow, b_shl, b_mod, b_fdiv, i_str, i_tup, i_lst, k_str, k_tup, k_lst, n_str, n_tup, n_lst, n_all, n_any, n_listL, n_listT, n_listD, n_listS, n_lenD, n_sortL, n_sortD, n_intB, n_intI, n_tupL, n_tupT, m_join, m_split, r_join, r_split, n_max2, n_sortP, n_maxS, n_minS, n_min2, n_maxL, n_minL, n_sum, n_strI, n_strS, m_upper, m_index, r_upper, r_index, i_dS, i_dI, c_inD, c_niD, key_str, key_int, wPs, at0, at1, at2, at3, ct1, ct2, ct3, ct4, tk1, tk2, tk3, dr1, dr2, dr3, dr4, tt1, tt2, tt3, zd_cons, zd_nil, zd_nil', wTy, aA, aB, List.replicate, aD, aE, aF, aG, if_true, ite_true, if_false, ite_false, true_and, and_true, cg, cgs, cgGet0, cgGetS, aH, aI, Nat.reduceAdd, Nat.zero_add, Nat.reduceLeDiff, cok_ss, cok_ii, cok_bb, cok_is, cok_si, iok, iokI, afl_s, afl_i, afl_n, bcc, bnc, bcn, bnn, ev_str, ev_int, ev_bl, aJ, aK, Nat.reduceBEq, Int.reduceBEq, aL, aM, aN, aO, aP, aQ, aR, aS, aT, aU, aV, beq_self_eq_true, List.length_map]
    refine ⟨by omega, by omega, ?_⟩
    rw [show lsF f :: ps.map lsF = (f :: ps).map lsF from rfl]
    refine wLc_mapT (u := lsF) (v := fun _ => .bl true) (f :: ps) (fun p hp k hk => ?_) ?_
    · rw [show lsF p = .tup [.str cLeast, p.1.dk, p.2.dk] from rfl]
      simp only [wSs, wS, wE, wOp, wOs, wV, wI, wCs, wAnd, wOr, wP, wTg, wipeE, slot0, slotS, start0, d_v, d_ol, d_od, w_tup, w_lst, w_str, isB_bl, gl_tup, gl_str, gl_int, gin_d, gix_d, itOk, eFz, c_eq, c_ne, c_ltI, c_leI, c_gtI, c_geI, c_ltS, c_leS, c_gtS, c_geS, c_inS, c_niS, c_inT, c_niT, c_inL, c_niL, c_isN, c_isnotN, c_isB, c_isnotB, b_addI, b_addS, b_addT, b_addL, b_sub, b_mul, b_rep, b_pow, b_shl, b_mod, b_fdiv, i_str, i_tup, i_lst, k_str, k_tup, k_lst, n_str, n_tup, n_lst, n_all, n_any, n_listL, n_listT, n_listD, n_listS, n_lenD, n_sortL, n_sortD, n_intB, n_intI, n_tupL, n_tupT, m_join, m_split, r_join, r_split, n_max2, n_sortP, n_maxS, n_minS, n_min2, n_maxL, n_minL, n_sum, n_strI, n_strS, m_upper, m_index, r_upper, r_index, i_dS, i_dI, c_inD, c_niD, key_str, key_int, wPs, at0, at1, at2, at3, ct1, ct2, ct3, ct4, tk1, tk2, tk3, dr1, dr2, dr3, dr4, tt1, tt2, tt3, zd_cons, zd_nil, zd_nil', wTy, aA, aB, List.replicate, aD, aE, aF, aG, if_true, ite_true, if_false, ite_false, true_and, and_true, cg, cgs, cgGet0, cgGetS, aH, aI, Nat.reduceAdd, Nat.zero_add, Nat.reduceLeDiff, cok_ss, cok_ii, cok_bb, cok_is, cok_si, iok, iokI, afl_s, afl_i, afl_n, bcc, bnc, bcn, bnn, ev_str, ev_int, ev_bl, aJ, aK, Nat.reduceBEq, Int.reduceBEq, aL, aM, aN, aO, aP, aQ, aR, aS, aT, aU, aV, beq_self_eq_true]
      exact hk
    · refine ⟨_, bools_m (g := fun _ => true), ?_⟩
      have : (((f :: ps).map fun _ => true).all id) = true := by
        rw [List.all_map, List.all_eq_true]
        exact fun _ _ => rfl
      rw [this]
      simp only [wSs, wS, wE, wOp, wOs, wV, wI, wCs, wAnd, wOr, wP, wTg, wipeE, slot0, slotS, start0, d_v, d_ol, d_od, w_tup, w_lst, w_str, isB_bl, gl_tup, gl_str, gl_int, gin_d, gix_d, itOk, eFz, c_eq, c_ne, c_ltI, c_leI, c_gtI, c_geI, c_ltS, c_leS, c_gtS, c_geS, c_inS, c_niS, c_inT, c_niT, c_inL, c_niL, c_isN, c_isnotN, c_isB, c_isnotB, b_addI, b_addS, b_addT, b_addL, b_sub, b_mul, b_rep, b_pow, b_shl, b_mod, b_fdiv, i_str, i_tup, i_lst, k_str, k_tup, k_lst, n_str, n_tup, n_lst, n_all, n_any, n_listL, n_listT, n_listD, n_listS, n_lenD, n_sortL, n_sortD, n_intB, n_intI, n_tupL, n_tupT, m_join, m_split, r_join, r_split, n_max2, n_sortP, n_maxS, n_minS, n_min2, n_maxL, n_minL, n_sum, n_strI, n_strS, m_upper, m_index, r_upper, r_index, i_dS, i_dI, c_inD, c_niD, key_str, key_int, wPs, at0, at1, at2, at3, ct1, ct2, ct3, ct4, tk1, tk2, tk3, dr1, dr2, dr3, dr4, tt1, tt2, tt3, zd_cons, zd_nil, zd_nil', wTy, aA, aB, List.replicate, aD, aE, aF, aG, if_true, ite_true, if_false, ite_false, true_and, and_true, cg, cgs, cgGet0, cgGetS, aH, aI, Nat.reduceAdd, Nat.zero_add, Nat.reduceLeDiff, cok_ss, cok_ii, cok_bb, cok_is, cok_si, iok, iokI, afl_s, afl_i, afl_n, bcc, bnc, bcn, bnn, ev_str, ev_int, ev_bl, aJ, aK, Nat.reduceBEq, Int.reduceBEq, aL, aM, aN, aO, aP, aQ, aR, aS, aT, aU, aV, beq_self_eq_true]
  subst e
  refine asg_cut hF (fun t => t = .od []) (by simp only [wSs, wS, wE, wOp, wOs, wV, wI, wCs, wAnd, wOr, wP, wTg, wipeE, slot0, slotS, start0, d_v, d_ol, d_od, w_tup, w_lst, w_str, isB_bl, gl_tup, gl_str, gl_int, gin_d, gix_d, itOk, eFz, c_eq, c_ne, c_ltI, c_leI, c_gtI, c_geI, c_ltS, c_leS, c_gtS, c_geS, c_inS, c_niS, c_inT, c_niT, c_inL, c_niL, c_isN, c_isnotN, c_isB, c_isnotB, b_addI, b_addS, b_addT, b_addL, b_sub, b_mul, b_rep, b_pow, b_shl, b_mod, b_fdiv, i_str, i_tup, i_lst, k_str, k_tup, k_lst, n_str, n_tup, n_lst, n_all, n_any, n_listL, n_listT, n_listD, n_listS, n_lenD, n_sortL, n_sortD, n_intB, n_intI, n_tupL, n_tupT, m_join, m_split, r_join, r_split, n_max2, n_sortP, n_maxS, n_minS, n_min2, n_maxL, n_minL, n_sum, n_strI, n_strS, m_upper, m_index, r_upper, r_index, i_dS, i_dI, c_inD, c_niD, key_str, key_int, wPs, at0, at1, at2, at3, ct1, ct2, ct3, ct4, tk1, tk2, tk3, dr1, dr2, dr3, dr4, tt1, tt2, tt3, zd_cons, zd_nil, zd_nil', wTy, aA, aB, List.replicate, aD, aE, aF, aG, if_true, ite_true, if_false, ite_false, true_and, and_true, cg, cgs, cgGet0, cgGetS, aH, aI, Nat.reduceAdd, Nat.zero_add, Nat.reduceLeDiff, cok_ss, cok_ii, cok_bb, cok_is, cok_si, iok, iokI, afl_s, afl_i, afl_n, bcc, bnc, bcn, bnn, ev_str, ev_int, ev_bl, aJ, aK, Nat.reduceBEq, Int.reduceBEq, aL, aM, aN, aO, aP, aQ, aR, aS, aT, aU, aV, beq_self_eq_true]) fun t e => ?_
  subst e
  simp only [start0, List.map_cons, List.map_nil, List.replicate, List.cons_append, List.nil_append, List.set_cons_zero, List.set_cons_succ]
  refine ss_cut hF (fun env => ∃ l, env = [some (.v (lsF f)), some (.v (.tup (ps.map lsF))), some (.v (.tup (ts.map D.int))), some (.od (l.map ent)), none, none, none] ∧ LOk ks l ∧ ∀ x, gx l x = dco f x) ?_ fun env ⟨l, e, h1, h2⟩ => ?_
  · simp only [wSs, wS, wE, wOp, wOs, wV, wI, wCs, wAnd, wOr, wP, wTg, wipeE, slot0, slotS, start0, d_v, d_ol, d_od, w_tup, w_lst, w_str, isB_bl, gl_tup, gl_str, gl_int, gin_d, gix_d, itOk, eFz, c_eq, c_ne, c_ltI, c_leI, c_gtI, c_geI, c_ltS, c_leS, c_gtS, c_geS, c_inS, c_niS, c_inT, c_niT, c_inL, c_niL, c_isN, c_isnotN, c_isB, c_isnotB, b_addI, b_addS, b_addT, b_addL, b_sub, b_mul, b_rep, b_pow, b_shl, b_mod, b_fdiv, i_str, i_tup, i_lst, k_str, k_tup, k_lst, n_str, n_tup, n_lst, n_all, n_any, n_listL, n_listT, n_listD, n_listS, n_lenD, n_sortL, n_sortD, n_intB, n_intI, n_tupL, n_tupT, m_join, m_split, r_join, r_split, n_max2, n_sortP, n_maxS, n_minS, n_min2, n_maxL, n_minL, n_sum, n_strI, n_strS, m_upper, m_index, r_upper, r_index, i_dS, i_dI, c_inD, c_niD, key_str, key_int, wPs, at0, at1, at2, at3, ct1, ct2, ct3, ct4, tk1, tk2, tk3, dr1, dr2, dr3, dr4, tt1, tt2, tt3, zd_cons, zd_nil, zd_nil', wTy, aA, aB, List.replicate, aD, aE, aF, aG, if_true, ite_true, if_false, ite_false, true_and, and_true, cg, cgs, cgGet0, cgGetS, aH, aI, Nat.reduceAdd, Nat.zero_add, Nat.reduceLeDiff, cok_ss, cok_ii, cok_bb, cok_is, cok_si, iok, iokI, afl_s, afl_i, afl_n, bcc, bnc, bcn, bnn, ev_str, ev_int, ev_bl, aJ, aK, Nat.reduceBEq, Int.reduceBEq, aL, aM, aN, aO, aP, aQ, aR, aS, aT, aU, aV, beq_self_eq_true]
    refine s_over (l := []) hne hkl ⟨List.Pairwise.nil, fun _ z => nomatch z⟩ hf1 hf2 (by omega) (by omega) fun l' g1 g2 => ⟨l', rfl, g1, fun x => ?_⟩
    rw [g2]
    show 0 + dco f x * 1 = _
    omega
  subst e
  refine ss_cut hF (fun env => ∃ (l : List (List Nat × Int)) (a4 a5 : Option T), env = [some (.v (lsF f)), some (.v (.tup (ps.map lsF))), some (.v (.tup (ts.map D.int))), some (.od (l.map ent)), a4, a5, none] ∧ LOk ks l ∧ ∀ x, gx l x = dc f ps ts x) (fors_idx hF ⟨trivial, trivial⟩ ?_) fun env ⟨l, a4, a5, e, h1, h2⟩ => ?_
  · simp only [wSs, wS, wE, wOp, wOs, wV, wI, wCs, wAnd, wOr, wP, wTg, wipeE, slot0, slotS, start0, d_v, d_ol, d_od, w_tup, w_lst, w_str, isB_bl, gl_tup, gl_str, gl_int, gin_d, gix_d, itOk, eFz, c_eq, c_ne, c_ltI, c_leI, c_gtI, c_geI, c_ltS, c_leS, c_gtS, c_geS, c_inS, c_niS, c_inT, c_niT, c_inL, c_niL, c_isN, c_isnotN, c_isB, c_isnotB, b_addI, b_addS, b_addT, b_addL, b_sub, b_mul, b_rep, b_pow, b_shl, b_mod, b_fdiv, i_str, i_tup, i_lst, k_str, k_tup, k_lst, n_str, n_tup, n_lst, n_all, n_any, n_listL, n_listT, n_listD, n_listS, n_lenD, n_sortL, n_sortD, n_intB, n_intI, n_tupL, n_tupT, m_join, m_split, r_join, r_split, n_max2, n_sortP, n_maxS, n_minS, n_min2, n_maxL, n_minL, n_sum, n_strI, n_strS, m_upper, m_index, r_upper, r_index, i_dS, i_dI, c_inD, c_niD, key_str, key_int, wPs, at0, at1, at2, at3, ct1, ct2, ct3, ct4, tk1, tk2, tk3, dr1, dr2, dr3, dr4, tt1, tt2, tt3, zd_cons, zd_nil, zd_nil', wTy, aA, aB, List.replicate, aD, aE, aF, aG, if_true, ite_true, if_false, ite_false, true_and, and_true, cg, cgs, cgGet0, cgGetS, aH, aI, Nat.reduceAdd, Nat.zero_add, Nat.reduceLeDiff, cok_ss, cok_ii, cok_bb, cok_is, cok_si, iok, iokI, afl_s, afl_i, afl_n, bcc, bnc, bcn, bnn, ev_str, ev_int, ev_bl, aJ, aK, Nat.reduceBEq, Int.reduceBEq, aL, aM, aN, aO, aP, aQ, aR, aS, aT, aU, aV, beq_self_eq_true]
    refine ⟨fun i env => ∃ (l : List (List Nat × Int)) (a4 a5 : Option T), env = [some (.v (lsF f)), some (.v (.tup (ps.map lsF))), some (.v (.tup (ts.map D.int))), some (.od (l.map ent)), a4, a5, none] ∧ LOk ks l ∧ ∀ x, gx l x = dco f x - zco ((ps.zip ts).take i) x, ⟨l, _, _, rfl, h1, fun x => by rw [h2]; simp [zco]⟩, fun i d hd env hi => ?_, fun env he => ?_⟩
    · obtain ⟨l, a4, a5, rfl, h1, h2⟩ := hi
      unfold zipD at hd
      rw [List.getElem?_map] at hd
      obtain ⟨⟨d1, d2⟩, hz, rfl⟩ := Option.map_eq_some_iff.mp hd
      obtain ⟨z1, z2⟩ := List.getElem?_zip_eq_some.mp hz
      rw [List.getElem?_map] at z1 z2
      obtain ⟨p, y1, e1⟩ := Option.map_eq_some_iff.mp z1
      obtain ⟨t, y2, e2⟩ := Option.map_eq_some_iff.mp z2
      have e1 : lsF p = d1 := e1
      have e2 : D.int t = d2 := e2
      subst e1 e2
      obtain ⟨hp1, hp2⟩ := hs p (List.mem_cons_of_mem _ (List.mem_of_getElem? y1))
      have ht2 := ht t (List.mem_of_getElem? y2)
      have hzz : (ps.zip ts)[i]? = some (p, t) := List.getElem?_zip_eq_some.mpr ⟨y1, y2⟩
      refine ⟨_, rfl, ?_⟩
      simp only [b_summed_1, wSs, wS, wE, wOp, wOs, wV, wI, wCs, wAnd, wOr, wP, wTg, wipeE, slot0, slotS, start0, d_v, d_ol, d_od, w_tup, w_lst, w_str, isB_bl, gl_tup, gl_str, gl_int, gin_d, gix_d, itOk, eFz, c_eq, c_ne, c_ltI, c_leI, c_gtI, c_geI, c_ltS, c_leS, c_gtS, c_geS, c_inS, c_niS, c_inT, c_niT, c_inL, c_niL, c_isN, c_isnotN, c_isB, c_isnotB, b_addI, b_addS, b_addT, b_addL, b_sub, b_mul, b_rep, b_pow, b_shl, b_mod, b_fdiv, i_str, i_tup, i_lst, k_str, k_tup, k_lst, n_str, n_tup, n_lst, n_all, n_any, n_listL, n_listT, n_listD, n_listS, n_lenD, n_sortL, n_sortD, n_intB, n_intI, n_tupL, n_tupT, m_join, m_split, r_join, r_split, n_max2, n_sortP, n_maxS, n_minS, n_min2, n_maxL, n_minL, n_sum, n_strI, n_strS, m_upper, m_index, r_upper, r_index, i_dS, i_dI, c_inD, c_niD, key_str, key_int, wPs, at0, at1, at2, at3, ct1, ct2, ct3, ct4, tk1, tk2, tk3, dr1, dr2, dr3, dr4, tt1, tt2, tt3, zd_cons, zd_nil, zd_nil', wTy, aA, aB, List.replicate, aD, aE, aF, aG, if_true, ite_true, if_false, ite_false, true_and, and_true, cg, cgs, cgGet0, cgGetS, aH, aI, Nat.reduceAdd, Nat.zero_add, Nat.reduceLeDiff, cok_ss, cok_ii, cok_bb, cok_is, cok_si, iok, iokI, afl_s, afl_i, afl_n, bcc, bnc, bcn, bnn, ev_str, ev_int, ev_bl, aJ, aK, Nat.reduceBEq, Int.reduceBEq, aL, aM, aN, aO, aP, aQ, aR, aS, aT, aU, aV, beq_self_eq_true, List.zip_cons_cons, List.zip_nil_left, List.zip_nil_right, List.foldl_cons, List.foldl_nil]
      refine s_over (K := K - 1) hne hkl h1 hp1 hp2 (by omega) (by omega) fun l' g1 g2 => ⟨l', _, _, rfl, g1, fun x => ?_⟩
      rw [g2, h2, take_snoc hzz, zco_snoc, Int.mul_sub, Int.mul_zero, Int.mul_comm]
      show dco f x - zco ((ps.zip ts).take i) x + (0 - t * dco p x) = dco f x - (zco ((ps.zip ts).take i) x + t * dco p x)
      omega
    · obtain ⟨l, a4, a5, rfl, h1, h2⟩ := he
      refine ⟨l, _, _, rfl, h1, fun x => ?_⟩
      have : (zipD (ps.map lsF) (ts.map D.int)).length = (ps.zip ts).length := by
        unfold zipD
        simp
      rw [h2, this, List.take_length]
      rfl
  subst e
  refine ss_cut hF (fun env => env = [some (.v (lsF f)), some (.v (.tup (ps.map lsF))), some (.v (.tup (ts.map D.int))), some (.v (.lck (l.map ent))), a4, a5, none]) (by simp only [wSs, wS, wE, wOp, wOs, wV, wI, wCs, wAnd, wOr, wP, wTg, wipeE, slot0, slotS, start0, d_v, d_ol, d_od, w_tup, w_lst, w_str, isB_bl, gl_tup, gl_str, gl_int, gin_d, gix_d, itOk, eFz, c_eq, c_ne, c_ltI, c_leI, c_gtI, c_geI, c_ltS, c_leS, c_gtS, c_geS, c_inS, c_niS, c_inT, c_niT, c_inL, c_niL, c_isN, c_isnotN, c_isB, c_isnotB, b_addI, b_addS, b_addT, b_addL, b_sub, b_mul, b_rep, b_pow, b_shl, b_mod, b_fdiv, i_str, i_tup, i_lst, k_str, k_tup, k_lst, n_str, n_tup, n_lst, n_all, n_any, n_listL, n_listT, n_listD, n_listS, n_lenD, n_sortL, n_sortD, n_intB, n_intI, n_tupL, n_tupT, m_join, m_split, r_join, r_split, n_max2, n_sortP, n_maxS, n_minS, n_min2, n_maxL, n_minL, n_sum, n_strI, n_strS, m_upper, m_index, r_upper, r_index, i_dS, i_dI, c_inD, c_niD, key_str, key_int, wPs, at0, at1, at2, at3, ct1, ct2, ct3, ct4, tk1, tk2, tk3, dr1, dr2, dr3, dr4, tt1, tt2, tt3, zd_cons, zd_nil, zd_nil', wTy, aA, aB, List.replicate, aD, aE, aF, aG, if_true, ite_true, if_false, ite_false, true_and, and_true, cg, cgs, cgGet0, cgGetS, aH, aI, Nat.reduceAdd, Nat.zero_add, Nat.reduceLeDiff, cok_ss, cok_ii, cok_bb, cok_is, cok_si, iok, iokI, afl_s, afl_i, afl_n, bcc, bnc, bcn, bnn, ev_str, ev_int, ev_bl, aJ, aK, Nat.reduceBEq, Int.reduceBEq, aL, aM, aN, aO, aP, aQ, aR, aS, aT, aU, aV, beq_self_eq_true]) fun env e => ?_
  subst e
  have ek : (l.map ent).map (fun p => keyD p.1) = l.map fun p => .str p.1 := by
    rw [List.map_map]
    refine List.map_congr_left fun p _ => ?_
    show D.str (mkS p.1).cps.toList = .str p.1
    rw [mkS_list]
  have hlen := h1.len
  simp only [wSs, wS, wE, wOp, wOs, wV, wI, wCs, wAnd, wOr, wP, wTg, wipeE, slot0, slotS, start0, d_v, d_ol, d_od, w_tup, w_lst, w_str, isB_bl, gl_tup, gl_str, gl_int, gin_d, gix_d, itOk, eFz, c_eq, c_ne, c_ltI, c_leI, c_gtI, c_geI, c_ltS, c_leS, c_gtS, c_geS, c_inS, c_niS, c_inT, c_niT, c_inL, c_niL, c_isN, c_isnotN, c_isB, c_isnotB, b_addI, b_addS, b_addT, b_addL, b_sub, b_mul, b_rep, b_pow, b_shl, b_mod, b_fdiv, i_str, i_tup, i_lst, k_str, k_tup, k_lst, n_str, n_tup, n_lst, n_all, n_any, n_listL, n_listT, n_listD, n_listS, n_lenD, n_sortL, n_sortD, n_intB, n_intI, n_tupL, n_tupT, m_join, m_split, r_join, r_split, n_max2, n_sortP, n_maxS, n_minS, n_min2, n_maxL, n_minL, n_sum, n_strI, n_strS, m_upper, m_index, r_upper, r_index, i_dS, i_dI, c_inD, c_niD, key_str, key_int, wPs, at0, at1, at2, at3, ct1, ct2, ct3, ct4, tk1, tk2, tk3, dr1, dr2, dr3, dr4, tt1, tt2, tt3, zd_cons, zd_nil, zd_nil', wTy, aA, aB, List.replicate, aD, aE, aF, aG, if_true, ite_true, if_false, ite_false, true_and, and_true, cg, cgs, cgGet0, cgGetS, aH, aI, Nat.reduceAdd, Nat.zero_add, Nat.reduceLeDiff, cok_ss, cok_ii, cok_bb, cok_is, cok_si, iok, iokI, afl_s, afl_i, afl_n, bcc, bnc, bcn, bnn, ev_str, ev_int, ev_bl, aJ, aK, Nat.reduceBEq, Int.reduceBEq, aL, aM, aN, aO, aP, aQ, aR, aS, aT, aU, aV, beq_self_eq_true, w_lck, ek, List.length_map]
  refine ⟨by omega, wLc_mapT (u := fun (p : List Nat × Int) => .str p.1) (v := fun (p : List Nat × Int) => .bl (decide (0 ≤ p.2))) l (fun p hp k hk => ?_) ?_⟩
  · simp only [i_lck, kget_t, tget_mem h1.1 hp, Option.map_some, wSs, wS, wE, wOp, wOs, wV, wI, wCs, wAnd, wOr, wP, wTg, wipeE, slot0, slotS, start0, d_v, d_ol, d_od, w_tup, w_lst, w_str, isB_bl, gl_tup, gl_str, gl_int, gin_d, gix_d, itOk, eFz, c_eq, c_ne, c_ltI, c_leI, c_gtI, c_geI, c_ltS, c_leS, c_gtS, c_geS, c_inS, c_niS, c_inT, c_niT, c_inL, c_niL, c_isN, c_isnotN, c_isB, c_isnotB, b_addI, b_addS, b_addT, b_addL, b_sub, b_mul, b_rep, b_pow, b_shl, b_mod, b_fdiv, i_str, i_tup, i_lst, k_str, k_tup, k_lst, n_str, n_tup, n_lst, n_all, n_any, n_listL, n_listT, n_listD, n_listS, n_lenD, n_sortL, n_sortD, n_intB, n_intI, n_tupL, n_tupT, m_join, m_split, r_join, r_split, n_max2, n_sortP, n_maxS, n_minS, n_min2, n_maxL, n_minL, n_sum, n_strI, n_strS, m_upper, m_index, r_upper, r_index, i_dS, i_dI, c_inD, c_niD, key_str, key_int, wPs, at0, at1, at2, at3, ct1, ct2, ct3, ct4, tk1, tk2, tk3, dr1, dr2, dr3, dr4, tt1, tt2, tt3, zd_cons, zd_nil, zd_nil', wTy, aA, aB, List.replicate, aD, aE, aF, aG, if_true, ite_true, if_false, ite_false, true_and, and_true, cg, cgs, cgGet0, cgGetS, aH, aI, Nat.reduceAdd, Nat.zero_add, Nat.reduceLeDiff, cok_ss, cok_ii, cok_bb, cok_is, cok_si, iok, iokI, afl_s, afl_i, afl_n, bcc, bnc, bcn, bnn, ev_str, ev_int, ev_bl, aJ, aK, Nat.reduceBEq, Int.reduceBEq, aL, aM, aN, aO, aP, aQ, aR, aS, aT, aU, aV, beq_self_eq_true]
    exact hk
  · refine ⟨_, bools_m, ?_⟩
    have e : ((l.map fun (p : List Nat × Int) => decide (0 ≤ p.2)).all id) = sb ks f ps ts := by
      unfold sb
      rw [List.all_map, Bool.eq_iff_iff, List.all_eq_true, List.all_eq_true]
      refine ⟨fun hp x hx => ?_, fun hx p hp => ?_⟩
      · rw [← h2 x]
        by_cases hm : x ∈ l.map (·.1)
        · obtain ⟨v, g1, g2⟩ := tget_has hm
          unfold gx
          rw [g1]
          exact hp _ g2
        · unfold gx
          rw [tget_no hm]
          rfl
      · have := hx p.1 (h1.2 p.1 (List.mem_map.mpr ⟨p, hp, rfl⟩))
        rw [← h2 p.1] at this
        unfold gx at this
        rw [tget_mem h1.1 hp] at this
        exact this
    rw [e]
    exact h
theorem s_summedN {f : D × List D} {ps : List (D × List D)} {ts : List Int} {K : Nat} {Q : D → Prop} (hp : ps.length ≤ 100) (hl : ps.length = ts.length) (ht : ∀ t ∈ ts, 0 ≤ t) (hw : ∀ p ∈ f :: ps, ∃ x, p.1 = .str x) (hn : ∃ p ∈ f :: ps, p.1 ≠ .str cLeast) (hK : 4 ≤ K) (h : Q (.bl false)) :
    Phi tab cg K 3 [.tup (f.1 :: f.2), .tup (ps.map fun p => .tup (p.1 :: p.2)), .tup (ts.map D.int)] Q := by
  refine phi_goK rfl rfl (by omega) ?_
  have hF := Phi_mono (cg := cg) monoT (K - 1)
  unfold b_summed
  refine ss_cut hF (fun env => False) ?_ fun env e => e.elim
  simp only [wSs, wS, wE, wOp, wOs, wV, wI, wCs, wAnd, wOr, wP, wTg, wipeE, slot0, slotS, start0, d_v, d_ol, d_od, w_tup, w_lst, w_str, isB_bl, gl_tup, gl_str, gl_int, gin_d, gix_d, itOk, eFz, c_eq, c_ne, c_ltI, c_leI, c_gtI, c_geI, c_ltS, c_leS, c_gtS, c_geS, c_inS, c_niS, c_inT, c_niT, c_inL, c_niL, c_isN, c_isnotN, c_isB, c_isnotB, b_addI, b_addS, b_addT, b_addL, b_sub, b_mul, b_rep, b_pow, b_shl, b_mod, b_fdiv, i_str, i_tup, i_lst, k_str, k_tup, k_lst, n_str, n_tup, n_lst, n_all, n_any, n_listL, n_listT, n_listD, n_listS, n_lenD, n_sortL, n_sortD, n_intB, n_intI, n_tupL, n_tupT, m_join, m_split, r_join, r_split, n_max2, n_sortP, n_maxS, n_minS, n_min2, n_maxL, n_minL, n_sum, n_strI, n_strS, m_upper, m_index, r_upper, r_index, i_dS, i_dI, c_inD, c_niD, key_str, key_int, wPs, at0, at1, at2, at3, ct1, ct2, ct3, ct4, tk1, tk2, tk3, dr1, dr2, dr3, dr4, tt1, tt2, tt3, zd_cons, zd_nil, zd_nil', wTy, aA, aB, List.replicate, aD, aE, aF, aG, if_true, ite_true, if_false, ite_false, true_and, and_true, cg, cgs, cgGet0, cgGetS, aH, aI, Nat.reduceAdd, Nat.zero_add, Nat.reduceLeDiff, cok_ss, cok_ii, cok_bb, cok_is, cok_si, iok, iokI, afl_s, afl_i, afl_n, bcc, bnc, bcn, bnn, ev_str, ev_int, ev_bl, aJ, aK, Nat.reduceBEq, Int.reduceBEq, aL, aM, aN, aO, aP, aQ, aR, aS, aT, aU, aV, beq_self_eq_true, List.length_map]
  rw [hl]
  refine s_times (by omega) (by omega) ht ?_
  simp only [wSs, wS, wE, wOp, wOs, wV, wI, wCs, wAnd, wOr, wP, wTg, wipeE, slot0, slotS, start0, d_v, d_ol, d_od, w_tup, w_lst, w_str, isB_bl, gl_tup, gl_str, gl_int, gin_d, gix_d, itOk, eFz, c_eq, c_ne, c_ltI, c_leI, c_gtI, c_geI, c_ltS, c_leS, c_gtS, c_geS, c_inS, c_niS, c_inT, c_niT, c_inL, c_niL, c_isN, c_isnotN, c_isB, c_isnotB, b_addI, b_addS, b_addT, b_addL, b_sub, b_mul, b_rep, b_pow, b_shl, b_mod, b_fdiv, i_str, i_tup, i_lst, k_str, k_tup, k_lst, n_str, n_tup, n_lst, n_all, n_any, n_listL, n_listT, n_listD, n_listS, n_lenD, n_sortL, n_sortD, n_intB, n_intI, n_tupL, n_tupT, m_join, m_split, r_join, r_split, n_max2, n_sortP, n_maxS, n_minS, n_min2, n_maxL, n_minL, n_sum, n_strI, n_strS, m_upper, m_index, r_upper, r_index, i_dS, i_dI, c_inD, c_niD, key_str, key_int, wPs, at0, at1, at2, at3, ct1, ct2, ct3, ct4, tk1, tk2, tk3, dr1, dr2, dr3, dr4, tt1, tt2, tt3, zd_cons, zd_nil, zd_nil', wTy, aA, aB, List.replicate, aD, aE, aF, aG, if_true, ite_true, if_false, ite_false, true_and, and_true, cg, cgs, cgGet0, cgGetS, aH, aI, Nat.reduceAdd, Nat.zero_add, Nat.reduceLeDiff, cok_ss, cok_ii, cok_bb, cok_is, cok_si, iok, iokI, afl_s, afl_i, afl_n, bcc, bnc, bcn, bnn, ev_str, ev_int, ev_bl, aJ, aK, Nat.reduceBEq, Int.reduceBEq, aL, aM, aN, aO, aP, aQ, aR, aS, aT, aU, aV, beq_self_eq_true, List.length_map]
  refine ⟨by omega, by omega, ?_⟩
  rw [show D.tup (f.1 :: f.2) :: ps.map (fun p => D.tup (p.1 :: p.2)) = (f :: ps).map fun p => D.tup (p.1 :: p.2) from rfl]
  refine wLc_mapT (u := fun p : D × List D => D.tup (p.1 :: p.2)) (v := fun p => .bl (D.eqv p.1 (.str cLeast))) (f :: ps) (fun p hp k hk => ?_) ?_
  · obtain ⟨x, hx⟩ := hw p hp
    obtain ⟨p1, p2⟩ := p
    have hx : p1 = .str x := hx
    subst hx
    simp only [wSs, wS, wE, wOp, wOs, wV, wI, wCs, wAnd, wOr, wP, wTg, wipeE, slot0, slotS, start0, d_v, d_ol, d_od, w_tup, w_lst, w_str, isB_bl, gl_tup, gl_str, gl_int, gin_d, gix_d, itOk, eFz, c_eq, c_ne, c_ltI, c_leI, c_gtI, c_geI, c_ltS, c_leS, c_gtS, c_geS, c_inS, c_niS, c_inT, c_niT, c_inL, c_niL, c_isN, c_isnotN, c_isB, c_isnotB, b_addI, b_addS, b_addT, b_addL, b_sub, b_mul, b_rep, b_pow, b_shl, b_mod, b_fdiv, i_str, i_tup, i_lst, k_str, k_tup, k_lst, n_str, n_tup, n_lst, n_all, n_any, n_listL, n_listT, n_listD, n_listS, n_lenD, n_sortL, n_sortD, n_intB, n_intI, n_tupL, n_tupT, m_join, m_split, r_join, r_split, n_max2, n_sortP, n_maxS, n_minS, n_min2, n_maxL, n_minL, n_sum, n_strI, n_strS, m_upper, m_index, r_upper, r_index, i_dS, i_dI, c_inD, c_niD, key_str, key_int, wPs, at0, at1, at2, at3, ct1, ct2, ct3, ct4, tk1, tk2, tk3, dr1, dr2, dr3, dr4, tt1, tt2, tt3, zd_cons, zd_nil, zd_nil', wTy, aA, aB, List.replicate, aD, aE, aF, aG, if_true, ite_true, if_false, ite_false, true_and, and_true, cg, cgs, cgGet0, cgGetS, aH, aI, Nat.reduceAdd, Nat.zero_add, Nat.reduceLeDiff, cok_ss, cok_ii, cok_bb, cok_is, cok_si, iok, iokI, afl_s, afl_i, afl_n, bcc, bnc, bcn, bnn, ev_str, ev_int, ev_bl, aJ, aK, Nat.reduceBEq, Int.reduceBEq, aL, aM, aN, aO, aP, aQ, aR, aS, aT, aU, aV, beq_self_eq_true]
    simp only [ev_str] at hk
    exact hk
  · refine ⟨_, bools_m, ?_⟩
    have : (((f :: ps).map fun p => D.eqv p.1 (.str cLeast)).all id) = false := by
      obtain ⟨p, hp, hne⟩ := hn
      rw [List.all_map, ← Bool.not_eq_true, List.all_eq_true]
      intro z
      have h1 := z p hp
      obtain ⟨x, hx⟩ := hw p hp
      rw [hx] at hne
      simp only [Function.comp, id] at h1
      rw [hx, ev_str, beq_iff_eq] at h1
      exact hne (by rw [h1])
    rw [this]
    simp only [wSs, wS, wE, wOp, wOs, wV, wI, wCs, wAnd, wOr, wP, wTg, wipeE, slot0, slotS, start0, d_v, d_ol, d_od, w_tup, w_lst, w_str, isB_bl, gl_tup, gl_str, gl_int, gin_d, gix_d, itOk, eFz, c_eq, c_ne, c_ltI, c_leI, c_gtI, c_geI, c_ltS, c_leS, c_gtS, c_geS, c_inS, c_niS, c_inT, c_niT, c_inL, c_niL, c_isN, c_isnotN, c_isB, c_isnotB, b_addI, b_addS, b_addT, b_addL, b_sub, b_mul, b_rep, b_pow, b_shl, b_mod, b_fdiv, i_str, i_tup, i_lst, k_str, k_tup, k_lst, n_str, n_tup, n_lst, n_all, n_any, n_listL, n_listT, n_listD, n_listS, n_lenD, n_sortL, n_sortD, n_intB, n_intI, n_tupL, n_tupT, m_join, m_split, r_join, r_split, n_max2, n_sortP, n_maxS, n_minS, n_min2, n_maxL, n_minL, n_sum, n_strI, n_strS, m_upper, m_index, r_upper, r_index, i_dS, i_dI, c_inD, c_niD, key_str, key_int, wPs, at0, at1, at2, at3, ct1, ct2, ct3, ct4, tk1, tk2, tk3, dr1, dr2, dr3, dr4, tt1, tt2, tt3, zd_cons, zd_nil, zd_nil', wTy, aA, aB, List.replicate, aD, aE, aF, aG, if_true, ite_true, if_false, ite_false, true_and, and_true, cg, cgs, cgGet0, cgGetS, aH, aI, Nat.reduceAdd, Nat.zero_add, Nat.reduceLeDiff, cok_ss, cok_ii, cok_bb, cok_is, cok_si, iok, iokI, afl_s, afl_i, afl_n, bcc, bnc, bcn, bnn, ev_str, ev_int, ev_bl, aJ, aK, Nat.reduceBEq, Int.reduceBEq, aL, aM, aN, aO, aP, aQ, aR, aS, aT, aU, aV, beq_self_eq_true]
    exact h
def cnt (s : Su) (cs : List (List Nat × Int)) : Int := s.n + (s.ps.map fun p => p.2 * gx cs p.1).sum
def mr (p : Su × Su) (cs : List (List Nat × Int)) : Int := cnt p.1 cs - cnt p.2 cs
def zmr (qs : List ((Su × Su) × Int)) (cs : List (List Nat × Int)) : Int := (qs.map fun q => q.2 * mr q.1 cs).sum
def Few (cs : List (List Nat × Int)) : Prop := ∀ x, 0 ≤ gx cs x ∧ gx cs x ≤ 1
theorem few0 : Few [] := fun _ => ⟨Int.le_refl _, show (0 : Int) ≤ 1 by decide⟩
theorem gx1 (k x : List Nat) : gx [(k, 1)] x = if k = x then 1 else 0 := by
  unfold gx tget
  by_cases e : k = x
  · rw [if_pos e, if_pos e]; rfl
  · rw [if_neg e, if_neg e]; rfl
theorem few1 (k : List Nat) : Few [(k, 1)] := fun x => by
  rw [gx1]
  split <;> omega
theorem cnt0 (s : Su) : cnt s [] = co s [] := by
  unfold cnt co
  rw [if_pos rfl]
  have : (s.ps.map fun p => p.2 * gx [] p.1) = s.ps.map fun _ => (0 : Int) := List.map_congr_left fun p _ => by
    show p.2 * 0 = 0
    rw [Int.mul_zero]
  rw [this]
  have h0 : ∀ l : List (List Nat × Int), (l.map fun _ => (0 : Int)).sum = 0 := fun l => by
    induction l with
    | nil => rfl
    | cons a r ih => rw [List.map_cons, List.sum_cons, ih]; rfl
  rw [h0]
  omega
theorem cnt1 (s : Su) {k : List Nat} (hk : k ≠ []) : cnt s [(k, 1)] = co s [] + co s k := by
  unfold cnt co
  rw [if_pos rfl, if_neg hk]
  unfold psx
  congr 2
  refine List.map_congr_left fun p _ => ?_
  rw [gx1]
  by_cases e : p.1 = k
  · rw [if_pos e, if_pos e.symm, Int.mul_one]
  · rw [if_neg e, if_neg (Ne.symm e), Int.mul_zero]
theorem mr0 (p : Su × Su) : mr p [] = dco p [] := by
  unfold mr dco
  rw [cnt0, cnt0]
theorem mr1 (p : Su × Su) {k : List Nat} (hk : k ≠ []) : mr p [(k, 1)] = dco p [] + dco p k := by
  unfold mr dco
  rw [cnt1 _ hk, cnt1 _ hk]
  omega
theorem zmr0 (qs : List ((Su × Su) × Int)) : zmr qs [] = zco qs [] := by
  unfold zmr zco
  congr 1
  exact List.map_congr_left fun q _ => by rw [mr0]
theorem zmr1 {k : List Nat} (hk : k ≠ []) : ∀ qs : List ((Su × Su) × Int), zmr qs [(k, 1)] = zco qs [] + zco qs k
  | [] => rfl
  | q :: r => by
    have := zmr1 hk r
    unfold zmr zco at this ⊢
    simp only [List.map_cons, List.sum_cons]
    rw [this, mr1 _ hk, Int.mul_add]
    omega
theorem zmr_snoc {qs : List ((Su × Su) × Int)} {q : (Su × Su) × Int} {cs : List (List Nat × Int)} : zmr (qs ++ [q]) cs = zmr qs cs + q.2 * mr q.1 cs := by
  unfold zmr
  rw [List.map_append, List.sum_append]
  simp
theorem ints_m {α : Type} {g : α → Int} : ∀ {l : List α}, intsD (l.map fun p => D.int (g p)) = some (l.map g)
  | [] => rfl
  | a :: l => by
    rw [List.map_cons, intsD, ints_m]
    rfl
theorem s_count {K : Nat} {s : Su} {cs : List (List Nat × Int)} {Q : D → Prop} (hK : 1 ≤ K) (hl : s.ps.length ≤ 1000) (hc : Few cs) (h : Q (.int (cnt s cs))) : Phi tab cg K 12 [s.dk, .dct (cs.map ent)] Q := by
  refine phi_goK rfl rfl (by omega) ?_
  unfold b_l_count Su.dk
  simp only [wSs, wS, wE, wOp, wOs, wV, wI, wCs, wAnd, wOr, wP, wTg, wipeE, slot0, slotS, start0, d_v, d_ol, d_od, w_tup, w_lst, w_str, isB_bl, gl_tup, gl_str, gl_int, gin_d, gix_d, itOk, eFz, c_eq, c_ne, c_ltI, c_leI, c_gtI, c_geI, c_ltS, c_leS, c_gtS, c_geS, c_inS, c_niS, c_inT, c_niT, c_inL, c_niL, c_isN, c_isnotN, c_isB, c_isnotB, b_addI, b_addS, b_addT, b_addL, b_sub, b_mul, b_rep, b_pow, b_shl, b_mod, b_fdiv, i_str, i_tup, i_lst, k_str, k_tup, k_lst, n_str, n_tup, n_lst, n_all, n_any, n_listL, n_listT, n_listD, n_listS, n_lenD, n_sortL, n_sortD, n_intB, n_intI, n_tupL, n_tupT, m_join, m_split, r_join, r_split, n_max2, n_sortP, n_maxS, n_minS, n_min2, n_maxL, n_minL, n_sum, n_strI, n_strS, m_upper, m_index, r_upper, r_index, i_dS, i_dI, c_inD, c_niD, key_str, key_int, wPs, at0, at1, at2, at3, ct1, ct2, ct3, ct4, tk1, tk2, tk3, dr1, dr2, dr3, dr4, tt1, tt2, tt3, zd_cons, zd_nil, zd_nil', wTy, aA, aB, List.replicate, aD, aE, aF, aG, if_true, ite_true, if_false, ite_false, true_and, and_true, cg, cgs, cgGet0, cgGetS, aH, aI, Nat.reduceAdd, Nat.zero_add, Nat.reduceLeDiff, cok_ss, cok_ii, cok_bb, cok_is, cok_si, iok, iokI, afl_s, afl_i, afl_n, bcc, bnc, bcn, bnn, ev_str, ev_int, ev_bl, aJ, aK, Nat.reduceBEq, Int.reduceBEq, aL, aM, aN, aO, aP, aQ, aR, aS, aT, aU, aV, beq_self_eq_true, List.length_map]
  refine ⟨by omega, wLc_mapT (u := pd) (v := fun p => D.int (p.2 * gx cs p.1)) s.ps (fun p hp k hk => ?_) ?_⟩
  · simp only [pd, wSs, wS, wE, wOp, wOs, wV, wI, wCs, wAnd, wOr, wP, wTg, wipeE, slot0, slotS, start0, d_v, d_ol, d_od, w_tup, w_lst, w_str, isB_bl, gl_tup, gl_str, gl_int, gin_d, gix_d, itOk, eFz, c_eq, c_ne, c_ltI, c_leI, c_gtI, c_geI, c_ltS, c_leS, c_gtS, c_geS, c_inS, c_niS, c_inT, c_niT, c_inL, c_niL, c_isN, c_isnotN, c_isB, c_isnotB, b_addI, b_addS, b_addT, b_addL, b_sub, b_mul, b_rep, b_pow, b_shl, b_mod, b_fdiv, i_str, i_tup, i_lst, k_str, k_tup, k_lst, n_str, n_tup, n_lst, n_all, n_any, n_listL, n_listT, n_listD, n_listS, n_lenD, n_sortL, n_sortD, n_intB, n_intI, n_tupL, n_tupT, m_join, m_split, r_join, r_split, n_max2, n_sortP, n_maxS, n_minS, n_min2, n_maxL, n_minL, n_sum, n_strI, n_strS, m_upper, m_index, r_upper, r_index, i_dS, i_dI, c_inD, c_niD, key_str, key_int, wPs, at0, at1, at2, at3, ct1, ct2, ct3, ct4, tk1, tk2, tk3, dr1, dr2, dr3, dr4, tt1, tt2, tt3, zd_cons, zd_nil, zd_nil', wTy, aA, aB, List.replicate, aD, aE, aF, aG, if_true, ite_true, if_false, ite_false, true_and, and_true, cg, cgs, cgGet0, cgGetS, aH, aI, Nat.reduceAdd, Nat.zero_add, Nat.reduceLeDiff, cok_ss, cok_ii, cok_bb, cok_is, cok_si, iok, iokI, afl_s, afl_i, afl_n, bcc, bnc, bcn, bnn, ev_str, ev_int, ev_bl, aJ, aK, Nat.reduceBEq, Int.reduceBEq, aL, aM, aN, aO, aP, aQ, aR, aS, aT, aU, aV, beq_self_eq_true, List.zip_cons_cons, List.zip_nil_left, List.zip_nil_right, List.foldl_cons, List.foldl_nil, kget_td]
    have := hc p.1
    unfold gx at this
    exact ⟨.inr ⟨by omega, by omega⟩, hk⟩
  · exact ⟨_, ints_m, h⟩
theorem s_more {K : Nat} {p : Su × Su} {cs : List (List Nat × Int)} {Q : D → Prop} (hK : 2 ≤ K) (hl : p.1.ps.length ≤ 1000 ∧ p.2.ps.length ≤ 1000) (hc : Few cs) (h : Q (.int (mr p cs))) : Phi tab cg K 13 [lsF p, .dct (cs.map ent)] Q := by
  refine phi_goK rfl rfl (by omega) ?_
  unfold b_l_more lsF
  simp only [wSs, wS, wE, wOp, wOs, wV, wI, wCs, wAnd, wOr, wP, wTg, wipeE, slot0, slotS, start0, d_v, d_ol, d_od, w_tup, w_lst, w_str, isB_bl, gl_tup, gl_str, gl_int, gin_d, gix_d, itOk, eFz, c_eq, c_ne, c_ltI, c_leI, c_gtI, c_geI, c_ltS, c_leS, c_gtS, c_geS, c_inS, c_niS, c_inT, c_niT, c_inL, c_niL, c_isN, c_isnotN, c_isB, c_isnotB, b_addI, b_addS, b_addT, b_addL, b_sub, b_mul, b_rep, b_pow, b_shl, b_mod, b_fdiv, i_str, i_tup, i_lst, k_str, k_tup, k_lst, n_str, n_tup, n_lst, n_all, n_any, n_listL, n_listT, n_listD, n_listS, n_lenD, n_sortL, n_sortD, n_intB, n_intI, n_tupL, n_tupT, m_join, m_split, r_join, r_split, n_max2, n_sortP, n_maxS, n_minS, n_min2, n_maxL, n_minL, n_sum, n_strI, n_strS, m_upper, m_index, r_upper, r_index, i_dS, i_dI, c_inD, c_niD, key_str, key_int, wPs, at0, at1, at2, at3, ct1, ct2, ct3, ct4, tk1, tk2, tk3, dr1, dr2, dr3, dr4, tt1, tt2, tt3, zd_cons, zd_nil, zd_nil', wTy, aA, aB, List.replicate, aD, aE, aF, aG, if_true, ite_true, if_false, ite_false, true_and, and_true, cg, cgs, cgGet0, cgGetS, aH, aI, Nat.reduceAdd, Nat.zero_add, Nat.reduceLeDiff, cok_ss, cok_ii, cok_bb, cok_is, cok_si, iok, iokI, afl_s, afl_i, afl_n, bcc, bnc, bcn, bnn, ev_str, ev_int, ev_bl, aJ, aK, Nat.reduceBEq, Int.reduceBEq, aL, aM, aN, aO, aP, aQ, aR, aS, aT, aU, aV, beq_self_eq_true]
  refine s_count (by omega) hl.1 hc (s_count (by omega) hl.2 hc ?_)
  simp only [wSs, wS, wE, wOp, wOs, wV, wI, wCs, wAnd, wOr, wP, wTg, wipeE, slot0, slotS, start0, d_v, d_ol, d_od, w_tup, w_lst, w_str, isB_bl, gl_tup, gl_str, gl_int, gin_d, gix_d, itOk, eFz, c_eq, c_ne, c_ltI, c_leI, c_gtI, c_geI, c_ltS, c_leS, c_gtS, c_geS, c_inS, c_niS, c_inT, c_niT, c_inL, c_niL, c_isN, c_isnotN, c_isB, c_isnotB, b_addI, b_addS, b_addT, b_addL, b_sub, b_mul, b_rep, b_pow, b_shl, b_mod, b_fdiv, i_str, i_tup, i_lst, k_str, k_tup, k_lst, n_str, n_tup, n_lst, n_all, n_any, n_listL, n_listT, n_listD, n_listS, n_lenD, n_sortL, n_sortD, n_intB, n_intI, n_tupL, n_tupT, m_join, m_split, r_join, r_split, n_max2, n_sortP, n_maxS, n_minS, n_min2, n_maxL, n_minL, n_sum, n_strI, n_strS, m_upper, m_index, r_upper, r_index, i_dS, i_dI, c_inD, c_niD, key_str, key_int, wPs, at0, at1, at2, at3, ct1, ct2, ct3, ct4, tk1, tk2, tk3, dr1, dr2, dr3, dr4, tt1, tt2, tt3, zd_cons, zd_nil, zd_nil', wTy, aA, aB, List.replicate, aD, aE, aF, aG, if_true, ite_true, if_false, ite_false, true_and, and_true, cg, cgs, cgGet0, cgGetS, aH, aI, Nat.reduceAdd, Nat.zero_add, Nat.reduceLeDiff, cok_ss, cok_ii, cok_bb, cok_is, cok_si, iok, iokI, afl_s, afl_i, afl_n, bcc, bnc, bcn, bnn, ev_str, ev_int, ev_bl, aJ, aK, Nat.reduceBEq, Int.reduceBEq, aL, aM, aN, aO, aP, aQ, aR, aS, aT, aU, aV, beq_self_eq_true]
  exact h
theorem SuK.le {ks : List (List Nat)} {s : Su} (h : SuK ks s) (hk : ks.length ≤ 1000) : s.ps.length ≤ 1000 := by
  have := nodup_len _ ks h.1 fun x hx => by
    obtain ⟨p, hp, rfl⟩ := List.mem_map.mp hx
    exact h.2 p hp
  rw [List.length_map] at this
  omega
theorem zip_at {ps : List (Su × Su)} {ts : List Int} (hl : ps.length = ts.length) {i : Nat} (hi : i < ps.length) : ∃ p t, ps[i]? = some p ∧ ts[i]? = some t ∧ (ps.zip ts)[i]? = some (p, t) := by
  refine ⟨ps[i], ts[i], List.getElem?_eq_getElem hi, List.getElem?_eq_getElem (by omega), ?_⟩
  exact List.getElem?_zip_eq_some.mpr ⟨List.getElem?_eq_getElem hi, List.getElem?_eq_getElem (by omega)⟩
theorem s_lover {K : Nat} {ks : List (List Nat)} {f : Su × Su} {ps : List (Su × Su)} {ts : List Int} {cs : List (List Nat × Int)} {Q : D → Prop} (hK : 3 ≤ K) (hkl : ks.length ≤ 100) (hs : ∀ p ∈ f :: ps, SuK ks p.1 ∧ SuK ks p.2) (hl : ps.length = ts.length) (hl2 : ts.length ≤ 100) (ht : ∀ t ∈ ts, 0 ≤ t ∧ t ≤ 2 ^ 40) (hc : Few cs)
    (h : Q (.int (mr f cs - zmr (ps.zip ts) cs))) : Phi tab cg K 14 [lsF f, .tup (ps.map lsF), .tup (ts.map D.int), .dct (cs.map ent)] Q := by
  refine phi_goK rfl rfl (by omega) ?_
  have hF := Phi_mono (cg := cg) monoT (K - 1)
  have sz : ∀ p ∈ f :: ps, p.1.ps.length ≤ 1000 ∧ p.2.ps.length ≤ 1000 := fun p hp => ⟨(hs p hp).1.le (by omega), (hs p hp).2.le (by omega)⟩
  unfold b_l_over
  refine asg_cut hF (fun t => t = .v (.int (mr f cs))) ?_ fun t e => ?_
  · simp only [wSs, wS, wE, wOp, wOs, wV, wI, wCs, wAnd, wOr, wP, wTg, wipeE, slot0, slotS, start0, d_v, d_ol, d_od, w_tup, w_lst, w_str, isB_bl, gl_tup, gl_str, gl_int, gin_d, gix_d, itOk, eFz, c_eq, c_ne, c_ltI, c_leI, c_gtI, c_geI, c_ltS, c_leS, c_gtS, c_geS, c_inS, c_niS, c_inT, c_niT, c_inL, c_niL, c_isN, c_isnotN, c_isB, c_isnotB, b_addI, b_addS, b_addT, b_addL, b_sub, b_mul, b_rep, b_pow, b_shl, b_mod, b_fdiv, i_str, i_tup, i_lst, k_str, k_tup, k_lst, n_str, n_tup, n_lst, n_all, n_any, n_listL, n_listT, n_listD, n_listS, n_lenD, n_sortL, n_sortD, n_intB, n_intI, n_tupL, n_tupT, m_join, m_split, r_join, r_split, n_max2, n_sortP, n_maxS, n_minS, n_min2, n_maxL, n_minL, n_sum, n_strI, n_strS, m_upper, m_index, r_upper, r_index, i_dS, i_dI, c_inD, c_niD, key_str, key_int, wPs, at0, at1, at2, at3, ct1, ct2, ct3, ct4, tk1, tk2, tk3, dr1, dr2, dr3, dr4, tt1, tt2, tt3, zd_cons, zd_nil, zd_nil', wTy, aA, aB, List.replicate, aD, aE, aF, aG, if_true, ite_true, if_false, ite_false, true_and, and_true, cg, cgs, cgGet0, cgGetS, aH, aI, Nat.reduceAdd, Nat.zero_add, Nat.reduceLeDiff, cok_ss, cok_ii, cok_bb, cok_is, cok_si, iok, iokI, afl_s, afl_i, afl_n, bcc, bnc, bcn, bnn, ev_str, ev_int, ev_bl, aJ, aK, Nat.reduceBEq, Int.reduceBEq, aL, aM, aN, aO, aP, aQ, aR, aS, aT, aU, aV, beq_self_eq_true]
    exact s_more (by omega) (sz f List.mem_cons_self) hc rfl
  subst e
  simp only [start0, List.map_cons, List.map_nil, List.replicate, List.cons_append, List.nil_append, List.set_cons_zero, List.set_cons_succ]
  refine ss_cut hF (fun env => ∃ a5, env = [some (.v (lsF f)), some (.v (.tup (ps.map lsF))), some (.v (.tup (ts.map D.int))), some (.v (.dct (cs.map ent))), some (.v (.int (mr f cs - zmr (ps.zip ts) cs))), a5]) (fors_idx hF trivial ?_) fun env ⟨a5, e⟩ => ?_
  · simp only [wSs, wS, wE, wOp, wOs, wV, wI, wCs, wAnd, wOr, wP, wTg, wipeE, slot0, slotS, start0, d_v, d_ol, d_od, w_tup, w_lst, w_str, isB_bl, gl_tup, gl_str, gl_int, gin_d, gix_d, itOk, eFz, c_eq, c_ne, c_ltI, c_leI, c_gtI, c_geI, c_ltS, c_leS, c_gtS, c_geS, c_inS, c_niS, c_inT, c_niT, c_inL, c_niL, c_isN, c_isnotN, c_isB, c_isnotB, b_addI, b_addS, b_addT, b_addL, b_sub, b_mul, b_rep, b_pow, b_shl, b_mod, b_fdiv, i_str, i_tup, i_lst, k_str, k_tup, k_lst, n_str, n_tup, n_lst, n_all, n_any, n_listL, n_listT, n_listD, n_listS, n_lenD, n_sortL, n_sortD, n_intB, n_intI, n_tupL, n_tupT, m_join, m_split, r_join, r_split, n_max2, n_sortP, n_maxS, n_minS, n_min2, n_maxL, n_minL, n_sum, n_strI, n_strS, m_upper, m_index, r_upper, r_index, i_dS, i_dI, c_inD, c_niD, key_str, key_int, wPs, at0, at1, at2, at3, ct1, ct2, ct3, ct4, tk1, tk2, tk3, dr1, dr2, dr3, dr4, tt1, tt2, tt3, zd_cons, zd_nil, zd_nil', wTy, aA, aB, List.replicate, aD, aE, aF, aG, if_true, ite_true, if_false, ite_false, true_and, and_true, cg, cgs, cgGet0, cgGetS, aH, aI, Nat.reduceAdd, Nat.zero_add, Nat.reduceLeDiff, cok_ss, cok_ii, cok_bb, cok_is, cok_si, iok, iokI, afl_s, afl_i, afl_n, bcc, bnc, bcn, bnn, ev_str, ev_int, ev_bl, aJ, aK, Nat.reduceBEq, Int.reduceBEq, aL, aM, aN, aO, aP, aQ, aR, aS, aT, aU, aV, beq_self_eq_true, List.length_map]
    refine ⟨⟨by omega, by omega⟩, fun i env => ∃ a5, env = [some (.v (lsF f)), some (.v (.tup (ps.map lsF))), some (.v (.tup (ts.map D.int))), some (.v (.dct (cs.map ent))), some (.v (.int (mr f cs - zmr ((ps.zip ts).take i) cs))), a5], ⟨none, by simp [zmr]⟩, fun i y hy env hi => ?_, fun env he => ?_⟩
    · obtain ⟨a5, rfl⟩ := hi
      obtain ⟨rfl, hlt⟩ := rangeD_get hy
      obtain ⟨p, t, g1, g2, g3⟩ := zip_at hl (i := i) (by omega)
      have e1 : (ps.map lsF)[i]? = some (lsF p) := by rw [List.getElem?_map, g1]; rfl
      have e2 : (ts.map D.int)[i]? = some (.int t) := by rw [List.getElem?_map, g2]; rfl
      have ht2 := ht t (List.mem_of_getElem? g2)
      refine ⟨_, rfl, ?_⟩
      have e0 : (0 : Int) + (i : Int) = (i : Int) := by omega
      simp only [b_l_over_1, wSs, wS, wE, wOp, wOs, wV, wI, wCs, wAnd, wOr, wP, wTg, wipeE, slot0, slotS, start0, d_v, d_ol, d_od, w_tup, w_lst, w_str, isB_bl, gl_tup, gl_str, gl_int, gin_d, gix_d, itOk, eFz, c_eq, c_ne, c_ltI, c_leI, c_gtI, c_geI, c_ltS, c_leS, c_gtS, c_geS, c_inS, c_niS, c_inT, c_niT, c_inL, c_niL, c_isN, c_isnotN, c_isB, c_isnotB, b_addI, b_addS, b_addT, b_addL, b_sub, b_mul, b_rep, b_pow, b_shl, b_mod, b_fdiv, i_str, i_tup, i_lst, k_str, k_tup, k_lst, n_str, n_tup, n_lst, n_all, n_any, n_listL, n_listT, n_listD, n_listS, n_lenD, n_sortL, n_sortD, n_intB, n_intI, n_tupL, n_tupT, m_join, m_split, r_join, r_split, n_max2, n_sortP, n_maxS, n_minS, n_min2, n_maxL, n_minL, n_sum, n_strI, n_strS, m_upper, m_index, r_upper, r_index, i_dS, i_dI, c_inD, c_niD, key_str, key_int, wPs, at0, at1, at2, at3, ct1, ct2, ct3, ct4, tk1, tk2, tk3, dr1, dr2, dr3, dr4, tt1, tt2, tt3, zd_cons, zd_nil, zd_nil', wTy, aA, aB, List.replicate, aD, aE, aF, aG, if_true, ite_true, if_false, ite_false, true_and, and_true, cg, cgs, cgGet0, cgGetS, aH, aI, Nat.reduceAdd, Nat.zero_add, Nat.reduceLeDiff, cok_ss, cok_ii, cok_bb, cok_is, cok_si, iok, iokI, afl_s, afl_i, afl_n, bcc, bnc, bcn, bnn, ev_str, ev_int, ev_bl, aJ, aK, Nat.reduceBEq, Int.reduceBEq, aL, aM, aN, aO, aP, aQ, aR, aS, aT, aU, aV, beq_self_eq_true, e0, atI_nn e1, atI_nn e2]
      refine s_more (by omega) (sz p (List.mem_cons_of_mem _ (List.mem_of_getElem? g1))) hc ?_
      simp only [wSs, wS, wE, wOp, wOs, wV, wI, wCs, wAnd, wOr, wP, wTg, wipeE, slot0, slotS, start0, d_v, d_ol, d_od, w_tup, w_lst, w_str, isB_bl, gl_tup, gl_str, gl_int, gin_d, gix_d, itOk, eFz, c_eq, c_ne, c_ltI, c_leI, c_gtI, c_geI, c_ltS, c_leS, c_gtS, c_geS, c_inS, c_niS, c_inT, c_niT, c_inL, c_niL, c_isN, c_isnotN, c_isB, c_isnotB, b_addI, b_addS, b_addT, b_addL, b_sub, b_mul, b_rep, b_pow, b_shl, b_mod, b_fdiv, i_str, i_tup, i_lst, k_str, k_tup, k_lst, n_str, n_tup, n_lst, n_all, n_any, n_listL, n_listT, n_listD, n_listS, n_lenD, n_sortL, n_sortD, n_intB, n_intI, n_tupL, n_tupT, m_join, m_split, r_join, r_split, n_max2, n_sortP, n_maxS, n_minS, n_min2, n_maxL, n_minL, n_sum, n_strI, n_strS, m_upper, m_index, r_upper, r_index, i_dS, i_dI, c_inD, c_niD, key_str, key_int, wPs, at0, at1, at2, at3, ct1, ct2, ct3, ct4, tk1, tk2, tk3, dr1, dr2, dr3, dr4, tt1, tt2, tt3, zd_cons, zd_nil, zd_nil', wTy, aA, aB, List.replicate, aD, aE, aF, aG, if_true, ite_true, if_false, ite_false, true_and, and_true, cg, cgs, cgGet0, cgGetS, aH, aI, Nat.reduceAdd, Nat.zero_add, Nat.reduceLeDiff, cok_ss, cok_ii, cok_bb, cok_is, cok_si, iok, iokI, afl_s, afl_i, afl_n, bcc, bnc, bcn, bnn, ev_str, ev_int, ev_bl, aJ, aK, Nat.reduceBEq, Int.reduceBEq, aL, aM, aN, aO, aP, aQ, aR, aS, aT, aU, aV, beq_self_eq_true]
      refine ⟨.inl ⟨by omega, by omega⟩, some (.v (.int (i : Int))), ?_⟩
      rw [take_snoc g3, zmr_snoc]
      have e3 : mr f cs - zmr ((ps.zip ts).take i) cs - t * mr p cs = mr f cs - (zmr ((ps.zip ts).take i) cs + t * mr p cs) := by omega
      rw [e3]
    · obtain ⟨a5, rfl⟩ := he
      rw [rangeD_len] at *
      refine ⟨a5, ?_⟩
      have : (((ps.length : Nat) : Int) - 0).toNat = (ps.zip ts).length := by
        rw [List.length_zip]
        omega
      rw [this, List.take_length]
  subst e
  simp only [wSs, wS, wE, wOp, wOs, wV, wI, wCs, wAnd, wOr, wP, wTg, wipeE, slot0, slotS, start0, d_v, d_ol, d_od, w_tup, w_lst, w_str, isB_bl, gl_tup, gl_str, gl_int, gin_d, gix_d, itOk, eFz, c_eq, c_ne, c_ltI, c_leI, c_gtI, c_geI, c_ltS, c_leS, c_gtS, c_geS, c_inS, c_niS, c_inT, c_niT, c_inL, c_niL, c_isN, c_isnotN, c_isB, c_isnotB, b_addI, b_addS, b_addT, b_addL, b_sub, b_mul, b_rep, b_pow, b_shl, b_mod, b_fdiv, i_str, i_tup, i_lst, k_str, k_tup, k_lst, n_str, n_tup, n_lst, n_all, n_any, n_listL, n_listT, n_listD, n_listS, n_lenD, n_sortL, n_sortD, n_intB, n_intI, n_tupL, n_tupT, m_join, m_split, r_join, r_split, n_max2, n_sortP, n_maxS, n_minS, n_min2, n_maxL, n_minL, n_sum, n_strI, n_strS, m_upper, m_index, r_upper, r_index, i_dS, i_dI, c_inD, c_niD, key_str, key_int, wPs, at0, at1, at2, at3, ct1, ct2, ct3, ct4, tk1, tk2, tk3, dr1, dr2, dr3, dr4, tt1, tt2, tt3, zd_cons, zd_nil, zd_nil', wTy, aA, aB, List.replicate, aD, aE, aF, aG, if_true, ite_true, if_false, ite_false, true_and, and_true, cg, cgs, cgGet0, cgGetS, aH, aI, Nat.reduceAdd, Nat.zero_add, Nat.reduceLeDiff, cok_ss, cok_ii, cok_bb, cok_is, cok_si, iok, iokI, afl_s, afl_i, afl_n, bcc, bnc, bcn, bnn, ev_str, ev_int, ev_bl, aJ, aK, Nat.reduceBEq, Int.reduceBEq, aL, aM, aN, aO, aP, aQ, aR, aS, aT, aU, aV, beq_self_eq_true]
  exact h
theorem fm_filter {p : List Nat → Bool} : ∀ {l : List (List Nat)}, (l.filterMap fun x => if p x = true then none else some (D.str x)) = (l.filter fun x => !p x).map D.str
  | [] => rfl
  | a :: r => by
    rw [List.filterMap_cons, List.filter_cons]
    cases p a
    · show D.str a :: _ = D.str a :: _
      rw [fm_filter]
    · exact fm_filter
theorem filter_nil {p : List Nat → Bool} : ∀ {l : List (List Nat)}, (l.filter fun x => !p x).isEmpty = l.all p
  | [] => rfl
  | a :: r => by
    rw [List.filter_cons, List.all_cons]
    cases p a
    · rw [if_pos (by decide)]; rfl
    · rw [if_neg (by decide), filter_nil, Bool.true_and]
theorem strs_nil (ks : List (List Nat)) : (D.lst (ks.map D.str)).eqv (.lst []) = ks.isEmpty := by cases ks <;> rfl
theorem s_due {K : Nat} {ks : List (List Nat)} {f : Su × Su} {ps : List (Su × Su)} {ts : List Int} {Q : D → Prop} (hK : 4 ≤ K) (hne : [] ∉ ks) (hkl : ks.length ≤ 100) (hs : ∀ p ∈ f :: ps, SuK ks p.1 ∧ SuK ks p.2) (hl : ps.length = ts.length) (hl2 : ts.length ≤ 100) (ht : ∀ t ∈ ts, 0 ≤ t ∧ t ≤ 2 ^ 40)
    (h : Q (.bl (sb ks f ps ts))) : Phi tab cg K 15 [lsF f, .tup (ps.map lsF), .tup (ts.map D.int), .lst (ks.map D.str)] Q := by
  refine phi_goK rfl rfl (by omega) ?_
  have hF := Phi_mono (cg := cg) monoT (K - 1)
  unfold b_l_due
  refine ss_cut hF (fun env => env = [some (.v (lsF f)), some (.v (.tup (ps.map lsF))), some (.v (.tup (ts.map D.int))), some (.v (.lst (ks.map D.str))), none, none, none]) ?_ fun env e => ?_
  · simp only [wSs, wS, wE, wOp, wOs, wV, wI, wCs, wAnd, wOr, wP, wTg, wipeE, slot0, slotS, start0, d_v, d_ol, d_od, w_tup, w_lst, w_str, isB_bl, gl_tup, gl_str, gl_int, gin_d, gix_d, itOk, eFz, c_eq, c_ne, c_ltI, c_leI, c_gtI, c_geI, c_ltS, c_leS, c_gtS, c_geS, c_inS, c_niS, c_inT, c_niT, c_inL, c_niL, c_isN, c_isnotN, c_isB, c_isnotB, b_addI, b_addS, b_addT, b_addL, b_sub, b_mul, b_rep, b_pow, b_shl, b_mod, b_fdiv, i_str, i_tup, i_lst, k_str, k_tup, k_lst, n_str, n_tup, n_lst, n_all, n_any, n_listL, n_listT, n_listD, n_listS, n_lenD, n_sortL, n_sortD, n_intB, n_intI, n_tupL, n_tupT, m_join, m_split, r_join, r_split, n_max2, n_sortP, n_maxS, n_minS, n_min2, n_maxL, n_minL, n_sum, n_strI, n_strS, m_upper, m_index, r_upper, r_index, i_dS, i_dI, c_inD, c_niD, key_str, key_int, wPs, at0, at1, at2, at3, ct1, ct2, ct3, ct4, tk1, tk2, tk3, dr1, dr2, dr3, dr4, tt1, tt2, tt3, zd_cons, zd_nil, zd_nil', wTy, aA, aB, List.replicate, aD, aE, aF, aG, if_true, ite_true, if_false, ite_false, true_and, and_true, cg, cgs, cgGet0, cgGetS, aH, aI, Nat.reduceAdd, Nat.zero_add, Nat.reduceLeDiff, cok_ss, cok_ii, cok_bb, cok_is, cok_si, iok, iokI, afl_s, afl_i, afl_n, bcc, bnc, bcn, bnn, ev_str, ev_int, ev_bl, aJ, aK, Nat.reduceBEq, Int.reduceBEq, aL, aM, aN, aO, aP, aQ, aR, aS, aT, aU, aV, beq_self_eq_true, List.length_map]
    refine ⟨by omega, by omega, ?_⟩
    rw [show lsF f :: ps.map lsF = (f :: ps).map lsF from rfl]
    refine wLc_mapF (u := lsF) (g := fun _ => none) (f :: ps) [] (fun p hp k hk => ?_) ?_
    · rw [show lsF p = .tup [.str cLeast, p.1.dk, p.2.dk] from rfl]
      simp only [wSs, wS, wE, wOp, wOs, wV, wI, wCs, wAnd, wOr, wP, wTg, wipeE, slot0, slotS, start0, d_v, d_ol, d_od, w_tup, w_lst, w_str, isB_bl, gl_tup, gl_str, gl_int, gin_d, gix_d, itOk, eFz, c_eq, c_ne, c_ltI, c_leI, c_gtI, c_geI, c_ltS, c_leS, c_gtS, c_geS, c_inS, c_niS, c_inT, c_niT, c_inL, c_niL, c_isN, c_isnotN, c_isB, c_isnotB, b_addI, b_addS, b_addT, b_addL, b_sub, b_mul, b_rep, b_pow, b_shl, b_mod, b_fdiv, i_str, i_tup, i_lst, k_str, k_tup, k_lst, n_str, n_tup, n_lst, n_all, n_any, n_listL, n_listT, n_listD, n_listS, n_lenD, n_sortL, n_sortD, n_intB, n_intI, n_tupL, n_tupT, m_join, m_split, r_join, r_split, n_max2, n_sortP, n_maxS, n_minS, n_min2, n_maxL, n_minL, n_sum, n_strI, n_strS, m_upper, m_index, r_upper, r_index, i_dS, i_dI, c_inD, c_niD, key_str, key_int, wPs, at0, at1, at2, at3, ct1, ct2, ct3, ct4, tk1, tk2, tk3, dr1, dr2, dr3, dr4, tt1, tt2, tt3, zd_cons, zd_nil, zd_nil', wTy, aA, aB, List.replicate, aD, aE, aF, aG, if_true, ite_true, if_false, ite_false, true_and, and_true, cg, cgs, cgGet0, cgGetS, aH, aI, Nat.reduceAdd, Nat.zero_add, Nat.reduceLeDiff, cok_ss, cok_ii, cok_bb, cok_is, cok_si, iok, iokI, afl_s, afl_i, afl_n, bcc, bnc, bcn, bnn, ev_str, ev_int, ev_bl, aJ, aK, Nat.reduceBEq, Int.reduceBEq, aL, aM, aN, aO, aP, aQ, aR, aS, aT, aU, aV, beq_self_eq_true]
      exact hk
    · have e : (f :: ps).filterMap (fun _ => (none : Option D)) = [] := by simp
      rw [e]
      exact ⟨rfl, onF rfl trivial⟩
  subst e
  refine asg_cut hF (fun t => t = .v (.int (dc f ps ts []))) ?_ fun t e => ?_
  · simp only [wSs, wS, wE, wOp, wOs, wV, wI, wCs, wAnd, wOr, wP, wTg, wipeE, slot0, slotS, start0, d_v, d_ol, d_od, w_tup, w_lst, w_str, isB_bl, gl_tup, gl_str, gl_int, gin_d, gix_d, itOk, eFz, c_eq, c_ne, c_ltI, c_leI, c_gtI, c_geI, c_ltS, c_leS, c_gtS, c_geS, c_inS, c_niS, c_inT, c_niT, c_inL, c_niL, c_isN, c_isnotN, c_isB, c_isnotB, b_addI, b_addS, b_addT, b_addL, b_sub, b_mul, b_rep, b_pow, b_shl, b_mod, b_fdiv, i_str, i_tup, i_lst, k_str, k_tup, k_lst, n_str, n_tup, n_lst, n_all, n_any, n_listL, n_listT, n_listD, n_listS, n_lenD, n_sortL, n_sortD, n_intB, n_intI, n_tupL, n_tupT, m_join, m_split, r_join, r_split, n_max2, n_sortP, n_maxS, n_minS, n_min2, n_maxL, n_minL, n_sum, n_strI, n_strS, m_upper, m_index, r_upper, r_index, i_dS, i_dI, c_inD, c_niD, key_str, key_int, wPs, at0, at1, at2, at3, ct1, ct2, ct3, ct4, tk1, tk2, tk3, dr1, dr2, dr3, dr4, tt1, tt2, tt3, zd_cons, zd_nil, zd_nil', wTy, aA, aB, List.replicate, aD, aE, aF, aG, if_true, ite_true, if_false, ite_false, true_and, and_true, cg, cgs, cgGet0, cgGetS, aH, aI, Nat.reduceAdd, Nat.zero_add, Nat.reduceLeDiff, cok_ss, cok_ii, cok_bb, cok_is, cok_si, iok, iokI, afl_s, afl_i, afl_n, bcc, bnc, bcn, bnn, ev_str, ev_int, ev_bl, aJ, aK, Nat.reduceBEq, Int.reduceBEq, aL, aM, aN, aO, aP, aQ, aR, aS, aT, aU, aV, beq_self_eq_true]
    refine s_lover (cs := []) (by omega) hkl hs hl hl2 ht few0 ?_
    rw [mr0, zmr0]
    rfl
  subst e
  simp only [start0, List.map_cons, List.map_nil, List.replicate, List.cons_append, List.nil_append, List.set_cons_zero, List.set_cons_succ]
  have h0 : sb ks f ps ts = (decide (0 ≤ dc f ps ts []) && ks.all fun x => decide (0 ≤ dc f ps ts x)) := rfl
  simp only [wSs, wS, wE, wOp, wOs, wV, wI, wCs, wAnd, wOr, wP, wTg, wipeE, slot0, slotS, start0, d_v, d_ol, d_od, w_tup, w_lst, w_str, isB_bl, gl_tup, gl_str, gl_int, gin_d, gix_d, itOk, eFz, c_eq, c_ne, c_ltI, c_leI, c_gtI, c_geI, c_ltS, c_leS, c_gtS, c_geS, c_inS, c_niS, c_inT, c_niT, c_inL, c_niL, c_isN, c_isnotN, c_isB, c_isnotB, b_addI, b_addS, b_addT, b_addL, b_sub, b_mul, b_rep, b_pow, b_shl, b_mod, b_fdiv, i_str, i_tup, i_lst, k_str, k_tup, k_lst, n_str, n_tup, n_lst, n_all, n_any, n_listL, n_listT, n_listD, n_listS, n_lenD, n_sortL, n_sortD, n_intB, n_intI, n_tupL, n_tupT, m_join, m_split, r_join, r_split, n_max2, n_sortP, n_maxS, n_minS, n_min2, n_maxL, n_minL, n_sum, n_strI, n_strS, m_upper, m_index, r_upper, r_index, i_dS, i_dI, c_inD, c_niD, key_str, key_int, wPs, at0, at1, at2, at3, ct1, ct2, ct3, ct4, tk1, tk2, tk3, dr1, dr2, dr3, dr4, tt1, tt2, tt3, zd_cons, zd_nil, zd_nil', wTy, aA, aB, List.replicate, aD, aE, aF, aG, if_true, ite_true, if_false, ite_false, true_and, and_true, cg, cgs, cgGet0, cgGetS, aH, aI, Nat.reduceAdd, Nat.zero_add, Nat.reduceLeDiff, cok_ss, cok_ii, cok_bb, cok_is, cok_si, iok, iokI, afl_s, afl_i, afl_n, bcc, bnc, bcn, bnn, ev_str, ev_int, ev_bl, aJ, aK, Nat.reduceBEq, Int.reduceBEq, aL, aM, aN, aO, aP, aQ, aR, aS, aT, aU, aV, beq_self_eq_true]
  refine ite_of (fun e => ?_) (fun e => ?_)
  · have e := of_decide_eq_true e
    rw [h0, decide_eq_false (by omega), Bool.false_and] at h
    exact h
  · have e := of_decide_eq_false e
    rw [h0, decide_eq_true (by omega), Bool.true_and] at h
    refine ⟨by rw [List.length_map]; omega, wLc_mapF (u := D.str) (g := fun x => if decide (0 ≤ dc f ps ts x) = true then none else some (D.str x)) ks [] (fun x hx k hk => ?_) ?_⟩
    · have hx0 : x ≠ [] := fun z => hne (z ▸ hx)
      simp only [wSs, wS, wE, wOp, wOs, wV, wI, wCs, wAnd, wOr, wP, wTg, wipeE, slot0, slotS, start0, d_v, d_ol, d_od, w_tup, w_lst, w_str, isB_bl, gl_tup, gl_str, gl_int, gin_d, gix_d, itOk, eFz, c_eq, c_ne, c_ltI, c_leI, c_gtI, c_geI, c_ltS, c_leS, c_gtS, c_geS, c_inS, c_niS, c_inT, c_niT, c_inL, c_niL, c_isN, c_isnotN, c_isB, c_isnotB, b_addI, b_addS, b_addT, b_addL, b_sub, b_mul, b_rep, b_pow, b_shl, b_mod, b_fdiv, i_str, i_tup, i_lst, k_str, k_tup, k_lst, n_str, n_tup, n_lst, n_all, n_any, n_listL, n_listT, n_listD, n_listS, n_lenD, n_sortL, n_sortD, n_intB, n_intI, n_tupL, n_tupT, m_join, m_split, r_join, r_split, n_max2, n_sortP, n_maxS, n_minS, n_min2, n_maxL, n_minL, n_sum, n_strI, n_strS, m_upper, m_index, r_upper, r_index, i_dS, i_dI, c_inD, c_niD, key_str, key_int, wPs, at0, at1, at2, at3, ct1, ct2, ct3, ct4, tk1, tk2, tk3, dr1, dr2, dr3, dr4, tt1, tt2, tt3, zd_cons, zd_nil, zd_nil', wTy, aA, aB, List.replicate, aD, aE, aF, aG, if_true, ite_true, if_false, ite_false, true_and, and_true, cg, cgs, cgGet0, cgGetS, aH, aI, Nat.reduceAdd, Nat.zero_add, Nat.reduceLeDiff, cok_ss, cok_ii, cok_bb, cok_is, cok_si, iok, iokI, afl_s, afl_i, afl_n, bcc, bnc, bcn, bnn, ev_str, ev_int, ev_bl, aJ, aK, Nat.reduceBEq, Int.reduceBEq, aL, aM, aN, aO, aP, aQ, aR, aS, aT, aU, aV, beq_self_eq_true]
      refine s_lover (cs := [(x, 1)]) (by omega) hkl hs hl hl2 ht (few1 x) ?_
      rw [mr1 _ hx0, zmr1 hx0]
      simp only [wSs, wS, wE, wOp, wOs, wV, wI, wCs, wAnd, wOr, wP, wTg, wipeE, slot0, slotS, start0, d_v, d_ol, d_od, w_tup, w_lst, w_str, isB_bl, gl_tup, gl_str, gl_int, gin_d, gix_d, itOk, eFz, c_eq, c_ne, c_ltI, c_leI, c_gtI, c_geI, c_ltS, c_leS, c_gtS, c_geS, c_inS, c_niS, c_inT, c_niT, c_inL, c_niL, c_isN, c_isnotN, c_isB, c_isnotB, b_addI, b_addS, b_addT, b_addL, b_sub, b_mul, b_rep, b_pow, b_shl, b_mod, b_fdiv, i_str, i_tup, i_lst, k_str, k_tup, k_lst, n_str, n_tup, n_lst, n_all, n_any, n_listL, n_listT, n_listD, n_listS, n_lenD, n_sortL, n_sortD, n_intB, n_intI, n_tupL, n_tupT, m_join, m_split, r_join, r_split, n_max2, n_sortP, n_maxS, n_minS, n_min2, n_maxL, n_minL, n_sum, n_strI, n_strS, m_upper, m_index, r_upper, r_index, i_dS, i_dI, c_inD, c_niD, key_str, key_int, wPs, at0, at1, at2, at3, ct1, ct2, ct3, ct4, tk1, tk2, tk3, dr1, dr2, dr3, dr4, tt1, tt2, tt3, zd_cons, zd_nil, zd_nil', wTy, aA, aB, List.replicate, aD, aE, aF, aG, if_true, ite_true, if_false, ite_false, true_and, and_true, cg, cgs, cgGet0, cgGetS, aH, aI, Nat.reduceAdd, Nat.zero_add, Nat.reduceLeDiff, cok_ss, cok_ii, cok_bb, cok_is, cok_si, iok, iokI, afl_s, afl_i, afl_n, bcc, bnc, bcn, bnn, ev_str, ev_int, ev_bl, aJ, aK, Nat.reduceBEq, Int.reduceBEq, aL, aM, aN, aO, aP, aQ, aR, aS, aT, aU, aV, beq_self_eq_true]
      refine ite_of (fun e => ?_) (fun e => ?_)
      · have e := of_decide_eq_true e
        rw [decide_eq_false (by unfold dc at e ⊢; omega), if_neg (by decide)] at hk
        exact hk
      · have e := of_decide_eq_false e
        rw [decide_eq_true (by unfold dc at e ⊢; omega), if_pos rfl] at hk
        exact hk
    · rw [List.nil_append, fm_filter]
      refine ⟨cmpOk_60 (cmpb_strs 59 _) rfl, ?_⟩
      rw [strs_nil, filter_nil]
      exact h
def LK (ks : List (List Nat)) (l : List (List Nat × Int)) : Prop := (l.map (·.1)).Nodup ∧ ∀ x ∈ l.map (·.1), x ∈ ks
theorem LK.put {ks : List (List Nat)} {l : List (List Nat × Int)} {x : List Nat} {v : Int} (h : LK ks l) (hx : x ∈ ks) : LK ks (tput l x v) := by
  unfold LK
  rw [tput_keys]
  split
  · exact h
  · rename_i hn
    refine ⟨?_, fun y hy => ?_⟩
    · rw [List.nodup_append]
      refine ⟨h.1, by simp, fun a ha b hb e => ?_⟩
      rw [List.mem_singleton.mp hb] at e
      exact hn (e ▸ ha)
    · rcases List.mem_append.mp hy with hy | hy
      · exact h.2 y hy
      · rw [List.mem_singleton.mp hy]; exact hx
theorem LK.len {ks : List (List Nat)} {l : List (List Nat × Int)} (h : LK ks l) : l.length ≤ ks.length := by
  have := nodup_len _ _ h.1 h.2
  rw [List.length_map] at this
  exact this
theorem ixTwo {a b : D} {n : Int} {R : D → Prop} (n0 : 0 ≤ n) (n1 : n < 2) (h1 : R a) (h2 : R b) : wIx (.lst [a, b]) (.int n) R := by
  obtain ⟨d, e, m⟩ := atI_in (xs := [a, b]) (n := n) n0 n1
  rw [i_lst, e]
  have m := m.1
  simp only [List.mem_cons, List.not_mem_nil, or_false] at m
  rcases m with rfl | rfl
  · exact h1
  · exact h2
theorem ixThree {a b c : D} {n : Int} {R : D → Prop} (n0 : 0 ≤ n) (n1 : n < 3) (h1 : R a) (h2 : R b) (h3 : R c) : wIx (.lst [a, b, c]) (.int n) R := by
  obtain ⟨d, e, m⟩ := atI_in (xs := [a, b, c]) (n := n) n0 n1
  rw [i_lst, e]
  have m := m.1
  simp only [List.mem_cons, List.not_mem_nil, or_false] at m
  rcases m with rfl | rfl | rfl
  · exact h1
  · exact h2
  · exact h3
theorem s_sum {K : Nat} {ks : List (List Nat)} {g : Int} {Q : D → Prop} (hK : 8 ≤ K) (hk : ks.length ≤ 10) (nd : ks.Nodup) (g0 : 0 < g) (g1 : g < 1073741824) (h : ∀ s : Su, SuK ks s → Q s.dk) : Phi tab cg K 11 [.deck, .lst (ks.map D.str), .int g] Q := by
  refine phi_goK rfl rfl (by omega) ?_
  have hF := Phi_mono (cg := cg) monoT (K - 1)
  unfold b_l_sum
  refine asg_cut hF (fun t => t = .ol []) (by simp only [wSs, wS, wE, wOp, wOs, wV, wI, wCs, wAnd, wOr, wP, wTg, wipeE, slot0, slotS, start0, d_v, d_ol, d_od, w_tup, w_lst, w_str, isB_bl, gl_tup, gl_str, gl_int, gin_d, gix_d, itOk, eFz, c_eq, c_ne, c_ltI, c_leI, c_gtI, c_geI, c_ltS, c_leS, c_gtS, c_geS, c_inS, c_niS, c_inT, c_niT, c_inL, c_niL, c_isN, c_isnotN, c_isB, c_isnotB, b_addI, b_addS, b_addT, b_addL, b_sub, b_mul, b_rep, b_pow, b_shl, b_mod, b_fdiv, i_str, i_tup, i_lst, k_str, k_tup, k_lst, n_str, n_tup, n_lst, n_all, n_any, n_listL, n_listT, n_listD, n_listS, n_lenD, n_sortL, n_sortD, n_intB, n_intI, n_tupL, n_tupT, m_join, m_split, r_join, r_split, n_max2, n_sortP, n_maxS, n_minS, n_min2, n_maxL, n_minL, n_sum, n_strI, n_strS, m_upper, m_index, r_upper, r_index, i_dS, i_dI, c_inD, c_niD, key_str, key_int, wPs, at0, at1, at2, at3, ct1, ct2, ct3, ct4, tk1, tk2, tk3, dr1, dr2, dr3, dr4, tt1, tt2, tt3, zd_cons, zd_nil, zd_nil', wTy, aA, aB, List.replicate, aD, aE, aF, aG, if_true, ite_true, if_false, ite_false, true_and, and_true, cg, cgs, cgGet0, cgGetS, aH, aI, Nat.reduceAdd, Nat.zero_add, Nat.reduceLeDiff, cok_ss, cok_ii, cok_bb, cok_is, cok_si, iok, iokI, afl_s, afl_i, afl_n, bcc, bnc, bcn, bnn, ev_str, ev_int, ev_bl, aJ, aK, Nat.reduceBEq, Int.reduceBEq, aL, aM, aN, aO, aP, aQ, aR, aS, aT, aU, aV, beq_self_eq_true]) fun t e => ?_
  subst e
  simp only [start0, List.map_cons, List.map_nil, List.replicate, List.cons_append, List.nil_append, List.set_cons_zero, List.set_cons_succ]
  refine ss_cut hF (fun env => ∃ (ps : List (List Nat × Int)) (a4 : Option T), env = [some (.v (.deck)), some (.v (.lst (ks.map D.str))), some (.v (.int g)), some (.ol (ps.map pd)), a4] ∧ (ps.map (·.1)).Nodup ∧ ∀ p ∈ ps, p.1 ∈ ks) (fors_idx hF trivial ?_) fun env ⟨ps, a4, e, h1, h2⟩ => ?_
  · simp only [wSs, wS, wE, wOp, wOs, wV, wI, wCs, wAnd, wOr, wP, wTg, wipeE, slot0, slotS, start0, d_v, d_ol, d_od, w_tup, w_lst, w_str, isB_bl, gl_tup, gl_str, gl_int, gin_d, gix_d, itOk, eFz, c_eq, c_ne, c_ltI, c_leI, c_gtI, c_geI, c_ltS, c_leS, c_gtS, c_geS, c_inS, c_niS, c_inT, c_niT, c_inL, c_niL, c_isN, c_isnotN, c_isB, c_isnotB, b_addI, b_addS, b_addT, b_addL, b_sub, b_mul, b_rep, b_pow, b_shl, b_mod, b_fdiv, i_str, i_tup, i_lst, k_str, k_tup, k_lst, n_str, n_tup, n_lst, n_all, n_any, n_listL, n_listT, n_listD, n_listS, n_lenD, n_sortL, n_sortD, n_intB, n_intI, n_tupL, n_tupT, m_join, m_split, r_join, r_split, n_max2, n_sortP, n_maxS, n_minS, n_min2, n_maxL, n_minL, n_sum, n_strI, n_strS, m_upper, m_index, r_upper, r_index, i_dS, i_dI, c_inD, c_niD, key_str, key_int, wPs, at0, at1, at2, at3, ct1, ct2, ct3, ct4, tk1, tk2, tk3, dr1, dr2, dr3, dr4, tt1, tt2, tt3, zd_cons, zd_nil, zd_nil', wTy, aA, aB, List.replicate, aD, aE, aF, aG, if_true, ite_true, if_false, ite_false, true_and, and_true, cg, cgs, cgGet0, cgGetS, aH, aI, Nat.reduceAdd, Nat.zero_add, Nat.reduceLeDiff, cok_ss, cok_ii, cok_bb, cok_is, cok_si, iok, iokI, afl_s, afl_i, afl_n, bcc, bnc, bcn, bnn, ev_str, ev_int, ev_bl, aJ, aK, Nat.reduceBEq, Int.reduceBEq, aL, aM, aN, aO, aP, aQ, aR, aS, aT, aU, aV, beq_self_eq_true, List.length_map]
    refine ⟨by omega, _, texts_map _, fun ys hy sy => ?_⟩
    refine ⟨fun i env => ∃ (ps : List (List Nat × Int)) (a4 : Option T), env = [some (.v (.deck)), some (.v (.lst (ks.map D.str))), some (.v (.int g)), some (.ol (ps.map pd)), a4] ∧ (ps.map (·.1)).Sublist (ys.take i), ⟨[], _, rfl, List.nil_sublist _⟩, fun i d hd env hi => ?_, fun env he => ?_⟩
    · obtain ⟨ps, a4, rfl, hs⟩ := hi
      rw [List.getElem?_map] at hd
      obtain ⟨x, hx, rfl⟩ := Option.map_eq_some_iff.mp hd
      refine ⟨_, rfl, ?_⟩
      have hi2 := (List.getElem?_eq_some_iff.mp hx).1
      have hyl : ys.length = ks.length := hy.length_eq
      have hlp : ps.length ≤ i := by
        have := hs.length_le
        rw [List.length_map, List.length_take] at this
        omega
      simp only [b_l_sum_1, wSs, wS, wE, wOp, wOs, wV, wI, wCs, wAnd, wOr, wP, wTg, wipeE, slot0, slotS, start0, d_v, d_ol, d_od, w_tup, w_lst, w_str, isB_bl, gl_tup, gl_str, gl_int, gin_d, gix_d, itOk, eFz, c_eq, c_ne, c_ltI, c_leI, c_gtI, c_geI, c_ltS, c_leS, c_gtS, c_geS, c_inS, c_niS, c_inT, c_niT, c_inL, c_niL, c_isN, c_isnotN, c_isB, c_isnotB, b_addI, b_addS, b_addT, b_addL, b_sub, b_mul, b_rep, b_pow, b_shl, b_mod, b_fdiv, i_str, i_tup, i_lst, k_str, k_tup, k_lst, n_str, n_tup, n_lst, n_all, n_any, n_listL, n_listT, n_listD, n_listS, n_lenD, n_sortL, n_sortD, n_intB, n_intI, n_tupL, n_tupT, m_join, m_split, r_join, r_split, n_max2, n_sortP, n_maxS, n_minS, n_min2, n_maxL, n_minL, n_sum, n_strI, n_strS, m_upper, m_index, r_upper, r_index, i_dS, i_dI, c_inD, c_niD, key_str, key_int, wPs, at0, at1, at2, at3, ct1, ct2, ct3, ct4, tk1, tk2, tk3, dr1, dr2, dr3, dr4, tt1, tt2, tt3, zd_cons, zd_nil, zd_nil', wTy, aA, aB, List.replicate, aD, aE, aF, aG, if_true, ite_true, if_false, ite_false, true_and, and_true, cg, cgs, cgGet0, cgGetS, aH, aI, Nat.reduceAdd, Nat.zero_add, Nat.reduceLeDiff, cok_ss, cok_ii, cok_bb, cok_is, cok_si, iok, iokI, afl_s, afl_i, afl_n, bcc, bnc, bcn, bnn, ev_str, ev_int, ev_bl, aJ, aK, Nat.reduceBEq, Int.reduceBEq, aL, aM, aN, aO, aP, aQ, aR, aS, aT, aU, aV, beq_self_eq_true, List.length_map]
      refine s_draw (by omega) (by decide) (by decide) fun n n0 n1 => ?_
      simp only [wSs, wS, wE, wOp, wOs, wV, wI, wCs, wAnd, wOr, wP, wTg, wipeE, slot0, slotS, start0, d_v, d_ol, d_od, w_tup, w_lst, w_str, isB_bl, gl_tup, gl_str, gl_int, gin_d, gix_d, itOk, eFz, c_eq, c_ne, c_ltI, c_leI, c_gtI, c_geI, c_ltS, c_leS, c_gtS, c_geS, c_inS, c_niS, c_inT, c_niT, c_inL, c_niL, c_isN, c_isnotN, c_isB, c_isnotB, b_addI, b_addS, b_addT, b_addL, b_sub, b_mul, b_rep, b_pow, b_shl, b_mod, b_fdiv, i_str, i_tup, i_lst, k_str, k_tup, k_lst, n_str, n_tup, n_lst, n_all, n_any, n_listL, n_listT, n_listD, n_listS, n_lenD, n_sortL, n_sortD, n_intB, n_intI, n_tupL, n_tupT, m_join, m_split, r_join, r_split, n_max2, n_sortP, n_maxS, n_minS, n_min2, n_maxL, n_minL, n_sum, n_strI, n_strS, m_upper, m_index, r_upper, r_index, i_dS, i_dI, c_inD, c_niD, key_str, key_int, wPs, at0, at1, at2, at3, ct1, ct2, ct3, ct4, tk1, tk2, tk3, dr1, dr2, dr3, dr4, tt1, tt2, tt3, zd_cons, zd_nil, zd_nil', wTy, aA, aB, List.replicate, aD, aE, aF, aG, if_true, ite_true, if_false, ite_false, true_and, and_true, cg, cgs, cgGet0, cgGetS, aH, aI, Nat.reduceAdd, Nat.zero_add, Nat.reduceLeDiff, cok_ss, cok_ii, cok_bb, cok_is, cok_si, iok, iokI, afl_s, afl_i, afl_n, bcc, bnc, bcn, bnn, ev_str, ev_int, ev_bl, aJ, aK, Nat.reduceBEq, Int.reduceBEq, aL, aM, aN, aO, aP, aQ, aR, aS, aT, aU, aV, beq_self_eq_true]
      refine ite_of (fun _ => ⟨by omega, s_draw (by omega) (by decide) (by decide) fun w w0 w1 => ?_⟩) (fun _ => ⟨ps, _, rfl, ?_⟩)
      · have fin : ∀ m : Int, 0 < m → m < 1073741824 → Phi tab cg (K - 1) 6 [.deck, .int m] fun d => wBin .add (.int 1) d fun t => ∃ ps' a4, ([some (T.v D.deck), some (T.v (D.lst (List.map D.str ks))), some (T.v (D.int g)), some (T.ol (List.map pd ps ++ [D.tup [D.str x, t.d]])), some (T.v (D.str x))] : Env) = [some (T.v D.deck), some (T.v (D.lst (List.map D.str ks))), some (T.v (D.int g)), some (T.ol (List.map pd ps')), a4] ∧ (ps'.map (·.1)).Sublist (ys.take (i + 1)) := fun m m0 m1 => by
          refine s_draw (by omega) m0 m1 fun z z0 z1 => ?_
          simp only [wSs, wS, wE, wOp, wOs, wV, wI, wCs, wAnd, wOr, wP, wTg, wipeE, slot0, slotS, start0, d_v, d_ol, d_od, w_tup, w_lst, w_str, isB_bl, gl_tup, gl_str, gl_int, gin_d, gix_d, itOk, eFz, c_eq, c_ne, c_ltI, c_leI, c_gtI, c_geI, c_ltS, c_leS, c_gtS, c_geS, c_inS, c_niS, c_inT, c_niT, c_inL, c_niL, c_isN, c_isnotN, c_isB, c_isnotB, b_addI, b_addS, b_addT, b_addL, b_sub, b_mul, b_rep, b_pow, b_shl, b_mod, b_fdiv, i_str, i_tup, i_lst, k_str, k_tup, k_lst, n_str, n_tup, n_lst, n_all, n_any, n_listL, n_listT, n_listD, n_listS, n_lenD, n_sortL, n_sortD, n_intB, n_intI, n_tupL, n_tupT, m_join, m_split, r_join, r_split, n_max2, n_sortP, n_maxS, n_minS, n_min2, n_maxL, n_minL, n_sum, n_strI, n_strS, m_upper, m_index, r_upper, r_index, i_dS, i_dI, c_inD, c_niD, key_str, key_int, wPs, at0, at1, at2, at3, ct1, ct2, ct3, ct4, tk1, tk2, tk3, dr1, dr2, dr3, dr4, tt1, tt2, tt3, zd_cons, zd_nil, zd_nil', wTy, aA, aB, List.replicate, aD, aE, aF, aG, if_true, ite_true, if_false, ite_false, true_and, and_true, cg, cgs, cgGet0, cgGetS, aH, aI, Nat.reduceAdd, Nat.zero_add, Nat.reduceLeDiff, cok_ss, cok_ii, cok_bb, cok_is, cok_si, iok, iokI, afl_s, afl_i, afl_n, bcc, bnc, bcn, bnn, ev_str, ev_int, ev_bl, aJ, aK, Nat.reduceBEq, Int.reduceBEq, aL, aM, aN, aO, aP, aQ, aR, aS, aT, aU, aV, beq_self_eq_true]
          refine ⟨ps ++ [(x, 1 + z)], _, by rw [List.map_append]; rfl, ?_⟩
          rw [take_snoc hx, List.map_append]
          exact hs.append (List.Sublist.refl _)
        exact ixTwo w0 w1 (fin 3 (by decide) (by decide)) (fin g g0 g1)
      · rw [take_snoc hx]
        exact hs.trans (List.sublist_append_left _ _)
    · obtain ⟨ps, a4, rfl, hs⟩ := he
      rw [List.take_length] at hs
      refine ⟨ps, a4, rfl, hs.nodup (hy.nodup_iff.mpr nd), fun p hp => ?_⟩
      exact hy.mem_iff.mp (hs.subset (List.mem_map.mpr ⟨p, hp, rfl⟩))
  subst e
  simp only [wSs, wS, wE, wOp, wOs, wV, wI, wCs, wAnd, wOr, wP, wTg, wipeE, slot0, slotS, start0, d_v, d_ol, d_od, w_tup, w_lst, w_str, isB_bl, gl_tup, gl_str, gl_int, gin_d, gix_d, itOk, eFz, c_eq, c_ne, c_ltI, c_leI, c_gtI, c_geI, c_ltS, c_leS, c_gtS, c_geS, c_inS, c_niS, c_inT, c_niT, c_inL, c_niL, c_isN, c_isnotN, c_isB, c_isnotB, b_addI, b_addS, b_addT, b_addL, b_sub, b_mul, b_rep, b_pow, b_shl, b_mod, b_fdiv, i_str, i_tup, i_lst, k_str, k_tup, k_lst, n_str, n_tup, n_lst, n_all, n_any, n_listL, n_listT, n_listD, n_listS, n_lenD, n_sortL, n_sortD, n_intB, n_intI, n_tupL, n_tupT, m_join, m_split, r_join, r_split, n_max2, n_sortP, n_maxS, n_minS, n_min2, n_maxL, n_minL, n_sum, n_strI, n_strS, m_upper, m_index, r_upper, r_index, i_dS, i_dI, c_inD, c_niD, key_str, key_int, wPs, at0, at1, at2, at3, ct1, ct2, ct3, ct4, tk1, tk2, tk3, dr1, dr2, dr3, dr4, tt1, tt2, tt3, zd_cons, zd_nil, zd_nil', wTy, aA, aB, List.replicate, aD, aE, aF, aG, if_true, ite_true, if_false, ite_false, true_and, and_true, cg, cgs, cgGet0, cgGetS, aH, aI, Nat.reduceAdd, Nat.zero_add, Nat.reduceLeDiff, cok_ss, cok_ii, cok_bb, cok_is, cok_si, iok, iokI, afl_s, afl_i, afl_n, bcc, bnc, bcn, bnn, ev_str, ev_int, ev_bl, aJ, aK, Nat.reduceBEq, Int.reduceBEq, aL, aM, aN, aO, aP, aQ, aR, aS, aT, aU, aV, beq_self_eq_true]
  refine s_draw (by omega) (by decide) (by decide) fun w w0 w1 => ?_
  exact ixTwo w0 w1 (s_draw (by omega) (by decide) (by decide) fun z _ _ => h ⟨ps, z⟩ ⟨h1, h2⟩) (s_draw (by omega) g0 g1 fun z _ _ => h ⟨ps, z⟩ ⟨h1, h2⟩)
theorem psx_filter {v : List Nat → Int} {q : List Nat → Bool} {x : List Nat} : ∀ {ys : List (List Nat)}, ys.Nodup → psx ((ys.filter q).map fun y => (y, v y)) x = if x ∈ ys ∧ q x = true then v x else 0
  | [], _ => by simp [psx]
  | y :: r, nd => by
    rw [List.nodup_cons] at nd
    have ih := psx_filter (v := v) (q := q) (x := x) nd.2
    rw [List.filter_cons]
    by_cases hq : q y = true
    · rw [if_pos hq]
      unfold psx at ih ⊢
      rw [List.map_cons, List.map_cons, List.sum_cons, ih]
      by_cases e : y = x
      · rw [if_pos e, if_neg fun z => nd.1 (e ▸ z.1), if_pos ⟨by rw [e]; exact List.mem_cons_self, e ▸ hq⟩, e, Int.add_zero]
      · rw [if_neg e, Int.zero_add]
        by_cases h2 : x ∈ r ∧ q x = true
        · rw [if_pos h2, if_pos ⟨List.mem_cons_of_mem _ h2.1, h2.2⟩]
        · rw [if_neg h2, if_neg fun z => h2 ⟨(List.mem_cons.mp z.1).resolve_left (Ne.symm e), z.2⟩]
    · rw [if_neg hq, ih]
      by_cases h2 : x ∈ r ∧ q x = true
      · rw [if_pos h2, if_pos ⟨List.mem_cons_of_mem _ h2.1, h2.2⟩]
      · rw [if_neg h2, if_neg fun (z : x ∈ y :: r ∧ q x = true) => h2 ⟨(List.mem_cons.mp z.1).resolve_left fun e => hq (by rw [← e]; exact z.2), z.2⟩]
theorem fm_pd {p : List Nat → Bool} {v : List Nat → Int} : ∀ {l : List (List Nat)}, (l.filterMap fun x => if p x = true then some (pd (x, v x)) else none) = ((l.filter p).map fun y => (y, v y)).map pd
  | [] => rfl
  | a :: r => by
    rw [List.filterMap_cons, List.filter_cons]
    cases p a
    · exact fm_pd
    · show pd _ :: _ = pd _ :: _
      rw [fm_pd]
theorem ent_keys (l : List (List Nat × Int)) : (l.map ent).map (fun p => keyD p.1) = (l.map (·.1)).map D.str := by
  rw [List.map_map, List.map_map]
  refine List.map_congr_left fun p _ => ?_
  show D.str (mkS p.1).cps.toList = .str p.1
  rw [mkS_list]
theorem s_side {K : Nat} {ks : List (List Nat)} {l : List (List Nat × Int)} {n : Int} {Q : D → Prop} (hK : 1 ≤ K) (hk : ks.length ≤ 10) (hl : LK ks l) (h : ∀ s : Su, s.n = n → SuK ks s → (∀ x, psx s.ps x = if 0 < gx l x then gx l x else 0) → Q s.dk) : Phi tab cg K 16 [.dct (l.map ent), .int n] Q := by
  refine phi_goK rfl rfl (by omega) ?_
  unfold b_l_side
  have hlen := hl.len
  simp only [wSs, wS, wE, wOp, wOs, wV, wI, wCs, wAnd, wOr, wP, wTg, wipeE, slot0, slotS, start0, d_v, d_ol, d_od, w_tup, w_lst, w_str, isB_bl, gl_tup, gl_str, gl_int, gin_d, gix_d, itOk, eFz, c_eq, c_ne, c_ltI, c_leI, c_gtI, c_geI, c_ltS, c_leS, c_gtS, c_geS, c_inS, c_niS, c_inT, c_niT, c_inL, c_niL, c_isN, c_isnotN, c_isB, c_isnotB, b_addI, b_addS, b_addT, b_addL, b_sub, b_mul, b_rep, b_pow, b_shl, b_mod, b_fdiv, i_str, i_tup, i_lst, k_str, k_tup, k_lst, n_str, n_tup, n_lst, n_all, n_any, n_listL, n_listT, n_listD, n_listS, n_lenD, n_sortL, n_sortD, n_intB, n_intI, n_tupL, n_tupT, m_join, m_split, r_join, r_split, n_max2, n_sortP, n_maxS, n_minS, n_min2, n_maxL, n_minL, n_sum, n_strI, n_strS, m_upper, m_index, r_upper, r_index, i_dS, i_dI, c_inD, c_niD, key_str, key_int, wPs, at0, at1, at2, at3, ct1, ct2, ct3, ct4, tk1, tk2, tk3, dr1, dr2, dr3, dr4, tt1, tt2, tt3, zd_cons, zd_nil, zd_nil', wTy, aA, aB, List.replicate, aD, aE, aF, aG, if_true, ite_true, if_false, ite_false, true_and, and_true, cg, cgs, cgGet0, cgGetS, aH, aI, Nat.reduceAdd, Nat.zero_add, Nat.reduceLeDiff, cok_ss, cok_ii, cok_bb, cok_is, cok_si, iok, iokI, afl_s, afl_i, afl_n, bcc, bnc, bcn, bnn, ev_str, ev_int, ev_bl, aJ, aK, Nat.reduceBEq, Int.reduceBEq, aL, aM, aN, aO, aP, aQ, aR, aS, aT, aU, aV, beq_self_eq_true, n_sortD, ent_keys, List.length_map]
  refine ⟨by omega, _, texts_map _, fun ys hy sy => ?_⟩
  have hyl : ys.length = l.length := by rw [hy.length_eq, List.length_map]
  refine ⟨by omega, wLc_mapF (u := D.str) (g := fun x => if decide (0 < gx l x) = true then some (pd (x, gx l x)) else none) ys [] (fun x hx k hk => ?_) ?_⟩
  · obtain ⟨v, g1, _⟩ := tget_has (hy.mem_iff.mp hx)
    have gv : gx l x = v := by unfold gx; rw [g1]; rfl
    simp only [wSs, wS, wE, wOp, wOs, wV, wI, wCs, wAnd, wOr, wP, wTg, wipeE, slot0, slotS, start0, d_v, d_ol, d_od, w_tup, w_lst, w_str, isB_bl, gl_tup, gl_str, gl_int, gin_d, gix_d, itOk, eFz, c_eq, c_ne, c_ltI, c_leI, c_gtI, c_geI, c_ltS, c_leS, c_gtS, c_geS, c_inS, c_niS, c_inT, c_niT, c_inL, c_niL, c_isN, c_isnotN, c_isB, c_isnotB, b_addI, b_addS, b_addT, b_addL, b_sub, b_mul, b_rep, b_pow, b_shl, b_mod, b_fdiv, i_str, i_tup, i_lst, k_str, k_tup, k_lst, n_str, n_tup, n_lst, n_all, n_any, n_listL, n_listT, n_listD, n_listS, n_lenD, n_sortL, n_sortD, n_intB, n_intI, n_tupL, n_tupT, m_join, m_split, r_join, r_split, n_max2, n_sortP, n_maxS, n_minS, n_min2, n_maxL, n_minL, n_sum, n_strI, n_strS, m_upper, m_index, r_upper, r_index, i_dS, i_dI, c_inD, c_niD, key_str, key_int, wPs, at0, at1, at2, at3, ct1, ct2, ct3, ct4, tk1, tk2, tk3, dr1, dr2, dr3, dr4, tt1, tt2, tt3, zd_cons, zd_nil, zd_nil', wTy, aA, aB, List.replicate, aD, aE, aF, aG, if_true, ite_true, if_false, ite_false, true_and, and_true, cg, cgs, cgGet0, cgGetS, aH, aI, Nat.reduceAdd, Nat.zero_add, Nat.reduceLeDiff, cok_ss, cok_ii, cok_bb, cok_is, cok_si, iok, iokI, afl_s, afl_i, afl_n, bcc, bnc, bcn, bnn, ev_str, ev_int, ev_bl, aJ, aK, Nat.reduceBEq, Int.reduceBEq, aL, aM, aN, aO, aP, aQ, aR, aS, aT, aU, aV, beq_self_eq_true, kget_t, g1, Option.map_some]
    rw [gv] at hk
    refine ite_of (fun e => ?_) (fun e => ?_)
    · rw [if_pos e] at hk
      exact hk
    · rw [if_neg (by rw [e]; decide)] at hk
      exact hk
  · rw [List.nil_append, fm_pd]
    have ndy : ys.Nodup := hy.nodup_iff.mpr hl.1
    have e1 : ((ys.filter fun x => decide (0 < gx l x)).map fun y => (y, gx l y)).map (·.1) = ys.filter fun x => decide (0 < gx l x) := by
      rw [List.map_map]
      exact List.map_id' _
    refine h ⟨_, n⟩ rfl ⟨?_, fun p hp => ?_⟩ fun x => ?_
    · show (((ys.filter fun x => decide (0 < gx l x)).map fun y => (y, gx l y)).map (·.1)).Nodup
      rw [e1]
      exact ndy.sublist List.filter_sublist
    · obtain ⟨y, hy', rfl⟩ := List.mem_map.mp hp
      exact hl.2 _ (hy.mem_iff.mp (List.mem_filter.mp hy').1)
    · show psx _ x = _
      rw [psx_filter ndy]
      by_cases hm : x ∈ ys
      · by_cases hp : 0 < gx l x
        · rw [if_pos ⟨hm, decide_eq_true hp⟩, if_pos hp]
        · rw [if_neg fun z => hp (of_decide_eq_true z.2), if_neg hp]
      · have : gx l x = 0 := by
          unfold gx
          rw [tget_no fun z => hm (hy.mem_iff.mpr z)]
          rfl
        rw [if_neg fun z => hm z.1, if_neg (by omega)]
theorem pairs_k : ∀ l : List (List Nat × Int), pairsD (l.map pd) = some (l.map ent)
  | [] => rfl
  | p :: r => by
    show (pairsD (r.map pd)).map _ = _
    rw [pairs_k r]
    rfl
theorem kputNew {kvs : List (Key × D)} {k : Key} {d : D} (h : k ∉ kvs.map (·.1)) : kput kvs k d = kvs ++ [(k, d)] := by
  unfold kput
  rw [if_neg]
  intro z
  obtain ⟨q, hq, e⟩ := List.any_eq_true.mp z
  exact h (by rw [← of_decide_eq_true e]; exact List.mem_map_of_mem hq)
theorem mergeNd : ∀ {kvs acc : List (Key × D)}, ((acc ++ kvs).map (·.1)).Nodup → kvs.foldl (fun acc kv => kput acc kv.1 kv.2) acc = acc ++ kvs
  | [], acc, _ => (List.append_nil _).symm
  | p :: r, acc, h => by
    have hp : p.1 ∉ acc.map (·.1) := by
      rw [List.map_append, List.map_cons, List.nodup_append] at h
      intro z
      exact h.2.2 _ z _ List.mem_cons_self rfl
    rw [List.foldl_cons, kputNew hp, mergeNd (by rw [List.append_assoc]; exact h), List.append_assoc]
    rfl
theorem merge_k {l : List (List Nat × Int)} (h : (l.map (·.1)).Nodup) : mergeD (l.map ent) = l.map ent := by
  unfold mergeD
  rw [mergeNd]
  · rfl
  · rw [List.nil_append, List.map_map]
    have e : (l.map ((fun x : Key × D => x.1) ∘ ent)) = (l.map (·.1)).map fun x => (Sum.inr (mkS x) : Key) := by
      rw [List.map_map]
      rfl
    rw [e]
    unfold List.Nodup at h ⊢
    rw [List.pairwise_map]
    exact h.imp fun n q => n (mkS_inj (Sum.inr.inj q))
theorem s_bentsum {K : Nat} {ks : List (List Nat)} {s : Su} {Q : D → Prop} (hK : 8 ≤ K) (hk : ks.length ≤ 10) (hs : SuK ks s) (h : ∀ s : Su, SuK ks s → Q s.dk) : Phi tab cg K 18 [.deck, s.dk, .lst (ks.map D.str)] Q := by
  refine phi_goK rfl rfl (by omega) ?_
  have hF := Phi_mono (cg := cg) monoT (K - 1)
  unfold b_l_bent_sum Su.dk
  refine asg_cut hF (fun t => t = .od (s.ps.map ent)) ?_ fun t e => ?_
  · simp only [wSs, wS, wE, wOp, wOs, wV, wI, wCs, wAnd, wOr, wP, wTg, wipeE, slot0, slotS, start0, d_v, d_ol, d_od, w_tup, w_lst, w_str, isB_bl, gl_tup, gl_str, gl_int, gin_d, gix_d, itOk, eFz, c_eq, c_ne, c_ltI, c_leI, c_gtI, c_geI, c_ltS, c_leS, c_gtS, c_geS, c_inS, c_niS, c_inT, c_niT, c_inL, c_niL, c_isN, c_isnotN, c_isB, c_isnotB, b_addI, b_addS, b_addT, b_addL, b_sub, b_mul, b_rep, b_pow, b_shl, b_mod, b_fdiv, i_str, i_tup, i_lst, k_str, k_tup, k_lst, n_str, n_tup, n_lst, n_all, n_any, n_listL, n_listT, n_listD, n_listS, n_lenD, n_sortL, n_sortD, n_intB, n_intI, n_tupL, n_tupT, m_join, m_split, r_join, r_split, n_max2, n_sortP, n_maxS, n_minS, n_min2, n_maxL, n_minL, n_sum, n_strI, n_strS, m_upper, m_index, r_upper, r_index, i_dS, i_dI, c_inD, c_niD, key_str, key_int, wPs, at0, at1, at2, at3, ct1, ct2, ct3, ct4, tk1, tk2, tk3, dr1, dr2, dr3, dr4, tt1, tt2, tt3, zd_cons, zd_nil, zd_nil', wTy, aA, aB, List.replicate, aD, aE, aF, aG, if_true, ite_true, if_false, ite_false, true_and, and_true, cg, cgs, cgGet0, cgGetS, aH, aI, Nat.reduceAdd, Nat.zero_add, Nat.reduceLeDiff, cok_ss, cok_ii, cok_bb, cok_is, cok_si, iok, iokI, afl_s, afl_i, afl_n, bcc, bnc, bcn, bnn, ev_str, ev_int, ev_bl, aJ, aK, Nat.reduceBEq, Int.reduceBEq, aL, aM, aN, aO, aP, aQ, aR, aS, aT, aU, aV, beq_self_eq_true, wDict, pairs_k]
    exact ⟨_, rfl, by rw [merge_k hs.1]⟩
  subst e
  refine asg_cut hF (fun t => ∃ z : Int, t = .v (.int z)) ?_ fun t ⟨z, e⟩ => ?_
  · simp only [wSs, wS, wE, wOp, wOs, wV, wI, wCs, wAnd, wOr, wP, wTg, wipeE, slot0, slotS, start0, d_v, d_ol, d_od, w_tup, w_lst, w_str, isB_bl, gl_tup, gl_str, gl_int, gin_d, gix_d, itOk, eFz, c_eq, c_ne, c_ltI, c_leI, c_gtI, c_geI, c_ltS, c_leS, c_gtS, c_geS, c_inS, c_niS, c_inT, c_niT, c_inL, c_niL, c_isN, c_isnotN, c_isB, c_isnotB, b_addI, b_addS, b_addT, b_addL, b_sub, b_mul, b_rep, b_pow, b_shl, b_mod, b_fdiv, i_str, i_tup, i_lst, k_str, k_tup, k_lst, n_str, n_tup, n_lst, n_all, n_any, n_listL, n_listT, n_listD, n_listS, n_lenD, n_sortL, n_sortD, n_intB, n_intI, n_tupL, n_tupT, m_join, m_split, r_join, r_split, n_max2, n_sortP, n_maxS, n_minS, n_min2, n_maxL, n_minL, n_sum, n_strI, n_strS, m_upper, m_index, r_upper, r_index, i_dS, i_dI, c_inD, c_niD, key_str, key_int, wPs, at0, at1, at2, at3, ct1, ct2, ct3, ct4, tk1, tk2, tk3, dr1, dr2, dr3, dr4, tt1, tt2, tt3, zd_cons, zd_nil, zd_nil', wTy, aA, aB, List.replicate, aD, aE, aF, aG, if_true, ite_true, if_false, ite_false, true_and, and_true, cg, cgs, cgGet0, cgGetS, aH, aI, Nat.reduceAdd, Nat.zero_add, Nat.reduceLeDiff, cok_ss, cok_ii, cok_bb, cok_is, cok_si, iok, iokI, afl_s, afl_i, afl_n, bcc, bnc, bcn, bnn, ev_str, ev_int, ev_bl, aJ, aK, Nat.reduceBEq, Int.reduceBEq, aL, aM, aN, aO, aP, aQ, aR, aS, aT, aU, aV, beq_self_eq_true]
    exact s_draw (by omega) (by decide) (by decide) fun w w0 w1 => ixTwo w0 w1 ⟨_, rfl⟩ ⟨_, rfl⟩
  subst e
  refine asg_cut hF (fun t => ∃ z : Nat, t = .v (.int (z : Int)) ∧ z ≤ ks.length) ?_ fun t ⟨y, e, hy⟩ => ?_
  · simp only [wSs, wS, wE, wOp, wOs, wV, wI, wCs, wAnd, wOr, wP, wTg, wipeE, slot0, slotS, start0, d_v, d_ol, d_od, w_tup, w_lst, w_str, isB_bl, gl_tup, gl_str, gl_int, gin_d, gix_d, itOk, eFz, c_eq, c_ne, c_ltI, c_leI, c_gtI, c_geI, c_ltS, c_leS, c_gtS, c_geS, c_inS, c_niS, c_inT, c_niT, c_inL, c_niL, c_isN, c_isnotN, c_isB, c_isnotB, b_addI, b_addS, b_addT, b_addL, b_sub, b_mul, b_rep, b_pow, b_shl, b_mod, b_fdiv, i_str, i_tup, i_lst, k_str, k_tup, k_lst, n_str, n_tup, n_lst, n_all, n_any, n_listL, n_listT, n_listD, n_listS, n_lenD, n_sortL, n_sortD, n_intB, n_intI, n_tupL, n_tupT, m_join, m_split, r_join, r_split, n_max2, n_sortP, n_maxS, n_minS, n_min2, n_maxL, n_minL, n_sum, n_strI, n_strS, m_upper, m_index, r_upper, r_index, i_dS, i_dI, c_inD, c_niD, key_str, key_int, wPs, at0, at1, at2, at3, ct1, ct2, ct3, ct4, tk1, tk2, tk3, dr1, dr2, dr3, dr4, tt1, tt2, tt3, zd_cons, zd_nil, zd_nil', wTy, aA, aB, List.replicate, aD, aE, aF, aG, if_true, ite_true, if_false, ite_false, true_and, and_true, cg, cgs, cgGet0, cgGetS, aH, aI, Nat.reduceAdd, Nat.zero_add, Nat.reduceLeDiff, cok_ss, cok_ii, cok_bb, cok_is, cok_si, iok, iokI, afl_s, afl_i, afl_n, bcc, bnc, bcn, bnn, ev_str, ev_int, ev_bl, aJ, aK, Nat.reduceBEq, Int.reduceBEq, aL, aM, aN, aO, aP, aQ, aR, aS, aT, aU, aV, beq_self_eq_true, List.length_map]
    refine s_draw (by omega) (by omega) (by omega) fun w w0 w1 => ?_
    obtain ⟨w, rfl⟩ := Int.eq_ofNat_of_zero_le w0
    exact ⟨w, rfl, by omega⟩
  subst e
  simp only [start0, List.map_cons, List.map_nil, List.replicate, List.cons_append, List.nil_append, List.set_cons_zero, List.set_cons_succ]
  have hlk : LK ks s.ps := ⟨hs.1, fun x hx => by
    obtain ⟨p, hp, rfl⟩ := List.mem_map.mp hx
    exact hs.2 p hp⟩
  have hlen := hlk.len
  refine ss_cut hF (fun env => env = [some (.v (.deck)), some (.v (.tup [.tpk (s.ps.map pd), .int s.n])), some (.v (.lst (ks.map D.str))), some (.od (s.ps.map ent)), some (.v (.int z)), some (.v (.int (y : Int)))] ∧ y < ks.length) ?_ fun env ⟨e, hlt⟩ => ?_
  · simp only [wSs, wS, wE, wOp, wOs, wV, wI, wCs, wAnd, wOr, wP, wTg, wipeE, slot0, slotS, start0, d_v, d_ol, d_od, w_tup, w_lst, w_str, isB_bl, gl_tup, gl_str, gl_int, gin_d, gix_d, itOk, eFz, c_eq, c_ne, c_ltI, c_leI, c_gtI, c_geI, c_ltS, c_leS, c_gtS, c_geS, c_inS, c_niS, c_inT, c_niT, c_inL, c_niL, c_isN, c_isnotN, c_isB, c_isnotB, b_addI, b_addS, b_addT, b_addL, b_sub, b_mul, b_rep, b_pow, b_shl, b_mod, b_fdiv, i_str, i_tup, i_lst, k_str, k_tup, k_lst, n_str, n_tup, n_lst, n_all, n_any, n_listL, n_listT, n_listD, n_listS, n_lenD, n_sortL, n_sortD, n_intB, n_intI, n_tupL, n_tupT, m_join, m_split, r_join, r_split, n_max2, n_sortP, n_maxS, n_minS, n_min2, n_maxL, n_minL, n_sum, n_strI, n_strS, m_upper, m_index, r_upper, r_index, i_dS, i_dI, c_inD, c_niD, key_str, key_int, wPs, at0, at1, at2, at3, ct1, ct2, ct3, ct4, tk1, tk2, tk3, dr1, dr2, dr3, dr4, tt1, tt2, tt3, zd_cons, zd_nil, zd_nil', wTy, aA, aB, List.replicate, aD, aE, aF, aG, if_true, ite_true, if_false, ite_false, true_and, and_true, cg, cgs, cgGet0, cgGetS, aH, aI, Nat.reduceAdd, Nat.zero_add, Nat.reduceLeDiff, cok_ss, cok_ii, cok_bb, cok_is, cok_si, iok, iokI, afl_s, afl_i, afl_n, bcc, bnc, bcn, bnn, ev_str, ev_int, ev_bl, aJ, aK, Nat.reduceBEq, Int.reduceBEq, aL, aM, aN, aO, aP, aQ, aR, aS, aT, aU, aV, beq_self_eq_true, List.length_map]
    refine ite_of (fun _ => h ⟨s.ps, if s.n + z > 0 then s.n + z else 0⟩ ⟨hs.1, hs.2⟩) (fun e => ?_)
    have : ¬ (y : Int) = (ks.length : Int) := by simpa using e
    first | omega | exact ⟨rfl, by omega⟩
  subst e
  have ek : (ks.map D.str)[y]? = some (.str ks[y]) := by
    rw [List.getElem?_map, List.getElem?_eq_getElem hlt]
    rfl
  refine ss_cut hF (fun env => ∃ l, env = [some (.v (.deck)), some (.v (.tup [.tpk (s.ps.map pd), .int s.n])), some (.v (.lst (ks.map D.str))), some (.od (l.map ent)), some (.v (.int z)), some (.v (.int (y : Int)))] ∧ LK ks l) ?_ fun env ⟨l, e, hl⟩ => ?_
  · simp only [wSs, wS, wE, wOp, wOs, wV, wI, wCs, wAnd, wOr, wP, wTg, wipeE, slot0, slotS, start0, d_v, d_ol, d_od, w_tup, w_lst, w_str, isB_bl, gl_tup, gl_str, gl_int, gin_d, gix_d, itOk, eFz, c_eq, c_ne, c_ltI, c_leI, c_gtI, c_geI, c_ltS, c_leS, c_gtS, c_geS, c_inS, c_niS, c_inT, c_niT, c_inL, c_niL, c_isN, c_isnotN, c_isB, c_isnotB, b_addI, b_addS, b_addT, b_addL, b_sub, b_mul, b_rep, b_pow, b_shl, b_mod, b_fdiv, i_str, i_tup, i_lst, k_str, k_tup, k_lst, n_str, n_tup, n_lst, n_all, n_any, n_listL, n_listT, n_listD, n_listS, n_lenD, n_sortL, n_sortD, n_intB, n_intI, n_tupL, n_tupT, m_join, m_split, r_join, r_split, n_max2, n_sortP, n_maxS, n_minS, n_min2, n_maxL, n_minL, n_sum, n_strI, n_strS, m_upper, m_index, r_upper, r_index, i_dS, i_dI, c_inD, c_niD, key_str, key_int, wPs, at0, at1, at2, at3, ct1, ct2, ct3, ct4, tk1, tk2, tk3, dr1, dr2, dr3, dr4, tt1, tt2, tt3, zd_cons, zd_nil, zd_nil', wTy, aA, aB, List.replicate, aD, aE, aF, aG, if_true, ite_true, if_false, ite_false, true_and, and_true, cg, cgs, cgGet0, cgGetS, aH, aI, Nat.reduceAdd, Nat.zero_add, Nat.reduceLeDiff, cok_ss, cok_ii, cok_bb, cok_is, cok_si, iok, iokI, afl_s, afl_i, afl_n, bcc, bnc, bcn, bnn, ev_str, ev_int, ev_bl, aJ, aK, Nat.reduceBEq, Int.reduceBEq, aL, aM, aN, aO, aP, aQ, aR, aS, aT, aU, aV, beq_self_eq_true, List.length_map, atI_nn ek, kget_td, kput_t hs.1]
    exact ⟨by omega, _, rfl, hlk.put (List.getElem_mem hlt)⟩
  subst e
  simp only [wSs, wS, wE, wOp, wOs, wV, wI, wCs, wAnd, wOr, wP, wTg, wipeE, slot0, slotS, start0, d_v, d_ol, d_od, w_tup, w_lst, w_str, isB_bl, gl_tup, gl_str, gl_int, gin_d, gix_d, itOk, eFz, c_eq, c_ne, c_ltI, c_leI, c_gtI, c_geI, c_ltS, c_leS, c_gtS, c_geS, c_inS, c_niS, c_inT, c_niT, c_inL, c_niL, c_isN, c_isnotN, c_isB, c_isnotB, b_addI, b_addS, b_addT, b_addL, b_sub, b_mul, b_rep, b_pow, b_shl, b_mod, b_fdiv, i_str, i_tup, i_lst, k_str, k_tup, k_lst, n_str, n_tup, n_lst, n_all, n_any, n_listL, n_listT, n_listD, n_listS, n_lenD, n_sortL, n_sortD, n_intB, n_intI, n_tupL, n_tupT, m_join, m_split, r_join, r_split, n_max2, n_sortP, n_maxS, n_minS, n_min2, n_maxL, n_minL, n_sum, n_strI, n_strS, m_upper, m_index, r_upper, r_index, i_dS, i_dI, c_inD, c_niD, key_str, key_int, wPs, at0, at1, at2, at3, ct1, ct2, ct3, ct4, tk1, tk2, tk3, dr1, dr2, dr3, dr4, tt1, tt2, tt3, zd_cons, zd_nil, zd_nil', wTy, aA, aB, List.replicate, aD, aE, aF, aG, if_true, ite_true, if_false, ite_false, true_and, and_true, cg, cgs, cgGet0, cgGetS, aH, aI, Nat.reduceAdd, Nat.zero_add, Nat.reduceLeDiff, cok_ss, cok_ii, cok_bb, cok_is, cok_si, iok, iokI, afl_s, afl_i, afl_n, bcc, bnc, bcn, bnn, ev_str, ev_int, ev_bl, aJ, aK, Nat.reduceBEq, Int.reduceBEq, aL, aM, aN, aO, aP, aQ, aR, aS, aT, aU, aV, beq_self_eq_true]
  exact s_side (by omega) hk hl fun s' _ h1 _ => h s' h1
theorem s_bent {K : Nat} {ks : List (List Nat)} {f : Su × Su} {Q : D → Prop} (hK : 9 ≤ K) (hk : ks.length ≤ 10) (h1 : SuK ks f.1) (h2 : SuK ks f.2) (h : ∀ g : Su × Su, SuK ks g.1 → SuK ks g.2 → Q (lsF g)) : Phi tab cg K 19 [.deck, lsF f, .lst (ks.map D.str)] Q := by
  refine phi_goK rfl rfl (by omega) ?_
  have hF := Phi_mono (cg := cg) monoT (K - 1)
  unfold b_l_bent lsF
  refine asg_cut hF (fun t => ∃ z : Int, t = .v (.int z)) ?_ fun t ⟨z, e⟩ => ?_
  · simp only [wSs, wS, wE, wOp, wOs, wV, wI, wCs, wAnd, wOr, wP, wTg, wipeE, slot0, slotS, start0, d_v, d_ol, d_od, w_tup, w_lst, w_str, isB_bl, gl_tup, gl_str, gl_int, gin_d, gix_d, itOk, eFz, c_eq, c_ne, c_ltI, c_leI, c_gtI, c_geI, c_ltS, c_leS, c_gtS, c_geS, c_inS, c_niS, c_inT, c_niT, c_inL, c_niL, c_isN, c_isnotN, c_isB, c_isnotB, b_addI, b_addS, b_addT, b_addL, b_sub, b_mul, b_rep, b_pow, b_shl, b_mod, b_fdiv, i_str, i_tup, i_lst, k_str, k_tup, k_lst, n_str, n_tup, n_lst, n_all, n_any, n_listL, n_listT, n_listD, n_listS, n_lenD, n_sortL, n_sortD, n_intB, n_intI, n_tupL, n_tupT, m_join, m_split, r_join, r_split, n_max2, n_sortP, n_maxS, n_minS, n_min2, n_maxL, n_minL, n_sum, n_strI, n_strS, m_upper, m_index, r_upper, r_index, i_dS, i_dI, c_inD, c_niD, key_str, key_int, wPs, at0, at1, at2, at3, ct1, ct2, ct3, ct4, tk1, tk2, tk3, dr1, dr2, dr3, dr4, tt1, tt2, tt3, zd_cons, zd_nil, zd_nil', wTy, aA, aB, List.replicate, aD, aE, aF, aG, if_true, ite_true, if_false, ite_false, true_and, and_true, cg, cgs, cgGet0, cgGetS, aH, aI, Nat.reduceAdd, Nat.zero_add, Nat.reduceLeDiff, cok_ss, cok_ii, cok_bb, cok_is, cok_si, iok, iokI, afl_s, afl_i, afl_n, bcc, bnc, bcn, bnn, ev_str, ev_int, ev_bl, aJ, aK, Nat.reduceBEq, Int.reduceBEq, aL, aM, aN, aO, aP, aQ, aR, aS, aT, aU, aV, beq_self_eq_true]
    exact s_draw (by omega) (by decide) (by decide) fun w w0 w1 => ⟨_, rfl⟩
  subst e
  simp only [wSs, wS, wE, wOp, wOs, wV, wI, wCs, wAnd, wOr, wP, wTg, wipeE, slot0, slotS, start0, d_v, d_ol, d_od, w_tup, w_lst, w_str, isB_bl, gl_tup, gl_str, gl_int, gin_d, gix_d, itOk, eFz, c_eq, c_ne, c_ltI, c_leI, c_gtI, c_geI, c_ltS, c_leS, c_gtS, c_geS, c_inS, c_niS, c_inT, c_niT, c_inL, c_niL, c_isN, c_isnotN, c_isB, c_isnotB, b_addI, b_addS, b_addT, b_addL, b_sub, b_mul, b_rep, b_pow, b_shl, b_mod, b_fdiv, i_str, i_tup, i_lst, k_str, k_tup, k_lst, n_str, n_tup, n_lst, n_all, n_any, n_listL, n_listT, n_listD, n_listS, n_lenD, n_sortL, n_sortD, n_intB, n_intI, n_tupL, n_tupT, m_join, m_split, r_join, r_split, n_max2, n_sortP, n_maxS, n_minS, n_min2, n_maxL, n_minL, n_sum, n_strI, n_strS, m_upper, m_index, r_upper, r_index, i_dS, i_dI, c_inD, c_niD, key_str, key_int, wPs, at0, at1, at2, at3, ct1, ct2, ct3, ct4, tk1, tk2, tk3, dr1, dr2, dr3, dr4, tt1, tt2, tt3, zd_cons, zd_nil, zd_nil', wTy, aA, aB, List.replicate, aD, aE, aF, aG, if_true, ite_true, if_false, ite_false, true_and, and_true, cg, cgs, cgGet0, cgGetS, aH, aI, Nat.reduceAdd, Nat.zero_add, Nat.reduceLeDiff, cok_ss, cok_ii, cok_bb, cok_is, cok_si, iok, iokI, afl_s, afl_i, afl_n, bcc, bnc, bcn, bnn, ev_str, ev_int, ev_bl, aJ, aK, Nat.reduceBEq, Int.reduceBEq, aL, aM, aN, aO, aP, aQ, aR, aS, aT, aU, aV, beq_self_eq_true]
  refine ite_of (fun _ => ?_) (fun _ => ite_of (fun _ => ?_) (fun _ => h (f.2, f.1) h2 h1))
  · exact s_bentsum (by omega) hk h1 fun s hs => h (s, f.2) hs h2
  · exact s_bentsum (by omega) hk h2 fun s hs => h (f.1, s) h1 hs
theorem s_told {K : Nat} {a b c : D} {r s : Bool} {Q : D → Prop} (hK : 5 ≤ K) (hs : ∀ R : D → Prop, R (.bl r) → Phi tab cg (K - 1) 3 [a, b, c] R) (h : Q (.bl (r == s))) : Phi tab cg K 20 [a, b, c, .bl s] Q := by
  refine phi_goK rfl rfl (by omega) ?_
  have hF := Phi_mono (cg := cg) monoT (K - 1)
  unfold b_l_told
  refine asg_cut hF (fun t => t = .v (.bl r)) ?_ fun t e => ?_
  · simp only [wSs, wS, wE, wOp, wOs, wV, wI, wCs, wAnd, wOr, wP, wTg, wipeE, slot0, slotS, start0, d_v, d_ol, d_od, w_tup, w_lst, w_str, isB_bl, gl_tup, gl_str, gl_int, gin_d, gix_d, itOk, eFz, c_eq, c_ne, c_ltI, c_leI, c_gtI, c_geI, c_ltS, c_leS, c_gtS, c_geS, c_inS, c_niS, c_inT, c_niT, c_inL, c_niL, c_isN, c_isnotN, c_isB, c_isnotB, b_addI, b_addS, b_addT, b_addL, b_sub, b_mul, b_rep, b_pow, b_shl, b_mod, b_fdiv, i_str, i_tup, i_lst, k_str, k_tup, k_lst, n_str, n_tup, n_lst, n_all, n_any, n_listL, n_listT, n_listD, n_listS, n_lenD, n_sortL, n_sortD, n_intB, n_intI, n_tupL, n_tupT, m_join, m_split, r_join, r_split, n_max2, n_sortP, n_maxS, n_minS, n_min2, n_maxL, n_minL, n_sum, n_strI, n_strS, m_upper, m_index, r_upper, r_index, i_dS, i_dI, c_inD, c_niD, key_str, key_int, wPs, at0, at1, at2, at3, ct1, ct2, ct3, ct4, tk1, tk2, tk3, dr1, dr2, dr3, dr4, tt1, tt2, tt3, zd_cons, zd_nil, zd_nil', wTy, aA, aB, List.replicate, aD, aE, aF, aG, if_true, ite_true, if_false, ite_false, true_and, and_true, cg, cgs, cgGet0, cgGetS, aH, aI, Nat.reduceAdd, Nat.zero_add, Nat.reduceLeDiff, cok_ss, cok_ii, cok_bb, cok_is, cok_si, iok, iokI, afl_s, afl_i, afl_n, bcc, bnc, bcn, bnn, ev_str, ev_int, ev_bl, aJ, aK, Nat.reduceBEq, Int.reduceBEq, aL, aM, aN, aO, aP, aQ, aR, aS, aT, aU, aV, beq_self_eq_true]
    exact hs _ rfl
  subst e
  simp only [wSs, wS, wE, wOp, wOs, wV, wI, wCs, wAnd, wOr, wP, wTg, wipeE, slot0, slotS, start0, d_v, d_ol, d_od, w_tup, w_lst, w_str, isB_bl, gl_tup, gl_str, gl_int, gin_d, gix_d, itOk, eFz, c_eq, c_ne, c_ltI, c_leI, c_gtI, c_geI, c_ltS, c_leS, c_gtS, c_geS, c_inS, c_niS, c_inT, c_niT, c_inL, c_niL, c_isN, c_isnotN, c_isB, c_isnotB, b_addI, b_addS, b_addT, b_addL, b_sub, b_mul, b_rep, b_pow, b_shl, b_mod, b_fdiv, i_str, i_tup, i_lst, k_str, k_tup, k_lst, n_str, n_tup, n_lst, n_all, n_any, n_listL, n_listT, n_listD, n_listS, n_lenD, n_sortL, n_sortD, n_intB, n_intI, n_tupL, n_tupT, m_join, m_split, r_join, r_split, n_max2, n_sortP, n_maxS, n_minS, n_min2, n_maxL, n_minL, n_sum, n_strI, n_strS, m_upper, m_index, r_upper, r_index, i_dS, i_dI, c_inD, c_niD, key_str, key_int, wPs, at0, at1, at2, at3, ct1, ct2, ct3, ct4, tk1, tk2, tk3, dr1, dr2, dr3, dr4, tt1, tt2, tt3, zd_cons, zd_nil, zd_nil', wTy, aA, aB, List.replicate, aD, aE, aF, aG, if_true, ite_true, if_false, ite_false, true_and, and_true, cg, cgs, cgGet0, cgGetS, aH, aI, Nat.reduceAdd, Nat.zero_add, Nat.reduceLeDiff, cok_ss, cok_ii, cok_bb, cok_is, cok_si, iok, iokI, afl_s, afl_i, afl_n, bcc, bnc, bcn, bnn, ev_str, ev_int, ev_bl, aJ, aK, Nat.reduceBEq, Int.reduceBEq, aL, aM, aN, aO, aP, aQ, aR, aS, aT, aU, aV, beq_self_eq_true]
  revert h
  cases r <;> cases s <;> exact id
theorem rangeI (m : Nat) : rangeD 0 (m : Int) = (List.range m).map fun k => D.int (k : Nat) := by
  unfold rangeD
  rw [Int.sub_zero, Int.toNat_natCast]
  refine List.map_congr_left fun k _ => ?_
  rw [Int.zero_add]
def zat (qs : List ((Su × Su) × Int)) (cs : List (List Nat × Int)) (k : Nat) : Int := (qs[k]?.map fun q => q.2 * mr q.1 cs).getD 0
theorem zat_sum {qs : List ((Su × Su) × Int)} {cs : List (List Nat × Int)} {n : Nat} (h : n = qs.length) : ((List.range n).map (zat qs cs)).sum = zmr qs cs := by
  unfold zmr
  congr 1
  refine List.ext_getElem? fun i => ?_
  rw [List.getElem?_map, List.getElem?_map]
  by_cases hi : i < n
  · rw [List.getElem?_range hi]
    have hq : qs[i]? = some qs[i] := List.getElem?_eq_getElem (by omega)
    show some ((qs[i]?.map fun q => q.2 * mr q.1 cs).getD 0) = _
    rw [hq]
    rfl
  · rw [List.getElem?_eq_none (by rw [List.length_range]; omega), List.getElem?_eq_none (by omega)]
    rfl
section
variable {K : Nat} {ks : List (List Nat)} {ps : List (Su × Su)} {ts : List Int} {Q : D → Prop}
theorem s_built (hK : 9 ≤ K) (hne : [] ∉ ks) (hk : ks.length ≤ 10) (nd : ks.Nodup) (hs : ∀ p ∈ ps, SuK ks p.1 ∧ SuK ks p.2) (hl : ps.length = ts.length) (hl2 : ts.length ≤ 100) (ht : ∀ t ∈ ts, 0 ≤ t ∧ t ≤ 2 ^ 40)
    (h : ∀ f : Su × Su, SuK ks f.1 → SuK ks f.2 → sb ks f ps ts = true → Q (lsF f)) : Phi tab cg K 17 [.deck, .lst (ks.map D.str), .tup (ps.map lsF), .tup (ts.map D.int)] Q := by
  refine phi_goK rfl rfl (by omega) ?_
  have hF := Phi_mono (cg := cg) monoT (K - 1)
  have sz : ∀ p ∈ ps, p.1.ps.length ≤ 1000 ∧ p.2.ps.length ≤ 1000 := fun p hp => ⟨(hs p hp).1.le (by omega), (hs p hp).2.le (by omega)⟩
  have one : ∀ (k : Nat) (cs : List (List Nat × Int)), k ∈ List.range ps.length → ∃ p t, (ps.map lsF)[k]? = some (lsF p) ∧ (ts.map D.int)[k]? = some (.int t) ∧ (0 ≤ t ∧ t ≤ 2 ^ 40) ∧ (p.1.ps.length ≤ 1000 ∧ p.2.ps.length ≤ 1000) ∧ zat (ps.zip ts) cs k = t * mr p cs := fun k cs hk => by
    obtain ⟨p, t, g1, g2, g3⟩ := zip_at hl (List.mem_range.mp hk)
    refine ⟨p, t, by rw [List.getElem?_map, g1]; rfl, by rw [List.getElem?_map, g2]; rfl, ht t (List.mem_of_getElem? g2), sz p (List.mem_of_getElem? g1), ?_⟩
    unfold zat
    rw [g3]
    rfl
  have hz : ps.length = (ps.zip ts).length := by rw [List.length_zip]; omega
  generalize hN : zco (ps.zip ts) [] = N
  unfold b_l_built
  refine asg_cut hF (fun t => t = .v (.int N)) ?_ fun t e => ?_
  · simp only [wSs, wS, wE, wOp, wOs, wV, wI, wCs, wAnd, wOr, wP, wTg, wipeE, slot0, slotS, start0, d_v, d_ol, d_od, w_tup, w_lst, w_str, isB_bl, gl_tup, gl_str, gl_int, gin_d, gix_d, itOk, eFz, c_eq, c_ne, c_ltI, c_leI, c_gtI, c_geI, c_ltS, c_leS, c_gtS, c_geS, c_inS, c_niS, c_inT, c_niT, c_inL, c_niL, c_isN, c_isnotN, c_isB, c_isnotB, b_addI, b_addS, b_addT, b_addL, b_sub, b_mul, b_rep, b_pow, b_shl, b_mod, b_fdiv, i_str, i_tup, i_lst, k_str, k_tup, k_lst, n_str, n_tup, n_lst, n_all, n_any, n_listL, n_listT, n_listD, n_listS, n_lenD, n_sortL, n_sortD, n_intB, n_intI, n_tupL, n_tupT, m_join, m_split, r_join, r_split, n_max2, n_sortP, n_maxS, n_minS, n_min2, n_maxL, n_minL, n_sum, n_strI, n_strS, m_upper, m_index, r_upper, r_index, i_dS, i_dI, c_inD, c_niD, key_str, key_int, wPs, at0, at1, at2, at3, ct1, ct2, ct3, ct4, tk1, tk2, tk3, dr1, dr2, dr3, dr4, tt1, tt2, tt3, zd_cons, zd_nil, zd_nil', wTy, aA, aB, List.replicate, aD, aE, aF, aG, if_true, ite_true, if_false, ite_false, true_and, and_true, cg, cgs, cgGet0, cgGetS, aH, aI, Nat.reduceAdd, Nat.zero_add, Nat.reduceLeDiff, cok_ss, cok_ii, cok_bb, cok_is, cok_si, iok, iokI, afl_s, afl_i, afl_n, bcc, bnc, bcn, bnn, ev_str, ev_int, ev_bl, aJ, aK, Nat.reduceBEq, Int.reduceBEq, aL, aM, aN, aO, aP, aQ, aR, aS, aT, aU, aV, beq_self_eq_true, List.length_map]
    refine ⟨⟨by omega, by omega⟩, ?_⟩
    rw [rangeI]
    refine ⟨by rw [List.length_map, List.length_range]; omega, wLc_mapT (u := fun k => D.int (k : Nat)) (v := fun k => .int (zat (ps.zip ts) [] k)) (List.range ps.length) (fun k hk q hq => ?_) ?_⟩
    · obtain ⟨p, t, g1, g2, g3, g4, g5⟩ := one k [] hk
      simp only [atI_nn g1, atI_nn g2, wSs, wS, wE, wOp, wOs, wV, wI, wCs, wAnd, wOr, wP, wTg, wipeE, slot0, slotS, start0, d_v, d_ol, d_od, w_tup, w_lst, w_str, isB_bl, gl_tup, gl_str, gl_int, gin_d, gix_d, itOk, eFz, c_eq, c_ne, c_ltI, c_leI, c_gtI, c_geI, c_ltS, c_leS, c_gtS, c_geS, c_inS, c_niS, c_inT, c_niT, c_inL, c_niL, c_isN, c_isnotN, c_isB, c_isnotB, b_addI, b_addS, b_addT, b_addL, b_sub, b_mul, b_rep, b_pow, b_shl, b_mod, b_fdiv, i_str, i_tup, i_lst, k_str, k_tup, k_lst, n_str, n_tup, n_lst, n_all, n_any, n_listL, n_listT, n_listD, n_listS, n_lenD, n_sortL, n_sortD, n_intB, n_intI, n_tupL, n_tupT, m_join, m_split, r_join, r_split, n_max2, n_sortP, n_maxS, n_minS, n_min2, n_maxL, n_minL, n_sum, n_strI, n_strS, m_upper, m_index, r_upper, r_index, i_dS, i_dI, c_inD, c_niD, key_str, key_int, wPs, at0, at1, at2, at3, ct1, ct2, ct3, ct4, tk1, tk2, tk3, dr1, dr2, dr3, dr4, tt1, tt2, tt3, zd_cons, zd_nil, zd_nil', wTy, aA, aB, List.replicate, aD, aE, aF, aG, if_true, ite_true, if_false, ite_false, true_and, and_true, cg, cgs, cgGet0, cgGetS, aH, aI, Nat.reduceAdd, Nat.zero_add, Nat.reduceLeDiff, cok_ss, cok_ii, cok_bb, cok_is, cok_si, iok, iokI, afl_s, afl_i, afl_n, bcc, bnc, bcn, bnn, ev_str, ev_int, ev_bl, aJ, aK, Nat.reduceBEq, Int.reduceBEq, aL, aM, aN, aO, aP, aQ, aR, aS, aT, aU, aV, beq_self_eq_true]
      refine s_more (cs := []) (by omega) g4 few0 ?_
      simp only [wSs, wS, wE, wOp, wOs, wV, wI, wCs, wAnd, wOr, wP, wTg, wipeE, slot0, slotS, start0, d_v, d_ol, d_od, w_tup, w_lst, w_str, isB_bl, gl_tup, gl_str, gl_int, gin_d, gix_d, itOk, eFz, c_eq, c_ne, c_ltI, c_leI, c_gtI, c_geI, c_ltS, c_leS, c_gtS, c_geS, c_inS, c_niS, c_inT, c_niT, c_inL, c_niL, c_isN, c_isnotN, c_isB, c_isnotB, b_addI, b_addS, b_addT, b_addL, b_sub, b_mul, b_rep, b_pow, b_shl, b_mod, b_fdiv, i_str, i_tup, i_lst, k_str, k_tup, k_lst, n_str, n_tup, n_lst, n_all, n_any, n_listL, n_listT, n_listD, n_listS, n_lenD, n_sortL, n_sortD, n_intB, n_intI, n_tupL, n_tupT, m_join, m_split, r_join, r_split, n_max2, n_sortP, n_maxS, n_minS, n_min2, n_maxL, n_minL, n_sum, n_strI, n_strS, m_upper, m_index, r_upper, r_index, i_dS, i_dI, c_inD, c_niD, key_str, key_int, wPs, at0, at1, at2, at3, ct1, ct2, ct3, ct4, tk1, tk2, tk3, dr1, dr2, dr3, dr4, tt1, tt2, tt3, zd_cons, zd_nil, zd_nil', wTy, aA, aB, List.replicate, aD, aE, aF, aG, if_true, ite_true, if_false, ite_false, true_and, and_true, cg, cgs, cgGet0, cgGetS, aH, aI, Nat.reduceAdd, Nat.zero_add, Nat.reduceLeDiff, cok_ss, cok_ii, cok_bb, cok_is, cok_si, iok, iokI, afl_s, afl_i, afl_n, bcc, bnc, bcn, bnn, ev_str, ev_int, ev_bl, aJ, aK, Nat.reduceBEq, Int.reduceBEq, aL, aM, aN, aO, aP, aQ, aR, aS, aT, aU, aV, beq_self_eq_true]
      refine ⟨.inl ⟨by omega, by omega⟩, ?_⟩
      rw [g5] at hq
      exact hq
    · refine ⟨_, ints_m, ?_⟩
      rw [zat_sum hz, zmr0, hN]
  subst e
  refine asg_cut hF (fun t => t = .od []) (by simp only [wSs, wS, wE, wOp, wOs, wV, wI, wCs, wAnd, wOr, wP, wTg, wipeE, slot0, slotS, start0, d_v, d_ol, d_od, w_tup, w_lst, w_str, isB_bl, gl_tup, gl_str, gl_int, gin_d, gix_d, itOk, eFz, c_eq, c_ne, c_ltI, c_leI, c_gtI, c_geI, c_ltS, c_leS, c_gtS, c_geS, c_inS, c_niS, c_inT, c_niT, c_inL, c_niL, c_isN, c_isnotN, c_isB, c_isnotB, b_addI, b_addS, b_addT, b_addL, b_sub, b_mul, b_rep, b_pow, b_shl, b_mod, b_fdiv, i_str, i_tup, i_lst, k_str, k_tup, k_lst, n_str, n_tup, n_lst, n_all, n_any, n_listL, n_listT, n_listD, n_listS, n_lenD, n_sortL, n_sortD, n_intB, n_intI, n_tupL, n_tupT, m_join, m_split, r_join, r_split, n_max2, n_sortP, n_maxS, n_minS, n_min2, n_maxL, n_minL, n_sum, n_strI, n_strS, m_upper, m_index, r_upper, r_index, i_dS, i_dI, c_inD, c_niD, key_str, key_int, wPs, at0, at1, at2, at3, ct1, ct2, ct3, ct4, tk1, tk2, tk3, dr1, dr2, dr3, dr4, tt1, tt2, tt3, zd_cons, zd_nil, zd_nil', wTy, aA, aB, List.replicate, aD, aE, aF, aG, if_true, ite_true, if_false, ite_false, true_and, and_true, cg, cgs, cgGet0, cgGetS, aH, aI, Nat.reduceAdd, Nat.zero_add, Nat.reduceLeDiff, cok_ss, cok_ii, cok_bb, cok_is, cok_si, iok, iokI, afl_s, afl_i, afl_n, bcc, bnc, bcn, bnn, ev_str, ev_int, ev_bl, aJ, aK, Nat.reduceBEq, Int.reduceBEq, aL, aM, aN, aO, aP, aQ, aR, aS, aT, aU, aV, beq_self_eq_true]) fun t e => ?_
  subst e
  refine asg_cut hF (fun t => t = .od []) (by simp only [wSs, wS, wE, wOp, wOs, wV, wI, wCs, wAnd, wOr, wP, wTg, wipeE, slot0, slotS, start0, d_v, d_ol, d_od, w_tup, w_lst, w_str, isB_bl, gl_tup, gl_str, gl_int, gin_d, gix_d, itOk, eFz, c_eq, c_ne, c_ltI, c_leI, c_gtI, c_geI, c_ltS, c_leS, c_gtS, c_geS, c_inS, c_niS, c_inT, c_niT, c_inL, c_niL, c_isN, c_isnotN, c_isB, c_isnotB, b_addI, b_addS, b_addT, b_addL, b_sub, b_mul, b_rep, b_pow, b_shl, b_mod, b_fdiv, i_str, i_tup, i_lst, k_str, k_tup, k_lst, n_str, n_tup, n_lst, n_all, n_any, n_listL, n_listT, n_listD, n_listS, n_lenD, n_sortL, n_sortD, n_intB, n_intI, n_tupL, n_tupT, m_join, m_split, r_join, r_split, n_max2, n_sortP, n_maxS, n_minS, n_min2, n_maxL, n_minL, n_sum, n_strI, n_strS, m_upper, m_index, r_upper, r_index, i_dS, i_dI, c_inD, c_niD, key_str, key_int, wPs, at0, at1, at2, at3, ct1, ct2, ct3, ct4, tk1, tk2, tk3, dr1, dr2, dr3, dr4, tt1, tt2, tt3, zd_cons, zd_nil, zd_nil', wTy, aA, aB, List.replicate, aD, aE, aF, aG, if_true, ite_true, if_false, ite_false, true_and, and_true, cg, cgs, cgGet0, cgGetS, aH, aI, Nat.reduceAdd, Nat.zero_add, Nat.reduceLeDiff, cok_ss, cok_ii, cok_bb, cok_is, cok_si, iok, iokI, afl_s, afl_i, afl_n, bcc, bnc, bcn, bnn, ev_str, ev_int, ev_bl, aJ, aK, Nat.reduceBEq, Int.reduceBEq, aL, aM, aN, aO, aP, aQ, aR, aS, aT, aU, aV, beq_self_eq_true]) fun t e => ?_
  subst e
  simp only [start0, List.map_cons, List.map_nil, List.replicate, List.cons_append, List.nil_append, List.set_cons_zero, List.set_cons_succ]
  refine ss_cut hF (fun env => ∃ (la lb : List (List Nat × Int)) (a7 a8 a10 : Option T), env = [some (.v (.deck)), some (.v (.lst (ks.map D.str))), some (.v (.tup (ps.map lsF))), some (.v (.tup (ts.map D.int))), some (.v (.int N)), some (.od (la.map ent)), some (.od (lb.map ent)), a7, a8, none, a10, none] ∧ LK ks la ∧ LK ks lb ∧ ∀ x ∈ ks, 0 ≤ gx la x ∧ 0 ≤ gx lb x ∧ zco (ps.zip ts) x ≤ gx la x - gx lb x) (fors_idx hF trivial ?_) fun env ⟨la, lb, a7, a8, a10, e, hla, hlb, hx⟩ => ?_
  · simp only [wSs, wS, wE, wOp, wOs, wV, wI, wCs, wAnd, wOr, wP, wTg, wipeE, slot0, slotS, start0, d_v, d_ol, d_od, w_tup, w_lst, w_str, isB_bl, gl_tup, gl_str, gl_int, gin_d, gix_d, itOk, eFz, c_eq, c_ne, c_ltI, c_leI, c_gtI, c_geI, c_ltS, c_leS, c_gtS, c_geS, c_inS, c_niS, c_inT, c_niT, c_inL, c_niL, c_isN, c_isnotN, c_isB, c_isnotB, b_addI, b_addS, b_addT, b_addL, b_sub, b_mul, b_rep, b_pow, b_shl, b_mod, b_fdiv, i_str, i_tup, i_lst, k_str, k_tup, k_lst, n_str, n_tup, n_lst, n_all, n_any, n_listL, n_listT, n_listD, n_listS, n_lenD, n_sortL, n_sortD, n_intB, n_intI, n_tupL, n_tupT, m_join, m_split, r_join, r_split, n_max2, n_sortP, n_maxS, n_minS, n_min2, n_maxL, n_minL, n_sum, n_strI, n_strS, m_upper, m_index, r_upper, r_index, i_dS, i_dI, c_inD, c_niD, key_str, key_int, wPs, at0, at1, at2, at3, ct1, ct2, ct3, ct4, tk1, tk2, tk3, dr1, dr2, dr3, dr4, tt1, tt2, tt3, zd_cons, zd_nil, zd_nil', wTy, aA, aB, List.replicate, aD, aE, aF, aG, if_true, ite_true, if_false, ite_false, true_and, and_true, cg, cgs, cgGet0, cgGetS, aH, aI, Nat.reduceAdd, Nat.zero_add, Nat.reduceLeDiff, cok_ss, cok_ii, cok_bb, cok_is, cok_si, iok, iokI, afl_s, afl_i, afl_n, bcc, bnc, bcn, bnn, ev_str, ev_int, ev_bl, aJ, aK, Nat.reduceBEq, Int.reduceBEq, aL, aM, aN, aO, aP, aQ, aR, aS, aT, aU, aV, beq_self_eq_true]
    refine ⟨fun i env => ∃ (la lb : List (List Nat × Int)) (a7 a8 a10 : Option T), env = [some (.v (.deck)), some (.v (.lst (ks.map D.str))), some (.v (.tup (ps.map lsF))), some (.v (.tup (ts.map D.int))), some (.v (.int N)), some (.od (la.map ent)), some (.od (lb.map ent)), a7, a8, none, a10, none] ∧ LK ks la ∧ LK ks lb ∧ ∀ x ∈ ks.take i, 0 ≤ gx la x ∧ 0 ≤ gx lb x ∧ zco (ps.zip ts) x ≤ gx la x - gx lb x, ⟨[], [], _, _, _, rfl, ⟨.nil, fun _ z => nomatch z⟩, ⟨.nil, fun _ z => nomatch z⟩, fun _ z => by rw [List.take_zero] at z; nomatch z⟩, fun i d hd env hi => ?_, fun env he => ?_⟩
    · obtain ⟨la, lb, a7, a8, a10, rfl, hla, hlb, hx⟩ := hi
      rw [List.getElem?_map] at hd
      obtain ⟨x, hxi, rfl⟩ := Option.map_eq_some_iff.mp hd
      have hxk := List.mem_of_getElem? hxi
      have hx0 : x ≠ [] := fun z => hne (z ▸ hxk)
      have hnew : ∀ y ∈ ks.take i, y ≠ x := fun y hy e => by
        have h2 := nd
        rw [← List.take_append_drop i ks, List.nodup_append] at h2
        have h3 : x ∈ ks.drop i := by
          have : (ks.drop i)[0]? = some x := by rw [List.getElem?_drop, Nat.add_zero]; exact hxi
          exact List.mem_of_getElem? this
        exact h2.2.2 y hy x h3 e
      refine ⟨_, rfl, ?_⟩
      generalize hM : zco (ps.zip ts) x = M at *
      unfold b_l_built_1
      refine asg_cut hF (fun t => t = .v (.int M)) ?_ fun t e => ?_
      · simp only [wSs, wS, wE, wOp, wOs, wV, wI, wCs, wAnd, wOr, wP, wTg, wipeE, slot0, slotS, start0, d_v, d_ol, d_od, w_tup, w_lst, w_str, isB_bl, gl_tup, gl_str, gl_int, gin_d, gix_d, itOk, eFz, c_eq, c_ne, c_ltI, c_leI, c_gtI, c_geI, c_ltS, c_leS, c_gtS, c_geS, c_inS, c_niS, c_inT, c_niT, c_inL, c_niL, c_isN, c_isnotN, c_isB, c_isnotB, b_addI, b_addS, b_addT, b_addL, b_sub, b_mul, b_rep, b_pow, b_shl, b_mod, b_fdiv, i_str, i_tup, i_lst, k_str, k_tup, k_lst, n_str, n_tup, n_lst, n_all, n_any, n_listL, n_listT, n_listD, n_listS, n_lenD, n_sortL, n_sortD, n_intB, n_intI, n_tupL, n_tupT, m_join, m_split, r_join, r_split, n_max2, n_sortP, n_maxS, n_minS, n_min2, n_maxL, n_minL, n_sum, n_strI, n_strS, m_upper, m_index, r_upper, r_index, i_dS, i_dI, c_inD, c_niD, key_str, key_int, wPs, at0, at1, at2, at3, ct1, ct2, ct3, ct4, tk1, tk2, tk3, dr1, dr2, dr3, dr4, tt1, tt2, tt3, zd_cons, zd_nil, zd_nil', wTy, aA, aB, List.replicate, aD, aE, aF, aG, if_true, ite_true, if_false, ite_false, true_and, and_true, cg, cgs, cgGet0, cgGetS, aH, aI, Nat.reduceAdd, Nat.zero_add, Nat.reduceLeDiff, cok_ss, cok_ii, cok_bb, cok_is, cok_si, iok, iokI, afl_s, afl_i, afl_n, bcc, bnc, bcn, bnn, ev_str, ev_int, ev_bl, aJ, aK, Nat.reduceBEq, Int.reduceBEq, aL, aM, aN, aO, aP, aQ, aR, aS, aT, aU, aV, beq_self_eq_true, List.length_map]
        refine ⟨⟨by omega, by omega⟩, ?_⟩
        rw [rangeI]
        refine ⟨by rw [List.length_map, List.length_range]; omega, wLc_mapT (u := fun k => D.int (k : Nat)) (v := fun k => .int (zat (ps.zip ts) [(x, 1)] k)) (List.range ps.length) (fun k hk q hq => ?_) ?_⟩
        · obtain ⟨p, t, g1, g2, g3, g4, g5⟩ := one k [(x, 1)] hk
          simp only [atI_nn g1, atI_nn g2, wSs, wS, wE, wOp, wOs, wV, wI, wCs, wAnd, wOr, wP, wTg, wipeE, slot0, slotS, start0, d_v, d_ol, d_od, w_tup, w_lst, w_str, isB_bl, gl_tup, gl_str, gl_int, gin_d, gix_d, itOk, eFz, c_eq, c_ne, c_ltI, c_leI, c_gtI, c_geI, c_ltS, c_leS, c_gtS, c_geS, c_inS, c_niS, c_inT, c_niT, c_inL, c_niL, c_isN, c_isnotN, c_isB, c_isnotB, b_addI, b_addS, b_addT, b_addL, b_sub, b_mul, b_rep, b_pow, b_shl, b_mod, b_fdiv, i_str, i_tup, i_lst, k_str, k_tup, k_lst, n_str, n_tup, n_lst, n_all, n_any, n_listL, n_listT, n_listD, n_listS, n_lenD, n_sortL, n_sortD, n_intB, n_intI, n_tupL, n_tupT, m_join, m_split, r_join, r_split, n_max2, n_sortP, n_maxS, n_minS, n_min2, n_maxL, n_minL, n_sum, n_strI, n_strS, m_upper, m_index, r_upper, r_index, i_dS, i_dI, c_inD, c_niD, key_str, key_int, wPs, at0, at1, at2, at3, ct1, ct2, ct3, ct4, tk1, tk2, tk3, dr1, dr2, dr3, dr4, tt1, tt2, tt3, zd_cons, zd_nil, zd_nil', wTy, aA, aB, List.replicate, aD, aE, aF, aG, if_true, ite_true, if_false, ite_false, true_and, and_true, cg, cgs, cgGet0, cgGetS, aH, aI, Nat.reduceAdd, Nat.zero_add, Nat.reduceLeDiff, cok_ss, cok_ii, cok_bb, cok_is, cok_si, iok, iokI, afl_s, afl_i, afl_n, bcc, bnc, bcn, bnn, ev_str, ev_int, ev_bl, aJ, aK, Nat.reduceBEq, Int.reduceBEq, aL, aM, aN, aO, aP, aQ, aR, aS, aT, aU, aV, beq_self_eq_true]
          refine s_more (cs := [(x, 1)]) (by omega) g4 (few1 x) ?_
          simp only [wSs, wS, wE, wOp, wOs, wV, wI, wCs, wAnd, wOr, wP, wTg, wipeE, slot0, slotS, start0, d_v, d_ol, d_od, w_tup, w_lst, w_str, isB_bl, gl_tup, gl_str, gl_int, gin_d, gix_d, itOk, eFz, c_eq, c_ne, c_ltI, c_leI, c_gtI, c_geI, c_ltS, c_leS, c_gtS, c_geS, c_inS, c_niS, c_inT, c_niT, c_inL, c_niL, c_isN, c_isnotN, c_isB, c_isnotB, b_addI, b_addS, b_addT, b_addL, b_sub, b_mul, b_rep, b_pow, b_shl, b_mod, b_fdiv, i_str, i_tup, i_lst, k_str, k_tup, k_lst, n_str, n_tup, n_lst, n_all, n_any, n_listL, n_listT, n_listD, n_listS, n_lenD, n_sortL, n_sortD, n_intB, n_intI, n_tupL, n_tupT, m_join, m_split, r_join, r_split, n_max2, n_sortP, n_maxS, n_minS, n_min2, n_maxL, n_minL, n_sum, n_strI, n_strS, m_upper, m_index, r_upper, r_index, i_dS, i_dI, c_inD, c_niD, key_str, key_int, wPs, at0, at1, at2, at3, ct1, ct2, ct3, ct4, tk1, tk2, tk3, dr1, dr2, dr3, dr4, tt1, tt2, tt3, zd_cons, zd_nil, zd_nil', wTy, aA, aB, List.replicate, aD, aE, aF, aG, if_true, ite_true, if_false, ite_false, true_and, and_true, cg, cgs, cgGet0, cgGetS, aH, aI, Nat.reduceAdd, Nat.zero_add, Nat.reduceLeDiff, cok_ss, cok_ii, cok_bb, cok_is, cok_si, iok, iokI, afl_s, afl_i, afl_n, bcc, bnc, bcn, bnn, ev_str, ev_int, ev_bl, aJ, aK, Nat.reduceBEq, Int.reduceBEq, aL, aM, aN, aO, aP, aQ, aR, aS, aT, aU, aV, beq_self_eq_true]
          refine ⟨.inl ⟨by omega, by omega⟩, ?_⟩
          rw [g5] at hq
          exact hq
        · refine ⟨_, ints_m, ?_⟩
          rw [zat_sum hz, zmr1 hx0, hN, hM]
          have : N + M - N = M := by omega
          rw [this]
      subst e
      refine asg_cut hF (fun t => ∃ z : Int, t = .v (.int z) ∧ 0 ≤ z) ?_ fun t ⟨m, e, hm⟩ => ?_
      · simp only [wSs, wS, wE, wOp, wOs, wV, wI, wCs, wAnd, wOr, wP, wTg, wipeE, slot0, slotS, start0, d_v, d_ol, d_od, w_tup, w_lst, w_str, isB_bl, gl_tup, gl_str, gl_int, gin_d, gix_d, itOk, eFz, c_eq, c_ne, c_ltI, c_leI, c_gtI, c_geI, c_ltS, c_leS, c_gtS, c_geS, c_inS, c_niS, c_inT, c_niT, c_inL, c_niL, c_isN, c_isnotN, c_isB, c_isnotB, b_addI, b_addS, b_addT, b_addL, b_sub, b_mul, b_rep, b_pow, b_shl, b_mod, b_fdiv, i_str, i_tup, i_lst, k_str, k_tup, k_lst, n_str, n_tup, n_lst, n_all, n_any, n_listL, n_listT, n_listD, n_listS, n_lenD, n_sortL, n_sortD, n_intB, n_intI, n_tupL, n_tupT, m_join, m_split, r_join, r_split, n_max2, n_sortP, n_maxS, n_minS, n_min2, n_maxL, n_minL, n_sum, n_strI, n_strS, m_upper, m_index, r_upper, r_index, i_dS, i_dI, c_inD, c_niD, key_str, key_int, wPs, at0, at1, at2, at3, ct1, ct2, ct3, ct4, tk1, tk2, tk3, dr1, dr2, dr3, dr4, tt1, tt2, tt3, zd_cons, zd_nil, zd_nil', wTy, aA, aB, List.replicate, aD, aE, aF, aG, if_true, ite_true, if_false, ite_false, true_and, and_true, cg, cgs, cgGet0, cgGetS, aH, aI, Nat.reduceAdd, Nat.zero_add, Nat.reduceLeDiff, cok_ss, cok_ii, cok_bb, cok_is, cok_si, iok, iokI, afl_s, afl_i, afl_n, bcc, bnc, bcn, bnn, ev_str, ev_int, ev_bl, aJ, aK, Nat.reduceBEq, Int.reduceBEq, aL, aM, aN, aO, aP, aQ, aR, aS, aT, aU, aV, beq_self_eq_true]
        exact s_draw (by omega) (by decide) (by decide) fun w w0 w1 => ixThree w0 w1 ⟨_, rfl, by decide⟩ ⟨_, rfl, by decide⟩ ⟨_, rfl, by decide⟩
      subst e
      have hA := hla.len
      have hB := hlb.len
      have ha2 := hla.put (x := x) (v := (if M > 0 then M else 0) + m) hxk
      have hb2 := hlb.put (x := x) (v := (if 0 - M > 0 then 0 - M else 0) + m) hxk
      simp only [List.set_cons_zero, List.set_cons_succ]
      refine ss_cut hF (fun env => env = [some (.v (.deck)), some (.v (.lst (ks.map D.str))), some (.v (.tup (ps.map lsF))), some (.v (.tup (ts.map D.int))), some (.v (.int N)), some (.od ((tput la x ((if M > 0 then M else 0) + m)).map ent)), some (.od (lb.map ent)), some (.v (.str x)), some (.v (.int m)), none, some (.v (.int M)), none]) ?_ fun env e => ?_
      · simp only [wSs, wS, wE, wOp, wOs, wV, wI, wCs, wAnd, wOr, wP, wTg, wipeE, slot0, slotS, start0, d_v, d_ol, d_od, w_tup, w_lst, w_str, isB_bl, gl_tup, gl_str, gl_int, gin_d, gix_d, itOk, eFz, c_eq, c_ne, c_ltI, c_leI, c_gtI, c_geI, c_ltS, c_leS, c_gtS, c_geS, c_inS, c_niS, c_inT, c_niT, c_inL, c_niL, c_isN, c_isnotN, c_isB, c_isnotB, b_addI, b_addS, b_addT, b_addL, b_sub, b_mul, b_rep, b_pow, b_shl, b_mod, b_fdiv, i_str, i_tup, i_lst, k_str, k_tup, k_lst, n_str, n_tup, n_lst, n_all, n_any, n_listL, n_listT, n_listD, n_listS, n_lenD, n_sortL, n_sortD, n_intB, n_intI, n_tupL, n_tupT, m_join, m_split, r_join, r_split, n_max2, n_sortP, n_maxS, n_minS, n_min2, n_maxL, n_minL, n_sum, n_strI, n_strS, m_upper, m_index, r_upper, r_index, i_dS, i_dI, c_inD, c_niD, key_str, key_int, wPs, at0, at1, at2, at3, ct1, ct2, ct3, ct4, tk1, tk2, tk3, dr1, dr2, dr3, dr4, tt1, tt2, tt3, zd_cons, zd_nil, zd_nil', wTy, aA, aB, List.replicate, aD, aE, aF, aG, if_true, ite_true, if_false, ite_false, true_and, and_true, cg, cgs, cgGet0, cgGetS, aH, aI, Nat.reduceAdd, Nat.zero_add, Nat.reduceLeDiff, cok_ss, cok_ii, cok_bb, cok_is, cok_si, iok, iokI, afl_s, afl_i, afl_n, bcc, bnc, bcn, bnn, ev_str, ev_int, ev_bl, aJ, aK, Nat.reduceBEq, Int.reduceBEq, aL, aM, aN, aO, aP, aQ, aR, aS, aT, aU, aV, beq_self_eq_true, List.length_map, kput_t hla.1]
        first | omega | exact ⟨by omega, rfl⟩
      subst e
      refine ss_cut hF (fun env => env = [some (.v (.deck)), some (.v (.lst (ks.map D.str))), some (.v (.tup (ps.map lsF))), some (.v (.tup (ts.map D.int))), some (.v (.int N)), some (.od ((tput la x ((if M > 0 then M else 0) + m)).map ent)), some (.od ((tput lb x ((if 0 - M > 0 then 0 - M else 0) + m)).map ent)), some (.v (.str x)), some (.v (.int m)), none, some (.v (.int M)), none]) ?_ fun env e => ?_
      · simp only [wSs, wS, wE, wOp, wOs, wV, wI, wCs, wAnd, wOr, wP, wTg, wipeE, slot0, slotS, start0, d_v, d_ol, d_od, w_tup, w_lst, w_str, isB_bl, gl_tup, gl_str, gl_int, gin_d, gix_d, itOk, eFz, c_eq, c_ne, c_ltI, c_leI, c_gtI, c_geI, c_ltS, c_leS, c_gtS, c_geS, c_inS, c_niS, c_inT, c_niT, c_inL, c_niL, c_isN, c_isnotN, c_isB, c_isnotB, b_addI, b_addS, b_addT, b_addL, b_sub, b_mul, b_rep, b_pow, b_shl, b_mod, b_fdiv, i_str, i_tup, i_lst, k_str, k_tup, k_lst, n_str, n_tup, n_lst, n_all, n_any, n_listL, n_listT, n_listD, n_listS, n_lenD, n_sortL, n_sortD, n_intB, n_intI, n_tupL, n_tupT, m_join, m_split, r_join, r_split, n_max2, n_sortP, n_maxS, n_minS, n_min2, n_maxL, n_minL, n_sum, n_strI, n_strS, m_upper, m_index, r_upper, r_index, i_dS, i_dI, c_inD, c_niD, key_str, key_int, wPs, at0, at1, at2, at3, ct1, ct2, ct3, ct4, tk1, tk2, tk3, dr1, dr2, dr3, dr4, tt1, tt2, tt3, zd_cons, zd_nil, zd_nil', wTy, aA, aB, List.replicate, aD, aE, aF, aG, if_true, ite_true, if_false, ite_false, true_and, and_true, cg, cgs, cgGet0, cgGetS, aH, aI, Nat.reduceAdd, Nat.zero_add, Nat.reduceLeDiff, cok_ss, cok_ii, cok_bb, cok_is, cok_si, iok, iokI, afl_s, afl_i, afl_n, bcc, bnc, bcn, bnn, ev_str, ev_int, ev_bl, aJ, aK, Nat.reduceBEq, Int.reduceBEq, aL, aM, aN, aO, aP, aQ, aR, aS, aT, aU, aV, beq_self_eq_true, List.length_map, kput_t hlb.1]
        first | omega | exact ⟨by omega, rfl⟩
      subst e
      have old : ∀ (l : List (List Nat × Int)) (v : Int) y, y ∈ ks.take i → gx (tput l x v) y = gx l y := fun l v y hy => by rw [gx_put, if_neg (Ne.symm (hnew y hy))]
      have new : ∀ (l : List (List Nat × Int)) (v : Int), gx (tput l x v) x = v := fun l v => by rw [gx_put, if_pos rfl]
      have key : ∀ z : Int, 0 ≤ z → ∀ y ∈ ks.take (i + 1), 0 ≤ gx (tput (tput la x ((if M > 0 then M else 0) + m)) x ((if M > 0 then M else 0) + m + z)) y ∧ 0 ≤ gx (tput lb x ((if 0 - M > 0 then 0 - M else 0) + m)) y ∧ zco (ps.zip ts) y ≤ gx (tput (tput la x ((if M > 0 then M else 0) + m)) x ((if M > 0 then M else 0) + m + z)) y - gx (tput lb x ((if 0 - M > 0 then 0 - M else 0) + m)) y := fun z hz y hy => by
        rw [take_snoc hxi] at hy
        rcases List.mem_append.mp hy with hy | hy
        · rw [old _ _ y hy, old _ _ y hy, old _ _ y hy]
          exact hx y hy
        · rw [List.mem_singleton.mp hy, new, new, hM]
          by_cases c1 : M > 0
          · rw [if_pos c1, if_neg (by omega)]
            omega
          · rw [if_neg c1]
            by_cases c2 : 0 - M > 0
            · rw [if_pos c2]
              omega
            · rw [if_neg c2]
              omega
      have key0 : ∀ y ∈ ks.take (i + 1), 0 ≤ gx (tput la x ((if M > 0 then M else 0) + m)) y ∧ 0 ≤ gx (tput lb x ((if 0 - M > 0 then 0 - M else 0) + m)) y ∧ zco (ps.zip ts) y ≤ gx (tput la x ((if M > 0 then M else 0) + m)) y - gx (tput lb x ((if 0 - M > 0 then 0 - M else 0) + m)) y := fun y hy => by
        have := key 0 (by decide) y hy
        have e : gx (tput (tput la x ((if M > 0 then M else 0) + m)) x ((if M > 0 then M else 0) + m + 0)) y = gx (tput la x ((if M > 0 then M else 0) + m)) y := by
          rw [gx_put, gx_put, Int.add_zero]
          split <;> rfl
        rw [e] at this
        exact this
      have hv : kget ((tput la x ((if M > 0 then M else 0) + m)).map ent) (.inr (mkS x)) = some (.int ((if M > 0 then M else 0) + m)) := by
        rw [kget_t, tget_put, if_pos rfl]
        rfl
      have hA2 := ha2.len
      simp only [wSs, wS, wE, wOp, wOs, wV, wI, wCs, wAnd, wOr, wP, wTg, wipeE, slot0, slotS, start0, d_v, d_ol, d_od, w_tup, w_lst, w_str, isB_bl, gl_tup, gl_str, gl_int, gin_d, gix_d, itOk, eFz, c_eq, c_ne, c_ltI, c_leI, c_gtI, c_geI, c_ltS, c_leS, c_gtS, c_geS, c_inS, c_niS, c_inT, c_niT, c_inL, c_niL, c_isN, c_isnotN, c_isB, c_isnotB, b_addI, b_addS, b_addT, b_addL, b_sub, b_mul, b_rep, b_pow, b_shl, b_mod, b_fdiv, i_str, i_tup, i_lst, k_str, k_tup, k_lst, n_str, n_tup, n_lst, n_all, n_any, n_listL, n_listT, n_listD, n_listS, n_lenD, n_sortL, n_sortD, n_intB, n_intI, n_tupL, n_tupT, m_join, m_split, r_join, r_split, n_max2, n_sortP, n_maxS, n_minS, n_min2, n_maxL, n_minL, n_sum, n_strI, n_strS, m_upper, m_index, r_upper, r_index, i_dS, i_dI, c_inD, c_niD, key_str, key_int, wPs, at0, at1, at2, at3, ct1, ct2, ct3, ct4, tk1, tk2, tk3, dr1, dr2, dr3, dr4, tt1, tt2, tt3, zd_cons, zd_nil, zd_nil', wTy, aA, aB, List.replicate, aD, aE, aF, aG, if_true, ite_true, if_false, ite_false, true_and, and_true, cg, cgs, cgGet0, cgGetS, aH, aI, Nat.reduceAdd, Nat.zero_add, Nat.reduceLeDiff, cok_ss, cok_ii, cok_bb, cok_is, cok_si, iok, iokI, afl_s, afl_i, afl_n, bcc, bnc, bcn, bnn, ev_str, ev_int, ev_bl, aJ, aK, Nat.reduceBEq, Int.reduceBEq, aL, aM, aN, aO, aP, aQ, aR, aS, aT, aU, aV, beq_self_eq_true]
      refine s_draw (by omega) (by decide) (by decide) fun w w0 w1 => ?_
      simp only [wSs, wS, wE, wOp, wOs, wV, wI, wCs, wAnd, wOr, wP, wTg, wipeE, slot0, slotS, start0, d_v, d_ol, d_od, w_tup, w_lst, w_str, isB_bl, gl_tup, gl_str, gl_int, gin_d, gix_d, itOk, eFz, c_eq, c_ne, c_ltI, c_leI, c_gtI, c_geI, c_ltS, c_leS, c_gtS, c_geS, c_inS, c_niS, c_inT, c_niT, c_inL, c_niL, c_isN, c_isnotN, c_isB, c_isnotB, b_addI, b_addS, b_addT, b_addL, b_sub, b_mul, b_rep, b_pow, b_shl, b_mod, b_fdiv, i_str, i_tup, i_lst, k_str, k_tup, k_lst, n_str, n_tup, n_lst, n_all, n_any, n_listL, n_listT, n_listD, n_listS, n_lenD, n_sortL, n_sortD, n_intB, n_intI, n_tupL, n_tupT, m_join, m_split, r_join, r_split, n_max2, n_sortP, n_maxS, n_minS, n_min2, n_maxL, n_minL, n_sum, n_strI, n_strS, m_upper, m_index, r_upper, r_index, i_dS, i_dI, c_inD, c_niD, key_str, key_int, wPs, at0, at1, at2, at3, ct1, ct2, ct3, ct4, tk1, tk2, tk3, dr1, dr2, dr3, dr4, tt1, tt2, tt3, zd_cons, zd_nil, zd_nil', wTy, aA, aB, List.replicate, aD, aE, aF, aG, if_true, ite_true, if_false, ite_false, true_and, and_true, cg, cgs, cgGet0, cgGetS, aH, aI, Nat.reduceAdd, Nat.zero_add, Nat.reduceLeDiff, cok_ss, cok_ii, cok_bb, cok_is, cok_si, iok, iokI, afl_s, afl_i, afl_n, bcc, bnc, bcn, bnn, ev_str, ev_int, ev_bl, aJ, aK, Nat.reduceBEq, Int.reduceBEq, aL, aM, aN, aO, aP, aQ, aR, aS, aT, aU, aV, beq_self_eq_true]
      refine ite_of (fun _ => ?_) (fun _ => ⟨_, _, _, _, _, rfl, ha2, hb2, key0⟩)
      simp only [hv, List.length_map, wSs, wS, wE, wOp, wOs, wV, wI, wCs, wAnd, wOr, wP, wTg, wipeE, slot0, slotS, start0, d_v, d_ol, d_od, w_tup, w_lst, w_str, isB_bl, gl_tup, gl_str, gl_int, gin_d, gix_d, itOk, eFz, c_eq, c_ne, c_ltI, c_leI, c_gtI, c_geI, c_ltS, c_leS, c_gtS, c_geS, c_inS, c_niS, c_inT, c_niT, c_inL, c_niL, c_isN, c_isnotN, c_isB, c_isnotB, b_addI, b_addS, b_addT, b_addL, b_sub, b_mul, b_rep, b_pow, b_shl, b_mod, b_fdiv, i_str, i_tup, i_lst, k_str, k_tup, k_lst, n_str, n_tup, n_lst, n_all, n_any, n_listL, n_listT, n_listD, n_listS, n_lenD, n_sortL, n_sortD, n_intB, n_intI, n_tupL, n_tupT, m_join, m_split, r_join, r_split, n_max2, n_sortP, n_maxS, n_minS, n_min2, n_maxL, n_minL, n_sum, n_strI, n_strS, m_upper, m_index, r_upper, r_index, i_dS, i_dI, c_inD, c_niD, key_str, key_int, wPs, at0, at1, at2, at3, ct1, ct2, ct3, ct4, tk1, tk2, tk3, dr1, dr2, dr3, dr4, tt1, tt2, tt3, zd_cons, zd_nil, zd_nil', wTy, aA, aB, List.replicate, aD, aE, aF, aG, if_true, ite_true, if_false, ite_false, true_and, and_true, cg, cgs, cgGet0, cgGetS, aH, aI, Nat.reduceAdd, Nat.zero_add, Nat.reduceLeDiff, cok_ss, cok_ii, cok_bb, cok_is, cok_si, iok, iokI, afl_s, afl_i, afl_n, bcc, bnc, bcn, bnn, ev_str, ev_int, ev_bl, aJ, aK, Nat.reduceBEq, Int.reduceBEq, aL, aM, aN, aO, aP, aQ, aR, aS, aT, aU, aV, beq_self_eq_true]
      refine ⟨by omega, s_draw (by omega) (by decide) (by decide) fun z z0 z1 => ?_⟩
      simp only [kput_t ha2.1, wSs, wS, wE, wOp, wOs, wV, wI, wCs, wAnd, wOr, wP, wTg, wipeE, slot0, slotS, start0, d_v, d_ol, d_od, w_tup, w_lst, w_str, isB_bl, gl_tup, gl_str, gl_int, gin_d, gix_d, itOk, eFz, c_eq, c_ne, c_ltI, c_leI, c_gtI, c_geI, c_ltS, c_leS, c_gtS, c_geS, c_inS, c_niS, c_inT, c_niT, c_inL, c_niL, c_isN, c_isnotN, c_isB, c_isnotB, b_addI, b_addS, b_addT, b_addL, b_sub, b_mul, b_rep, b_pow, b_shl, b_mod, b_fdiv, i_str, i_tup, i_lst, k_str, k_tup, k_lst, n_str, n_tup, n_lst, n_all, n_any, n_listL, n_listT, n_listD, n_listS, n_lenD, n_sortL, n_sortD, n_intB, n_intI, n_tupL, n_tupT, m_join, m_split, r_join, r_split, n_max2, n_sortP, n_maxS, n_minS, n_min2, n_maxL, n_minL, n_sum, n_strI, n_strS, m_upper, m_index, r_upper, r_index, i_dS, i_dI, c_inD, c_niD, key_str, key_int, wPs, at0, at1, at2, at3, ct1, ct2, ct3, ct4, tk1, tk2, tk3, dr1, dr2, dr3, dr4, tt1, tt2, tt3, zd_cons, zd_nil, zd_nil', wTy, aA, aB, List.replicate, aD, aE, aF, aG, if_true, ite_true, if_false, ite_false, true_and, and_true, cg, cgs, cgGet0, cgGetS, aH, aI, Nat.reduceAdd, Nat.zero_add, Nat.reduceLeDiff, cok_ss, cok_ii, cok_bb, cok_is, cok_si, iok, iokI, afl_s, afl_i, afl_n, bcc, bnc, bcn, bnn, ev_str, ev_int, ev_bl, aJ, aK, Nat.reduceBEq, Int.reduceBEq, aL, aM, aN, aO, aP, aQ, aR, aS, aT, aU, aV, beq_self_eq_true]
      refine ⟨tput (tput la x ((if M > 0 then M else 0) + m)) x ((if M > 0 then M else 0) + m + (1 + z)), _, some (.v (.str x)), some (.v (.int m)), some (.v (.int M)), ?_, ha2.put hxk, hb2, key (1 + z) (by omega)⟩
      rw [Int.add_assoc _ 1 z]
    · obtain ⟨la, lb, a7, a8, a10, rfl, hla, hlb, hx⟩ := he
      rw [List.length_map, List.take_length] at hx
      exact ⟨la, lb, _, _, _, rfl, hla, hlb, hx⟩
  subst e
  refine asg_cut hF (fun t => ∃ z : Int, t = .v (.int z)) ?_ fun t ⟨m, e⟩ => ?_
  · simp only [wSs, wS, wE, wOp, wOs, wV, wI, wCs, wAnd, wOr, wP, wTg, wipeE, slot0, slotS, start0, d_v, d_ol, d_od, w_tup, w_lst, w_str, isB_bl, gl_tup, gl_str, gl_int, gin_d, gix_d, itOk, eFz, c_eq, c_ne, c_ltI, c_leI, c_gtI, c_geI, c_ltS, c_leS, c_gtS, c_geS, c_inS, c_niS, c_inT, c_niT, c_inL, c_niL, c_isN, c_isnotN, c_isB, c_isnotB, b_addI, b_addS, b_addT, b_addL, b_sub, b_mul, b_rep, b_pow, b_shl, b_mod, b_fdiv, i_str, i_tup, i_lst, k_str, k_tup, k_lst, n_str, n_tup, n_lst, n_all, n_any, n_listL, n_listT, n_listD, n_listS, n_lenD, n_sortL, n_sortD, n_intB, n_intI, n_tupL, n_tupT, m_join, m_split, r_join, r_split, n_max2, n_sortP, n_maxS, n_minS, n_min2, n_maxL, n_minL, n_sum, n_strI, n_strS, m_upper, m_index, r_upper, r_index, i_dS, i_dI, c_inD, c_niD, key_str, key_int, wPs, at0, at1, at2, at3, ct1, ct2, ct3, ct4, tk1, tk2, tk3, dr1, dr2, dr3, dr4, tt1, tt2, tt3, zd_cons, zd_nil, zd_nil', wTy, aA, aB, List.replicate, aD, aE, aF, aG, if_true, ite_true, if_false, ite_false, true_and, and_true, cg, cgs, cgGet0, cgGetS, aH, aI, Nat.reduceAdd, Nat.zero_add, Nat.reduceLeDiff, cok_ss, cok_ii, cok_bb, cok_is, cok_si, iok, iokI, afl_s, afl_i, afl_n, bcc, bnc, bcn, bnn, ev_str, ev_int, ev_bl, aJ, aK, Nat.reduceBEq, Int.reduceBEq, aL, aM, aN, aO, aP, aQ, aR, aS, aT, aU, aV, beq_self_eq_true]
    exact s_draw (by omega) (by decide) (by decide) fun w w0 w1 => ixThree w0 w1 ⟨_, rfl⟩ ⟨_, rfl⟩ ⟨_, rfl⟩
  subst e
  refine asg_cut hF (fun t => ∃ z : Int, t = .v (.int ((if N > 0 then N else 0) + m + z)) ∧ 0 ≤ z) ?_ fun t ⟨z, e, hz0⟩ => ?_
  · simp only [wSs, wS, wE, wOp, wOs, wV, wI, wCs, wAnd, wOr, wP, wTg, wipeE, slot0, slotS, start0, d_v, d_ol, d_od, w_tup, w_lst, w_str, isB_bl, gl_tup, gl_str, gl_int, gin_d, gix_d, itOk, eFz, c_eq, c_ne, c_ltI, c_leI, c_gtI, c_geI, c_ltS, c_leS, c_gtS, c_geS, c_inS, c_niS, c_inT, c_niT, c_inL, c_niL, c_isN, c_isnotN, c_isB, c_isnotB, b_addI, b_addS, b_addT, b_addL, b_sub, b_mul, b_rep, b_pow, b_shl, b_mod, b_fdiv, i_str, i_tup, i_lst, k_str, k_tup, k_lst, n_str, n_tup, n_lst, n_all, n_any, n_listL, n_listT, n_listD, n_listS, n_lenD, n_sortL, n_sortD, n_intB, n_intI, n_tupL, n_tupT, m_join, m_split, r_join, r_split, n_max2, n_sortP, n_maxS, n_minS, n_min2, n_maxL, n_minL, n_sum, n_strI, n_strS, m_upper, m_index, r_upper, r_index, i_dS, i_dI, c_inD, c_niD, key_str, key_int, wPs, at0, at1, at2, at3, ct1, ct2, ct3, ct4, tk1, tk2, tk3, dr1, dr2, dr3, dr4, tt1, tt2, tt3, zd_cons, zd_nil, zd_nil', wTy, aA, aB, List.replicate, aD, aE, aF, aG, if_true, ite_true, if_false, ite_false, true_and, and_true, cg, cgs, cgGet0, cgGetS, aH, aI, Nat.reduceAdd, Nat.zero_add, Nat.reduceLeDiff, cok_ss, cok_ii, cok_bb, cok_is, cok_si, iok, iokI, afl_s, afl_i, afl_n, bcc, bnc, bcn, bnn, ev_str, ev_int, ev_bl, aJ, aK, Nat.reduceBEq, Int.reduceBEq, aL, aM, aN, aO, aP, aQ, aR, aS, aT, aU, aV, beq_self_eq_true]
    exact s_draw (by omega) (by decide) (by decide) fun w w0 w1 => ixThree w0 w1 ⟨0, rfl, by decide⟩ ⟨0, rfl, by decide⟩ ⟨2, rfl, by decide⟩
  subst e
  simp only [wSs, wS, wE, wOp, wOs, wV, wI, wCs, wAnd, wOr, wP, wTg, wipeE, slot0, slotS, start0, d_v, d_ol, d_od, w_tup, w_lst, w_str, isB_bl, gl_tup, gl_str, gl_int, gin_d, gix_d, itOk, eFz, c_eq, c_ne, c_ltI, c_leI, c_gtI, c_geI, c_ltS, c_leS, c_gtS, c_geS, c_inS, c_niS, c_inT, c_niT, c_inL, c_niL, c_isN, c_isnotN, c_isB, c_isnotB, b_addI, b_addS, b_addT, b_addL, b_sub, b_mul, b_rep, b_pow, b_shl, b_mod, b_fdiv, i_str, i_tup, i_lst, k_str, k_tup, k_lst, n_str, n_tup, n_lst, n_all, n_any, n_listL, n_listT, n_listD, n_listS, n_lenD, n_sortL, n_sortD, n_intB, n_intI, n_tupL, n_tupT, m_join, m_split, r_join, r_split, n_max2, n_sortP, n_maxS, n_minS, n_min2, n_maxL, n_minL, n_sum, n_strI, n_strS, m_upper, m_index, r_upper, r_index, i_dS, i_dI, c_inD, c_niD, key_str, key_int, wPs, at0, at1, at2, at3, ct1, ct2, ct3, ct4, tk1, tk2, tk3, dr1, dr2, dr3, dr4, tt1, tt2, tt3, zd_cons, zd_nil, zd_nil', wTy, aA, aB, List.replicate, aD, aE, aF, aG, if_true, ite_true, if_false, ite_false, true_and, and_true, cg, cgs, cgGet0, cgGetS, aH, aI, Nat.reduceAdd, Nat.zero_add, Nat.reduceLeDiff, cok_ss, cok_ii, cok_bb, cok_is, cok_si, iok, iokI, afl_s, afl_i, afl_n, bcc, bnc, bcn, bnn, ev_str, ev_int, ev_bl, aJ, aK, Nat.reduceBEq, Int.reduceBEq, aL, aM, aN, aO, aP, aQ, aR, aS, aT, aU, aV, beq_self_eq_true]
  refine s_side (by omega) hk hla fun s1 n1 k1 g1 => ?_
  refine s_side (by omega) hk hlb fun s2 n2 k2 g2 => h (s1, s2) k1 k2 ?_
  unfold sb
  rw [List.all_eq_true]
  intro x hm
  refine decide_eq_true ?_
  unfold dc dco co
  rcases List.mem_cons.mp hm with rfl | hm
  · rw [if_pos rfl, if_pos rfl, hN]
    show 0 ≤ s1.n - s2.n - N
    rw [n1, n2]
    by_cases c1 : N > 0
    · rw [if_pos c1, if_neg (by omega)]
      omega
    · rw [if_neg c1]
      by_cases c2 : 0 - N > 0
      · rw [if_pos c2]
        omega
      · rw [if_neg c2]
        omega
  · have hx0 : x ≠ [] := fun z => hne (z ▸ hm)
    obtain ⟨p1, p2, p3⟩ := hx x hm
    rw [if_neg hx0, if_neg hx0]
    show 0 ≤ psx s1.ps x - psx s2.ps x - _
    rw [g1, g2]
    have e1 : (if 0 < gx la x then gx la x else 0) = gx la x := by split <;> omega
    have e2 : (if 0 < gx lb x then gx lb x else 0) = gx lb x := by split <;> omega
    rw [e1, e2]
    omega
end
structure Inp (ks : List (List Nat)) (ps : List (Su × Su)) (ts : List Int) : Prop where
  s : ∀ p ∈ ps, SuK ks p.1 ∧ SuK ks p.2
  l : ps.length = ts.length
  l2 : ts.length ≤ 30
  t : ∀ t ∈ ts, 0 ≤ t ∧ t ≤ 2 ^ 40
abbrev tpF (ps : List (Su × Su)) : D := .tup (ps.map lsF)
abbrev tpI (ts : List Int) : D := .tup (ts.map D.int)
section
variable {K : Nat} {ks : List (List Nat)} {ps : List (Su × Su)} {ts : List Int} {Q : D → Prop} {f : Su × Su}
theorem told_due (hK : 6 ≤ K) (hne : [] ∉ ks) (hk : ks.length ≤ 10) (h : Inp ks ps ts) (hf : SuK ks f.1 ∧ SuK ks f.2) (hq : Q (.bl true)) : Phi tab cg K 20 [lsF f, tpF ps, tpI ts, .bl (sb ks f ps ts)] Q := by
  have hs : ∀ p ∈ f :: ps, SuK ks p.1 ∧ SuK ks p.2 := fun p hp => (List.mem_cons.mp hp).elim (fun e => e ▸ hf) (h.s p)
  have := h.l2
  refine s_told (by omega) (fun R hr => s_summed hne (by omega) hs h.l (by omega) h.t (by omega) hr) ?_
  rw [beq_self_eq_true]
  exact hq
theorem due_of (hK : 6 ≤ K) (hne : [] ∉ ks) (hk : ks.length ≤ 10) (h : Inp ks ps ts) (hf : SuK ks f.1 ∧ SuK ks f.2) (hq : Q (.bl (sb ks f ps ts))) : Phi tab cg K 15 [lsF f, tpF ps, tpI ts, .lst (ks.map D.str)] Q := by
  have hs : ∀ p ∈ f :: ps, SuK ks p.1 ∧ SuK ks p.2 := fun p hp => (List.mem_cons.mp hp).elim (fun e => e ▸ hf) (h.s p)
  have := h.l2
  exact s_due (by omega) hne (by omega) hs h.l (by omega) h.t hq
def Odd (d : D) : Prop := ∃ x l, d = .tup (.str x :: l) ∧ x ≠ cLeast
def pr (p : Su × Su) : D × List D := (.str cLeast, [p.1.dk, p.2.dk])
theorem lsF_map (ps : List (Su × Su)) : tpF ps = .tup ((ps.map pr).map fun p => .tup (p.1 :: p.2)) := by
  rw [List.map_map]
  rfl
theorem told_odd1 (hK : 6 ≤ K) {d : D} (hd : Odd d) (h : Inp ks ps ts) (hq : Q (.bl true)) : Phi tab cg K 20 [d, tpF ps, tpI ts, .bl false] Q := by
  obtain ⟨x, l, rfl, hx⟩ := hd
  have := h.l2
  have := h.l
  refine s_told (r := false) (by omega) (fun R hr => ?_) hq
  rw [lsF_map]
  refine s_summedN (f := (.str x, l)) (by rw [List.length_map]; omega) (by rw [List.length_map]; omega) (fun t ht => (h.t t ht).1) (fun p hp => ?_) ⟨_, List.mem_cons_self, fun z => hx (D.str.inj z)⟩ (by omega) hr
  rcases List.mem_cons.mp hp with rfl | hp
  · exact ⟨x, rfl⟩
  · obtain ⟨q, _, rfl⟩ := List.mem_map.mp hp
    exact ⟨_, rfl⟩
theorem told_odd2 (hK : 6 ≤ K) {d : D} {y : Int} (hd : Odd d) (hy : 0 ≤ y) (h : Inp ks ps ts) (hq : Q (.bl true)) : Phi tab cg K 20 [lsF f, .tup (ps.map lsF ++ [d]), .tup (ts.map D.int ++ [.int y]), .bl false] Q := by
  obtain ⟨x, l, rfl, hx⟩ := hd
  have := h.l2
  have := h.l
  refine s_told (r := false) (by omega) (fun R hr => ?_) hq
  have e1 : ps.map lsF ++ [.tup (.str x :: l)] = (ps.map pr ++ [((.str x : D), l)]).map fun p => .tup (p.1 :: p.2) := by
    rw [List.map_append, List.map_map]
    rfl
  have e2 : ts.map D.int ++ [.int y] = (ts ++ [y]).map D.int := by rw [List.map_append]; rfl
  rw [e1, e2]
  refine s_summedN (f := (.str cLeast, [f.1.dk, f.2.dk])) (by rw [List.length_append, List.length_map, List.length_singleton]; omega) (by rw [List.length_append, List.length_append, List.length_map, List.length_singleton, List.length_singleton]; omega) (fun t ht => ?_) (fun p hp => ?_) ⟨(.str x, l), by simp, fun z => hx (D.str.inj z)⟩ (by omega) hr
  · rcases List.mem_append.mp ht with ht | ht
    · exact (h.t t ht).1
    · rw [List.mem_singleton.mp ht]; exact hy
  · rcases List.mem_cons.mp hp with rfl | hp
    · exact ⟨_, rfl⟩
    · rcases List.mem_append.mp hp with hp | hp
      · obtain ⟨q, _, rfl⟩ := List.mem_map.mp hp
        exact ⟨_, rfl⟩
      · rw [List.mem_singleton.mp hp]
        exact ⟨_, rfl⟩
end
theorem ixFour {a b c d : D} {n : Int} {R : D → Prop} (n0 : 0 ≤ n) (n1 : n < 4) (h1 : R a) (h2 : R b) (h3 : R c) (h4 : R d) : wIx (.lst [a, b, c, d]) (.int n) R := by
  obtain ⟨x, e, m⟩ := atI_in (xs := [a, b, c, d]) (n := n) n0 n1
  rw [i_lst, e]
  have m := m.1
  simp only [List.mem_cons, List.not_mem_nil, or_false] at m
  rcases m with rfl | rfl | rfl | rfl
  · exact h1
  · exact h2
  · exact h3
  · exact h4
theorem plain : Phi tab cg 60 21 [.script] (fun d => d = .bl true) := by
  refine phi_goK rfl rfl (by decide) ?_
  show wSs (Phi tab cg 59) cg b_law _ _
  have hF := Phi_mono (cg := cg) monoT 59
  unfold b_law
  refine asg_cut hF (fun t => t = .v .deck) ?_ fun t e => ?_
  · simp only [wSs, wS, wE, wOp, wOs, wV, wI, wCs, wAnd, wOr, wP, wTg, wipeE, slot0, slotS, start0, d_v, d_ol, d_od, w_tup, w_lst, w_str, isB_bl, gl_tup, gl_str, gl_int, gin_d, gix_d, itOk, eFz, c_eq, c_ne, c_ltI, c_leI, c_gtI, c_geI, c_ltS, c_leS, c_gtS, c_geS, c_inS, c_niS, c_inT, c_niT, c_inL, c_niL, c_isN, c_isnotN, c_isB, c_isnotB, b_addI, b_addS, b_addT, b_addL, b_sub, b_mul, b_rep, b_pow, b_shl, b_mod, b_fdiv, i_str, i_tup, i_lst, k_str, k_tup, k_lst, n_str, n_tup, n_lst, n_all, n_any, n_listL, n_listT, n_listD, n_listS, n_lenD, n_sortL, n_sortD, n_intB, n_intI, n_tupL, n_tupT, m_join, m_split, r_join, r_split, n_max2, n_sortP, n_maxS, n_minS, n_min2, n_maxL, n_minL, n_sum, n_strI, n_strS, m_upper, m_index, r_upper, r_index, i_dS, i_dI, c_inD, c_niD, key_str, key_int, wPs, at0, at1, at2, at3, ct1, ct2, ct3, ct4, tk1, tk2, tk3, dr1, dr2, dr3, dr4, tt1, tt2, tt3, zd_cons, zd_nil, zd_nil', wTy, aA, aB, List.replicate, aD, aE, aF, aG, if_true, ite_true, if_false, ite_false, true_and, and_true, cg, cgs, cgGet0, cgGetS, aH, aI, Nat.reduceAdd, Nat.zero_add, Nat.reduceLeDiff, cok_ss, cok_ii, cok_bb, cok_is, cok_si, iok, iokI, afl_s, afl_i, afl_n, bcc, bnc, bcn, bnn, ev_str, ev_int, ev_bl, aJ, aK, Nat.reduceBEq, Int.reduceBEq, aL, aM, aN, aO, aP, aQ, aR, aS, aT, aU, aV, beq_self_eq_true]
    exact s_deck (by decide) rfl
  subst e
  simp only [start0, List.map_cons, List.map_nil, List.replicate, List.cons_append, List.nil_append, List.set_cons_zero, List.set_cons_succ]
  refine ss_cut hF (fun _ => True) (fors_go hF trivial ?_) fun env' _ => by simp only [wSs, wS, wE, wOp, wOs, wV, wI, wCs, wAnd, wOr, wP, wTg, wipeE, slot0, slotS, start0, d_v, d_ol, d_od, w_tup, w_lst, w_str, isB_bl, gl_tup, gl_str, gl_int, gin_d, gix_d, itOk, eFz, c_eq, c_ne, c_ltI, c_leI, c_gtI, c_geI, c_ltS, c_leS, c_gtS, c_geS, c_inS, c_niS, c_inT, c_niT, c_inL, c_niL, c_isN, c_isnotN, c_isB, c_isnotB, b_addI, b_addS, b_addT, b_addL, b_sub, b_mul, b_rep, b_pow, b_shl, b_mod, b_fdiv, i_str, i_tup, i_lst, k_str, k_tup, k_lst, n_str, n_tup, n_lst, n_all, n_any, n_listL, n_listT, n_listD, n_listS, n_lenD, n_sortL, n_sortD, n_intB, n_intI, n_tupL, n_tupT, m_join, m_split, r_join, r_split, n_max2, n_sortP, n_maxS, n_minS, n_min2, n_maxL, n_minL, n_sum, n_strI, n_strS, m_upper, m_index, r_upper, r_index, i_dS, i_dI, c_inD, c_niD, key_str, key_int, wPs, at0, at1, at2, at3, ct1, ct2, ct3, ct4, tk1, tk2, tk3, dr1, dr2, dr3, dr4, tt1, tt2, tt3, zd_cons, zd_nil, zd_nil', wTy, aA, aB, List.replicate, aD, aE, aF, aG, if_true, ite_true, if_false, ite_false, true_and, and_true, cg, cgs, cgGet0, cgGetS, aH, aI, Nat.reduceAdd, Nat.zero_add, Nat.reduceLeDiff, cok_ss, cok_ii, cok_bb, cok_is, cok_si, iok, iokI, afl_s, afl_i, afl_n, bcc, bnc, bcn, bnn, ev_str, ev_int, ev_bl, aJ, aK, Nat.reduceBEq, Int.reduceBEq, aL, aM, aN, aO, aP, aQ, aR, aS, aT, aU, aV, beq_self_eq_true]
  simp only [wSs, wS, wE, wOp, wOs, wV, wI, wCs, wAnd, wOr, wP, wTg, wipeE, slot0, slotS, start0, d_v, d_ol, d_od, w_tup, w_lst, w_str, isB_bl, gl_tup, gl_str, gl_int, gin_d, gix_d, itOk, eFz, c_eq, c_ne, c_ltI, c_leI, c_gtI, c_geI, c_ltS, c_leS, c_gtS, c_geS, c_inS, c_niS, c_inT, c_niT, c_inL, c_niL, c_isN, c_isnotN, c_isB, c_isnotB, b_addI, b_addS, b_addT, b_addL, b_sub, b_mul, b_rep, b_pow, b_shl, b_mod, b_fdiv, i_str, i_tup, i_lst, k_str, k_tup, k_lst, n_str, n_tup, n_lst, n_all, n_any, n_listL, n_listT, n_listD, n_listS, n_lenD, n_sortL, n_sortD, n_intB, n_intI, n_tupL, n_tupT, m_join, m_split, r_join, r_split, n_max2, n_sortP, n_maxS, n_minS, n_min2, n_maxL, n_minL, n_sum, n_strI, n_strS, m_upper, m_index, r_upper, r_index, i_dS, i_dI, c_inD, c_niD, key_str, key_int, wPs, at0, at1, at2, at3, ct1, ct2, ct3, ct4, tk1, tk2, tk3, dr1, dr2, dr3, dr4, tt1, tt2, tt3, zd_cons, zd_nil, zd_nil', wTy, aA, aB, List.replicate, aD, aE, aF, aG, if_true, ite_true, if_false, ite_false, true_and, and_true, cg, cgs, cgGet0, cgGetS, aH, aI, Nat.reduceAdd, Nat.zero_add, Nat.reduceLeDiff, cok_ss, cok_ii, cok_bb, cok_is, cok_si, iok, iokI, afl_s, afl_i, afl_n, bcc, bnc, bcn, bnn, ev_str, ev_int, ev_bl, aJ, aK, Nat.reduceBEq, Int.reduceBEq, aL, aM, aN, aO, aP, aQ, aR, aS, aT, aU, aV, beq_self_eq_true]
  refine ⟨⟨by decide, by decide⟩, fun env => ∃ t2 t3 t4 t5 t6 t7 t8 t9 t10 t11 t12 t13 t14, env = [some (.v (.script)), some (.v (.deck)), t2, t3, t4, t5, t6, t7, t8, t9, t10, t11, t12, t13, t14], ⟨_, _, _, _, _, _, _, _, _, _, _, _, _, rfl⟩, fun y _ env hi => ?_, fun _ _ => trivial⟩
  obtain ⟨t2, t3, t4, t5, t6, t7, t8, t9, t10, t11, t12, t13, t14, rfl⟩ := hi
  refine ⟨_, rfl, ?_⟩
  unfold b_law_3
  refine asg_cut hF (fun t => ∃ b, t = .v (.bl b)) ?_ fun t ⟨far, e⟩ => ?_
  · simp only [wSs, wS, wE, wOp, wOs, wV, wI, wCs, wAnd, wOr, wP, wTg, wipeE, slot0, slotS, start0, d_v, d_ol, d_od, w_tup, w_lst, w_str, isB_bl, gl_tup, gl_str, gl_int, gin_d, gix_d, itOk, eFz, c_eq, c_ne, c_ltI, c_leI, c_gtI, c_geI, c_ltS, c_leS, c_gtS, c_geS, c_inS, c_niS, c_inT, c_niT, c_inL, c_niL, c_isN, c_isnotN, c_isB, c_isnotB, b_addI, b_addS, b_addT, b_addL, b_sub, b_mul, b_rep, b_pow, b_shl, b_mod, b_fdiv, i_str, i_tup, i_lst, k_str, k_tup, k_lst, n_str, n_tup, n_lst, n_all, n_any, n_listL, n_listT, n_listD, n_listS, n_lenD, n_sortL, n_sortD, n_intB, n_intI, n_tupL, n_tupT, m_join, m_split, r_join, r_split, n_max2, n_sortP, n_maxS, n_minS, n_min2, n_maxL, n_minL, n_sum, n_strI, n_strS, m_upper, m_index, r_upper, r_index, i_dS, i_dI, c_inD, c_niD, key_str, key_int, wPs, at0, at1, at2, at3, ct1, ct2, ct3, ct4, tk1, tk2, tk3, dr1, dr2, dr3, dr4, tt1, tt2, tt3, zd_cons, zd_nil, zd_nil', wTy, aA, aB, List.replicate, aD, aE, aF, aG, if_true, ite_true, if_false, ite_false, true_and, and_true, cg, cgs, cgGet0, cgGetS, aH, aI, Nat.reduceAdd, Nat.zero_add, Nat.reduceLeDiff, cok_ss, cok_ii, cok_bb, cok_is, cok_si, iok, iokI, afl_s, afl_i, afl_n, bcc, bnc, bcn, bnn, ev_str, ev_int, ev_bl, aJ, aK, Nat.reduceBEq, Int.reduceBEq, aL, aM, aN, aO, aP, aQ, aR, aS, aT, aU, aV, beq_self_eq_true]
    refine s_draw (by decide) (by decide) (by decide) fun x x0 x1 => ?_
    simp only [wSs, wS, wE, wOp, wOs, wV, wI, wCs, wAnd, wOr, wP, wTg, wipeE, slot0, slotS, start0, d_v, d_ol, d_od, w_tup, w_lst, w_str, isB_bl, gl_tup, gl_str, gl_int, gin_d, gix_d, itOk, eFz, c_eq, c_ne, c_ltI, c_leI, c_gtI, c_geI, c_ltS, c_leS, c_gtS, c_geS, c_inS, c_niS, c_inT, c_niT, c_inL, c_niL, c_isN, c_isnotN, c_isB, c_isnotB, b_addI, b_addS, b_addT, b_addL, b_sub, b_mul, b_rep, b_pow, b_shl, b_mod, b_fdiv, i_str, i_tup, i_lst, k_str, k_tup, k_lst, n_str, n_tup, n_lst, n_all, n_any, n_listL, n_listT, n_listD, n_listS, n_lenD, n_sortL, n_sortD, n_intB, n_intI, n_tupL, n_tupT, m_join, m_split, r_join, r_split, n_max2, n_sortP, n_maxS, n_minS, n_min2, n_maxL, n_minL, n_sum, n_strI, n_strS, m_upper, m_index, r_upper, r_index, i_dS, i_dI, c_inD, c_niD, key_str, key_int, wPs, at0, at1, at2, at3, ct1, ct2, ct3, ct4, tk1, tk2, tk3, dr1, dr2, dr3, dr4, tt1, tt2, tt3, zd_cons, zd_nil, zd_nil', wTy, aA, aB, List.replicate, aD, aE, aF, aG, if_true, ite_true, if_false, ite_false, true_and, and_true, cg, cgs, cgGet0, cgGetS, aH, aI, Nat.reduceAdd, Nat.zero_add, Nat.reduceLeDiff, cok_ss, cok_ii, cok_bb, cok_is, cok_si, iok, iokI, afl_s, afl_i, afl_n, bcc, bnc, bcn, bnn, ev_str, ev_int, ev_bl, aJ, aK, Nat.reduceBEq, Int.reduceBEq, aL, aM, aN, aO, aP, aQ, aR, aS, aT, aU, aV, beq_self_eq_true]
    exact ⟨_, rfl⟩
  subst e
  refine asg_cut hF (fun t => ∃ ks : List (List Nat), t = .v (.lst (ks.map D.str)) ∧ ks.length ≤ 6 ∧ ks.Nodup ∧ [] ∉ ks) ?_ fun t ⟨ks, e, hk, nd, hne⟩ => ?_
  · simp only [wSs, wS, wE, wOp, wOs, wV, wI, wCs, wAnd, wOr, wP, wTg, wipeE, slot0, slotS, start0, d_v, d_ol, d_od, w_tup, w_lst, w_str, isB_bl, gl_tup, gl_str, gl_int, gin_d, gix_d, itOk, eFz, c_eq, c_ne, c_ltI, c_leI, c_gtI, c_geI, c_ltS, c_leS, c_gtS, c_geS, c_inS, c_niS, c_inT, c_niT, c_inL, c_niL, c_isN, c_isnotN, c_isB, c_isnotB, b_addI, b_addS, b_addT, b_addL, b_sub, b_mul, b_rep, b_pow, b_shl, b_mod, b_fdiv, i_str, i_tup, i_lst, k_str, k_tup, k_lst, n_str, n_tup, n_lst, n_all, n_any, n_listL, n_listT, n_listD, n_listS, n_lenD, n_sortL, n_sortD, n_intB, n_intI, n_tupL, n_tupT, m_join, m_split, r_join, r_split, n_max2, n_sortP, n_maxS, n_minS, n_min2, n_maxL, n_minL, n_sum, n_strI, n_strS, m_upper, m_index, r_upper, r_index, i_dS, i_dI, c_inD, c_niD, key_str, key_int, wPs, at0, at1, at2, at3, ct1, ct2, ct3, ct4, tk1, tk2, tk3, dr1, dr2, dr3, dr4, tt1, tt2, tt3, zd_cons, zd_nil, zd_nil', wTy, aA, aB, List.replicate, aD, aE, aF, aG, if_true, ite_true, if_false, ite_false, true_and, and_true, cg, cgs, cgGet0, cgGetS, aH, aI, Nat.reduceAdd, Nat.zero_add, Nat.reduceLeDiff, cok_ss, cok_ii, cok_bb, cok_is, cok_si, iok, iokI, afl_s, afl_i, afl_n, bcc, bnc, bcn, bnn, ev_str, ev_int, ev_bl, aJ, aK, Nat.reduceBEq, Int.reduceBEq, aL, aM, aN, aO, aP, aQ, aR, aS, aT, aU, aV, beq_self_eq_true]
    have go : ∀ n : Nat, n ≤ 6 → Phi tab cg 59 8 [.deck, .int (n : Int)] fun d => ∃ ks : List (List Nat), T.v d = .v (.lst (ks.map D.str)) ∧ ks.length ≤ 6 ∧ ks.Nodup ∧ [] ∉ ks := fun n hn => s_kinds (by decide) (by omega) fun ks h1 h2 h3 => ⟨ks, rfl, by omega, h3, fun z => by
      have := (h2 [] z).1.1
      exact absurd this (by decide)⟩
    exact s_draw (by decide) (by decide) (by decide) fun x x0 x1 => ixFour x0 x1 (go 4 (by decide)) (go 6 (by decide)) (go 4 (by decide)) (go 4 (by decide))
  subst e
  refine asg_cut hF (fun t => t = .v (tpF [])) (by simp only [wSs, wS, wE, wOp, wOs, wV, wI, wCs, wAnd, wOr, wP, wTg, wipeE, slot0, slotS, start0, d_v, d_ol, d_od, w_tup, w_lst, w_str, isB_bl, gl_tup, gl_str, gl_int, gin_d, gix_d, itOk, eFz, c_eq, c_ne, c_ltI, c_leI, c_gtI, c_geI, c_ltS, c_leS, c_gtS, c_geS, c_inS, c_niS, c_inT, c_niT, c_inL, c_niL, c_isN, c_isnotN, c_isB, c_isnotB, b_addI, b_addS, b_addT, b_addL, b_sub, b_mul, b_rep, b_pow, b_shl, b_mod, b_fdiv, i_str, i_tup, i_lst, k_str, k_tup, k_lst, n_str, n_tup, n_lst, n_all, n_any, n_listL, n_listT, n_listD, n_listS, n_lenD, n_sortL, n_sortD, n_intB, n_intI, n_tupL, n_tupT, m_join, m_split, r_join, r_split, n_max2, n_sortP, n_maxS, n_minS, n_min2, n_maxL, n_minL, n_sum, n_strI, n_strS, m_upper, m_index, r_upper, r_index, i_dS, i_dI, c_inD, c_niD, key_str, key_int, wPs, at0, at1, at2, at3, ct1, ct2, ct3, ct4, tk1, tk2, tk3, dr1, dr2, dr3, dr4, tt1, tt2, tt3, zd_cons, zd_nil, zd_nil', wTy, aA, aB, List.replicate, aD, aE, aF, aG, if_true, ite_true, if_false, ite_false, true_and, and_true, cg, cgs, cgGet0, cgGetS, aH, aI, Nat.reduceAdd, Nat.zero_add, Nat.reduceLeDiff, cok_ss, cok_ii, cok_bb, cok_is, cok_si, iok, iokI, afl_s, afl_i, afl_n, bcc, bnc, bcn, bnn, ev_str, ev_int, ev_bl, aJ, aK, Nat.reduceBEq, Int.reduceBEq, aL, aM, aN, aO, aP, aQ, aR, aS, aT, aU, aV, beq_self_eq_true]; rfl) fun t e => ?_
  subst e
  refine asg_cut hF (fun t => t = .v (tpI [])) (by simp only [wSs, wS, wE, wOp, wOs, wV, wI, wCs, wAnd, wOr, wP, wTg, wipeE, slot0, slotS, start0, d_v, d_ol, d_od, w_tup, w_lst, w_str, isB_bl, gl_tup, gl_str, gl_int, gin_d, gix_d, itOk, eFz, c_eq, c_ne, c_ltI, c_leI, c_gtI, c_geI, c_ltS, c_leS, c_gtS, c_geS, c_inS, c_niS, c_inT, c_niT, c_inL, c_niL, c_isN, c_isnotN, c_isB, c_isnotB, b_addI, b_addS, b_addT, b_addL, b_sub, b_mul, b_rep, b_pow, b_shl, b_mod, b_fdiv, i_str, i_tup, i_lst, k_str, k_tup, k_lst, n_str, n_tup, n_lst, n_all, n_any, n_listL, n_listT, n_listD, n_listS, n_lenD, n_sortL, n_sortD, n_intB, n_intI, n_tupL, n_tupT, m_join, m_split, r_join, r_split, n_max2, n_sortP, n_maxS, n_minS, n_min2, n_maxL, n_minL, n_sum, n_strI, n_strS, m_upper, m_index, r_upper, r_index, i_dS, i_dI, c_inD, c_niD, key_str, key_int, wPs, at0, at1, at2, at3, ct1, ct2, ct3, ct4, tk1, tk2, tk3, dr1, dr2, dr3, dr4, tt1, tt2, tt3, zd_cons, zd_nil, zd_nil', wTy, aA, aB, List.replicate, aD, aE, aF, aG, if_true, ite_true, if_false, ite_false, true_and, and_true, cg, cgs, cgGet0, cgGetS, aH, aI, Nat.reduceAdd, Nat.zero_add, Nat.reduceLeDiff, cok_ss, cok_ii, cok_bb, cok_is, cok_si, iok, iokI, afl_s, afl_i, afl_n, bcc, bnc, bcn, bnn, ev_str, ev_int, ev_bl, aJ, aK, Nat.reduceBEq, Int.reduceBEq, aL, aM, aN, aO, aP, aQ, aR, aS, aT, aU, aV, beq_self_eq_true]; rfl) fun t e => ?_
  subst e
  simp only [List.set_cons_zero, List.set_cons_succ]
  refine ss_cut hF (fun env => ∃ g o : Int, env = [some (.v (.script)), some (.v (.deck)), some (.v y), some (.v (.bl far)), some (.v (.lst (ks.map D.str))), some (.v (tpF [])), some (.v (tpI [])), t7, t8, t9, t10, some (.v (.int g)), some (.v (.int o)), t13, t14] ∧ (0 < g ∧ g < 1073741824) ∧ 0 < o ∧ o ≤ 10000) ?_ fun env ⟨g, o, e, hg, ho⟩ => ?_
  · simp only [wSs, wS, wE, wOp, wOs, wV, wI, wCs, wAnd, wOr, wP, wTg, wipeE, slot0, slotS, start0, d_v, d_ol, d_od, w_tup, w_lst, w_str, isB_bl, gl_tup, gl_str, gl_int, gin_d, gix_d, itOk, eFz, c_eq, c_ne, c_ltI, c_leI, c_gtI, c_geI, c_ltS, c_leS, c_gtS, c_geS, c_inS, c_niS, c_inT, c_niT, c_inL, c_niL, c_isN, c_isnotN, c_isB, c_isnotB, b_addI, b_addS, b_addT, b_addL, b_sub, b_mul, b_rep, b_pow, b_shl, b_mod, b_fdiv, i_str, i_tup, i_lst, k_str, k_tup, k_lst, n_str, n_tup, n_lst, n_all, n_any, n_listL, n_listT, n_listD, n_listS, n_lenD, n_sortL, n_sortD, n_intB, n_intI, n_tupL, n_tupT, m_join, m_split, r_join, r_split, n_max2, n_sortP, n_maxS, n_minS, n_min2, n_maxL, n_minL, n_sum, n_strI, n_strS, m_upper, m_index, r_upper, r_index, i_dS, i_dI, c_inD, c_niD, key_str, key_int, wPs, at0, at1, at2, at3, ct1, ct2, ct3, ct4, tk1, tk2, tk3, dr1, dr2, dr3, dr4, tt1, tt2, tt3, zd_cons, zd_nil, zd_nil', wTy, aA, aB, List.replicate, aD, aE, aF, aG, if_true, ite_true, if_false, ite_false, true_and, and_true, cg, cgs, cgGet0, cgGetS, aH, aI, Nat.reduceAdd, Nat.zero_add, Nat.reduceLeDiff, cok_ss, cok_ii, cok_bb, cok_is, cok_si, iok, iokI, afl_s, afl_i, afl_n, bcc, bnc, bcn, bnn, ev_str, ev_int, ev_bl, aJ, aK, Nat.reduceBEq, Int.reduceBEq, aL, aM, aN, aO, aP, aQ, aR, aS, aT, aU, aV, beq_self_eq_true]
    refine ⟨by decide, by decide, s_draw (by decide) (by decide) (by decide) fun x x0 x1 => ixTwo x0 x1 ?_ ?_⟩
    · exact ⟨1000, _, rfl, by decide, by decide, by decide⟩
    · exact ⟨_, 2, rfl, by decide, by decide, by decide⟩
  subst e
  refine ss_cut hF (fun env => ∃ (ps : List (Su × Su)) (ts : List Int) (a7 a13 a14 : Option T), env = [some (.v (.script)), some (.v (.deck)), some (.v y), some (.v (.bl far)), some (.v (.lst (ks.map D.str))), some (.v (tpF ps)), some (.v (tpI ts)), a7, t8, t9, t10, some (.v (.int g)), some (.v (.int o)), a13, a14] ∧ Inp ks ps ts) (fors_idx hF trivial ?_) fun env ⟨ps, ts, a7, a13, a14, e, hp⟩ => ?_
  · simp only [wSs, wS, wE, wOp, wOs, wV, wI, wCs, wAnd, wOr, wP, wTg, wipeE, slot0, slotS, start0, d_v, d_ol, d_od, w_tup, w_lst, w_str, isB_bl, gl_tup, gl_str, gl_int, gin_d, gix_d, itOk, eFz, c_eq, c_ne, c_ltI, c_leI, c_gtI, c_geI, c_ltS, c_leS, c_gtS, c_geS, c_inS, c_niS, c_inT, c_niT, c_inL, c_niL, c_isN, c_isnotN, c_isB, c_isnotB, b_addI, b_addS, b_addT, b_addL, b_sub, b_mul, b_rep, b_pow, b_shl, b_mod, b_fdiv, i_str, i_tup, i_lst, k_str, k_tup, k_lst, n_str, n_tup, n_lst, n_all, n_any, n_listL, n_listT, n_listD, n_listS, n_lenD, n_sortL, n_sortD, n_intB, n_intI, n_tupL, n_tupT, m_join, m_split, r_join, r_split, n_max2, n_sortP, n_maxS, n_minS, n_min2, n_maxL, n_minL, n_sum, n_strI, n_strS, m_upper, m_index, r_upper, r_index, i_dS, i_dI, c_inD, c_niD, key_str, key_int, wPs, at0, at1, at2, at3, ct1, ct2, ct3, ct4, tk1, tk2, tk3, dr1, dr2, dr3, dr4, tt1, tt2, tt3, zd_cons, zd_nil, zd_nil', wTy, aA, aB, List.replicate, aD, aE, aF, aG, if_true, ite_true, if_false, ite_false, true_and, and_true, cg, cgs, cgGet0, cgGetS, aH, aI, Nat.reduceAdd, Nat.zero_add, Nat.reduceLeDiff, cok_ss, cok_ii, cok_bb, cok_is, cok_si, iok, iokI, afl_s, afl_i, afl_n, bcc, bnc, bcn, bnn, ev_str, ev_int, ev_bl, aJ, aK, Nat.reduceBEq, Int.reduceBEq, aL, aM, aN, aO, aP, aQ, aR, aS, aT, aU, aV, beq_self_eq_true]
    refine s_draw (by decide) (by decide) (by decide) fun x x0 x1 => s_draw (by decide) (by decide) (by decide) fun z z0 z1 => ?_
    simp only [wSs, wS, wE, wOp, wOs, wV, wI, wCs, wAnd, wOr, wP, wTg, wipeE, slot0, slotS, start0, d_v, d_ol, d_od, w_tup, w_lst, w_str, isB_bl, gl_tup, gl_str, gl_int, gin_d, gix_d, itOk, eFz, c_eq, c_ne, c_ltI, c_leI, c_gtI, c_geI, c_ltS, c_leS, c_gtS, c_geS, c_inS, c_niS, c_inT, c_niT, c_inL, c_niL, c_isN, c_isnotN, c_isB, c_isnotB, b_addI, b_addS, b_addT, b_addL, b_sub, b_mul, b_rep, b_pow, b_shl, b_mod, b_fdiv, i_str, i_tup, i_lst, k_str, k_tup, k_lst, n_str, n_tup, n_lst, n_all, n_any, n_listL, n_listT, n_listD, n_listS, n_lenD, n_sortL, n_sortD, n_intB, n_intI, n_tupL, n_tupT, m_join, m_split, r_join, r_split, n_max2, n_sortP, n_maxS, n_minS, n_min2, n_maxL, n_minL, n_sum, n_strI, n_strS, m_upper, m_index, r_upper, r_index, i_dS, i_dI, c_inD, c_niD, key_str, key_int, wPs, at0, at1, at2, at3, ct1, ct2, ct3, ct4, tk1, tk2, tk3, dr1, dr2, dr3, dr4, tt1, tt2, tt3, zd_cons, zd_nil, zd_nil', wTy, aA, aB, List.replicate, aD, aE, aF, aG, if_true, ite_true, if_false, ite_false, true_and, and_true, cg, cgs, cgGet0, cgGetS, aH, aI, Nat.reduceAdd, Nat.zero_add, Nat.reduceLeDiff, cok_ss, cok_ii, cok_bb, cok_is, cok_si, iok, iokI, afl_s, afl_i, afl_n, bcc, bnc, bcn, bnn, ev_str, ev_int, ev_bl, aJ, aK, Nat.reduceBEq, Int.reduceBEq, aL, aM, aN, aO, aP, aQ, aR, aS, aT, aU, aV, beq_self_eq_true]
    have hi : ∃ i : Int, atI [D.int x, .int (12 + z)] (if far = true then 1 else 0) = some (.int i) ∧ 0 ≤ i ∧ i ≤ 20 := by
      cases far
      · exact ⟨x, rfl, x0, by omega⟩
      · exact ⟨12 + z, rfl, by omega, by omega⟩
    obtain ⟨i, e, i0, i1⟩ := hi
    simp only [e]
    refine ⟨⟨by omega, by omega⟩, fun i env => ∃ (ps : List (Su × Su)) (ts : List Int) (a7 a13 a14 : Option T), env = [some (.v (.script)), some (.v (.deck)), some (.v y), some (.v (.bl far)), some (.v (.lst (ks.map D.str))), some (.v (tpF ps)), some (.v (tpI ts)), a7, t8, t9, t10, some (.v (.int g)), some (.v (.int o)), a13, a14] ∧ Inp ks ps ts ∧ ts.length ≤ i, ⟨[], [], _, _, _, rfl, ⟨fun _ z => (nomatch z), rfl, by decide, fun _ z => nomatch z⟩, Nat.le_refl _⟩, fun j d hd env hi => ?_, fun env he => ?_⟩
    · obtain ⟨ps, ts, a7, a13, a14, rfl, hp, hj⟩ := hi
      have hlt : j < 20 := by
        have := (List.getElem?_eq_some_iff.mp hd).1
        have h2 : (rangeD 0 i).length = (i - 0).toNat := rangeD_len ..
        omega
      have hpl := hp.l
      refine ⟨_, rfl, ?_⟩
      unfold b_law_1
      refine asg_cut hF (fun t => ∃ s : Su, t = .v s.dk ∧ SuK ks s) ?_ fun t ⟨s1, e, h1⟩ => ?_
      · simp only [wSs, wS, wE, wOp, wOs, wV, wI, wCs, wAnd, wOr, wP, wTg, wipeE, slot0, slotS, start0, d_v, d_ol, d_od, w_tup, w_lst, w_str, isB_bl, gl_tup, gl_str, gl_int, gin_d, gix_d, itOk, eFz, c_eq, c_ne, c_ltI, c_leI, c_gtI, c_geI, c_ltS, c_leS, c_gtS, c_geS, c_inS, c_niS, c_inT, c_niT, c_inL, c_niL, c_isN, c_isnotN, c_isB, c_isnotB, b_addI, b_addS, b_addT, b_addL, b_sub, b_mul, b_rep, b_pow, b_shl, b_mod, b_fdiv, i_str, i_tup, i_lst, k_str, k_tup, k_lst, n_str, n_tup, n_lst, n_all, n_any, n_listL, n_listT, n_listD, n_listS, n_lenD, n_sortL, n_sortD, n_intB, n_intI, n_tupL, n_tupT, m_join, m_split, r_join, r_split, n_max2, n_sortP, n_maxS, n_minS, n_min2, n_maxL, n_minL, n_sum, n_strI, n_strS, m_upper, m_index, r_upper, r_index, i_dS, i_dI, c_inD, c_niD, key_str, key_int, wPs, at0, at1, at2, at3, ct1, ct2, ct3, ct4, tk1, tk2, tk3, dr1, dr2, dr3, dr4, tt1, tt2, tt3, zd_cons, zd_nil, zd_nil', wTy, aA, aB, List.replicate, aD, aE, aF, aG, if_true, ite_true, if_false, ite_false, true_and, and_true, cg, cgs, cgGet0, cgGetS, aH, aI, Nat.reduceAdd, Nat.zero_add, Nat.reduceLeDiff, cok_ss, cok_ii, cok_bb, cok_is, cok_si, iok, iokI, afl_s, afl_i, afl_n, bcc, bnc, bcn, bnn, ev_str, ev_int, ev_bl, aJ, aK, Nat.reduceBEq, Int.reduceBEq, aL, aM, aN, aO, aP, aQ, aR, aS, aT, aU, aV, beq_self_eq_true]
        exact s_sum (by decide) (by omega) nd hg.1 hg.2 fun s hs => ⟨s, rfl, hs⟩
      subst e
      refine asg_cut hF (fun t => ∃ s : Su, t = .v (tpF (ps ++ [(s1, s)])) ∧ SuK ks s) ?_ fun t ⟨s2, e, h2⟩ => ?_
      · simp only [wSs, wS, wE, wOp, wOs, wV, wI, wCs, wAnd, wOr, wP, wTg, wipeE, slot0, slotS, start0, d_v, d_ol, d_od, w_tup, w_lst, w_str, isB_bl, gl_tup, gl_str, gl_int, gin_d, gix_d, itOk, eFz, c_eq, c_ne, c_ltI, c_leI, c_gtI, c_geI, c_ltS, c_leS, c_gtS, c_geS, c_inS, c_niS, c_inT, c_niT, c_inL, c_niL, c_isN, c_isnotN, c_isB, c_isnotB, b_addI, b_addS, b_addT, b_addL, b_sub, b_mul, b_rep, b_pow, b_shl, b_mod, b_fdiv, i_str, i_tup, i_lst, k_str, k_tup, k_lst, n_str, n_tup, n_lst, n_all, n_any, n_listL, n_listT, n_listD, n_listS, n_lenD, n_sortL, n_sortD, n_intB, n_intI, n_tupL, n_tupT, m_join, m_split, r_join, r_split, n_max2, n_sortP, n_maxS, n_minS, n_min2, n_maxL, n_minL, n_sum, n_strI, n_strS, m_upper, m_index, r_upper, r_index, i_dS, i_dI, c_inD, c_niD, key_str, key_int, wPs, at0, at1, at2, at3, ct1, ct2, ct3, ct4, tk1, tk2, tk3, dr1, dr2, dr3, dr4, tt1, tt2, tt3, zd_cons, zd_nil, zd_nil', wTy, aA, aB, List.replicate, aD, aE, aF, aG, if_true, ite_true, if_false, ite_false, true_and, and_true, cg, cgs, cgGet0, cgGetS, aH, aI, Nat.reduceAdd, Nat.zero_add, Nat.reduceLeDiff, cok_ss, cok_ii, cok_bb, cok_is, cok_si, iok, iokI, afl_s, afl_i, afl_n, bcc, bnc, bcn, bnn, ev_str, ev_int, ev_bl, aJ, aK, Nat.reduceBEq, Int.reduceBEq, aL, aM, aN, aO, aP, aQ, aR, aS, aT, aU, aV, beq_self_eq_true]
        refine s_sum (by decide) (by omega) nd hg.1 hg.2 fun s hs => ?_
        simp only [tpF, wSs, wS, wE, wOp, wOs, wV, wI, wCs, wAnd, wOr, wP, wTg, wipeE, slot0, slotS, start0, d_v, d_ol, d_od, w_tup, w_lst, w_str, isB_bl, gl_tup, gl_str, gl_int, gin_d, gix_d, itOk, eFz, c_eq, c_ne, c_ltI, c_leI, c_gtI, c_geI, c_ltS, c_leS, c_gtS, c_geS, c_inS, c_niS, c_inT, c_niT, c_inL, c_niL, c_isN, c_isnotN, c_isB, c_isnotB, b_addI, b_addS, b_addT, b_addL, b_sub, b_mul, b_rep, b_pow, b_shl, b_mod, b_fdiv, i_str, i_tup, i_lst, k_str, k_tup, k_lst, n_str, n_tup, n_lst, n_all, n_any, n_listL, n_listT, n_listD, n_listS, n_lenD, n_sortL, n_sortD, n_intB, n_intI, n_tupL, n_tupT, m_join, m_split, r_join, r_split, n_max2, n_sortP, n_maxS, n_minS, n_min2, n_maxL, n_minL, n_sum, n_strI, n_strS, m_upper, m_index, r_upper, r_index, i_dS, i_dI, c_inD, c_niD, key_str, key_int, wPs, at0, at1, at2, at3, ct1, ct2, ct3, ct4, tk1, tk2, tk3, dr1, dr2, dr3, dr4, tt1, tt2, tt3, zd_cons, zd_nil, zd_nil', wTy, aA, aB, List.replicate, aD, aE, aF, aG, if_true, ite_true, if_false, ite_false, true_and, and_true, cg, cgs, cgGet0, cgGetS, aH, aI, Nat.reduceAdd, Nat.zero_add, Nat.reduceLeDiff, cok_ss, cok_ii, cok_bb, cok_is, cok_si, iok, iokI, afl_s, afl_i, afl_n, bcc, bnc, bcn, bnn, ev_str, ev_int, ev_bl, aJ, aK, Nat.reduceBEq, Int.reduceBEq, aL, aM, aN, aO, aP, aQ, aR, aS, aT, aU, aV, beq_self_eq_true, List.length_map]
        refine ⟨by omega, s, ?_, hs⟩
        rw [List.map_append]
        rfl
      subst e
      refine asg_cut hF (fun t => ∃ a b : Int, t = .ol [.int 0, .int 1, .int a, .int b] ∧ (0 ≤ a ∧ a ≤ 10000) ∧ 0 ≤ b ∧ b ≤ 10000) ?_ fun t ⟨a, b, e, ha, hb⟩ => ?_
      · simp only [wSs, wS, wE, wOp, wOs, wV, wI, wCs, wAnd, wOr, wP, wTg, wipeE, slot0, slotS, start0, d_v, d_ol, d_od, w_tup, w_lst, w_str, isB_bl, gl_tup, gl_str, gl_int, gin_d, gix_d, itOk, eFz, c_eq, c_ne, c_ltI, c_leI, c_gtI, c_geI, c_ltS, c_leS, c_gtS, c_geS, c_inS, c_niS, c_inT, c_niT, c_inL, c_niL, c_isN, c_isnotN, c_isB, c_isnotB, b_addI, b_addS, b_addT, b_addL, b_sub, b_mul, b_rep, b_pow, b_shl, b_mod, b_fdiv, i_str, i_tup, i_lst, k_str, k_tup, k_lst, n_str, n_tup, n_lst, n_all, n_any, n_listL, n_listT, n_listD, n_listS, n_lenD, n_sortL, n_sortD, n_intB, n_intI, n_tupL, n_tupT, m_join, m_split, r_join, r_split, n_max2, n_sortP, n_maxS, n_minS, n_min2, n_maxL, n_minL, n_sum, n_strI, n_strS, m_upper, m_index, r_upper, r_index, i_dS, i_dI, c_inD, c_niD, key_str, key_int, wPs, at0, at1, at2, at3, ct1, ct2, ct3, ct4, tk1, tk2, tk3, dr1, dr2, dr3, dr4, tt1, tt2, tt3, zd_cons, zd_nil, zd_nil', wTy, aA, aB, List.replicate, aD, aE, aF, aG, if_true, ite_true, if_false, ite_false, true_and, and_true, cg, cgs, cgGet0, cgGetS, aH, aI, Nat.reduceAdd, Nat.zero_add, Nat.reduceLeDiff, cok_ss, cok_ii, cok_bb, cok_is, cok_si, iok, iokI, afl_s, afl_i, afl_n, bcc, bnc, bcn, bnn, ev_str, ev_int, ev_bl, aJ, aK, Nat.reduceBEq, Int.reduceBEq, aL, aM, aN, aO, aP, aQ, aR, aS, aT, aU, aV, beq_self_eq_true]
        refine s_draw (by decide) ?_ ?_ fun a a0 a1 => s_draw (by decide) (by omega) (by omega) fun b b0 b1 => ⟨a, b, rfl, ⟨a0, ?_⟩, b0, by omega⟩
        · split <;> omega
        · split <;> omega
        · split at a1 <;> omega
      subst e
      simp only [List.set_cons_zero, List.set_cons_succ]
      have fin : ∀ c : Int, 0 ≤ c → c ≤ 10000 → Inp ks (ps ++ [(s1, s2)]) (ts ++ [c]) := fun c c0 c1 => ⟨fun p hm => by
        rcases List.mem_append.mp hm with hm | hm
        · exact hp.s p hm
        · rw [List.mem_singleton.mp hm]
          exact ⟨h1, h2⟩, by rw [List.length_append, List.length_append, hp.l]; rfl, by rw [List.length_append, List.length_singleton]; omega, fun t hm => by
        rcases List.mem_append.mp hm with hm | hm
        · exact hp.t t hm
        · rw [List.mem_singleton.mp hm]
          exact ⟨c0, by omega⟩⟩
      have mk : ∀ c : Int, 0 ≤ c → c ≤ 10000 → (List.map D.int ts).length ≤ 16777215 ∧ ∃ (ps' : List (Su × Su)) (ts' : List Int) (a7 a13' a14 : Option T), [some (.v (.script)), some (.v (.deck)), some (.v y), some (.v (.bl far)), some (.v (.lst (ks.map D.str))), some (.v (tpF (ps ++ [(s1, s2)]))), some (.v (.tup (List.map D.int ts ++ [.int c]))), some (.v d), t8, t9, t10, some (.v (.int g)), some (.v (.int o)), some (.v (s1.dk)), some (.ol ([.int 0, .int 1, .int a, .int b]))] = [some (.v (.script)), some (.v (.deck)), some (.v y), some (.v (.bl far)), some (.v (.lst (ks.map D.str))), some (.v (tpF ps')), some (.v (tpI ts')), a7, t8, t9, t10, some (.v (.int g)), some (.v (.int o)), a13', a14] ∧ Inp ks ps' ts' ∧ ts'.length ≤ j + 1 := fun c c0 c1 => by
        refine ⟨by rw [List.length_map]; have := hp.l2; omega, ps ++ [(s1, s2)], ts ++ [c], some (.v d), some (.v s1.dk), some (.ol [.int 0, .int 1, .int a, .int b]), ?_, fin c c0 c1, by rw [List.length_append, List.length_singleton]; omega⟩
        have e : tpI (ts ++ [c]) = .tup (ts.map D.int ++ [.int c]) := by unfold tpI; rw [List.map_append]; rfl
        rw [e]
      simp only [wSs, wS, wE, wOp, wOs, wV, wI, wCs, wAnd, wOr, wP, wTg, wipeE, slot0, slotS, start0, d_v, d_ol, d_od, w_tup, w_lst, w_str, isB_bl, gl_tup, gl_str, gl_int, gin_d, gix_d, itOk, eFz, c_eq, c_ne, c_ltI, c_leI, c_gtI, c_geI, c_ltS, c_leS, c_gtS, c_geS, c_inS, c_niS, c_inT, c_niT, c_inL, c_niL, c_isN, c_isnotN, c_isB, c_isnotB, b_addI, b_addS, b_addT, b_addL, b_sub, b_mul, b_rep, b_pow, b_shl, b_mod, b_fdiv, i_str, i_tup, i_lst, k_str, k_tup, k_lst, n_str, n_tup, n_lst, n_all, n_any, n_listL, n_listT, n_listD, n_listS, n_lenD, n_sortL, n_sortD, n_intB, n_intI, n_tupL, n_tupT, m_join, m_split, r_join, r_split, n_max2, n_sortP, n_maxS, n_minS, n_min2, n_maxL, n_minL, n_sum, n_strI, n_strS, m_upper, m_index, r_upper, r_index, i_dS, i_dI, c_inD, c_niD, key_str, key_int, wPs, at0, at1, at2, at3, ct1, ct2, ct3, ct4, tk1, tk2, tk3, dr1, dr2, dr3, dr4, tt1, tt2, tt3, zd_cons, zd_nil, zd_nil', wTy, aA, aB, List.replicate, aD, aE, aF, aG, if_true, ite_true, if_false, ite_false, true_and, and_true, cg, cgs, cgGet0, cgGetS, aH, aI, Nat.reduceAdd, Nat.zero_add, Nat.reduceLeDiff, cok_ss, cok_ii, cok_bb, cok_is, cok_si, iok, iokI, afl_s, afl_i, afl_n, bcc, bnc, bcn, bnn, ev_str, ev_int, ev_bl, aJ, aK, Nat.reduceBEq, Int.reduceBEq, aL, aM, aN, aO, aP, aQ, aR, aS, aT, aU, aV, beq_self_eq_true]
      refine s_draw (by decide) (by decide) (by decide) fun w w0 w1 => ixFour w0 w1 ?_ ?_ ?_ ?_
      · exact mk 0 (by decide) (by decide)
      · exact mk 1 (by decide) (by decide)
      · exact mk a ha.1 ha.2
      · exact mk b hb.1 hb.2
    · obtain ⟨ps, ts, a7, a13, a14, rfl, hp, hj⟩ := he
      exact ⟨ps, ts, a7, a13, a14, rfl, hp⟩
  subst e
  refine ss_cut hF (fun env => env = [some (.v (.script)), some (.v (.deck)), some (.v y), some (.v (.bl far)), some (.v (.lst (ks.map D.str))), some (.v (tpF ps)), some (.v (tpI ts)), a7, t8, t9, t10, some (.v (.int g)), some (.v (.int o)), a13, a14]) (by simp only [wSs, wS, wE, wOp, wOs, wV, wI, wCs, wAnd, wOr, wP, wTg, wipeE, slot0, slotS, start0, d_v, d_ol, d_od, w_tup, w_lst, w_str, isB_bl, gl_tup, gl_str, gl_int, gin_d, gix_d, itOk, eFz, c_eq, c_ne, c_ltI, c_leI, c_gtI, c_geI, c_ltS, c_leS, c_gtS, c_geS, c_inS, c_niS, c_inT, c_niT, c_inL, c_niL, c_isN, c_isnotN, c_isB, c_isnotB, b_addI, b_addS, b_addT, b_addL, b_sub, b_mul, b_rep, b_pow, b_shl, b_mod, b_fdiv, i_str, i_tup, i_lst, k_str, k_tup, k_lst, n_str, n_tup, n_lst, n_all, n_any, n_listL, n_listT, n_listD, n_listS, n_lenD, n_sortL, n_sortD, n_intB, n_intI, n_tupL, n_tupT, m_join, m_split, r_join, r_split, n_max2, n_sortP, n_maxS, n_minS, n_min2, n_maxL, n_minL, n_sum, n_strI, n_strS, m_upper, m_index, r_upper, r_index, i_dS, i_dI, c_inD, c_niD, key_str, key_int, wPs, at0, at1, at2, at3, ct1, ct2, ct3, ct4, tk1, tk2, tk3, dr1, dr2, dr3, dr4, tt1, tt2, tt3, zd_cons, zd_nil, zd_nil', wTy, aA, aB, List.replicate, aD, aE, aF, aG, if_true, ite_true, if_false, ite_false, true_and, and_true, cg, cgs, cgGet0, cgGetS, aH, aI, Nat.reduceAdd, Nat.zero_add, Nat.reduceLeDiff, cok_ss, cok_ii, cok_bb, cok_is, cok_si, iok, iokI, afl_s, afl_i, afl_n, bcc, bnc, bcn, bnn, ev_str, ev_int, ev_bl, aJ, aK, Nat.reduceBEq, Int.reduceBEq, aL, aM, aN, aO, aP, aQ, aR, aS, aT, aU, aV, beq_self_eq_true]) fun env e => ?_
  subst e
  refine ss_cut hF (fun env => env = [some (.v (.script)), some (.v (.deck)), some (.v y), some (.v (.bl far)), some (.v (.lst (ks.map D.str))), some (.v (tpF ps)), some (.v (tpI ts)), a7, t8, t9, t10, some (.v (.int g)), some (.v (.int o)), a13, a14]) (by simp only [wSs, wS, wE, wOp, wOs, wV, wI, wCs, wAnd, wOr, wP, wTg, wipeE, slot0, slotS, start0, d_v, d_ol, d_od, w_tup, w_lst, w_str, isB_bl, gl_tup, gl_str, gl_int, gin_d, gix_d, itOk, eFz, c_eq, c_ne, c_ltI, c_leI, c_gtI, c_geI, c_ltS, c_leS, c_gtS, c_geS, c_inS, c_niS, c_inT, c_niT, c_inL, c_niL, c_isN, c_isnotN, c_isB, c_isnotB, b_addI, b_addS, b_addT, b_addL, b_sub, b_mul, b_rep, b_pow, b_shl, b_mod, b_fdiv, i_str, i_tup, i_lst, k_str, k_tup, k_lst, n_str, n_tup, n_lst, n_all, n_any, n_listL, n_listT, n_listD, n_listS, n_lenD, n_sortL, n_sortD, n_intB, n_intI, n_tupL, n_tupT, m_join, m_split, r_join, r_split, n_max2, n_sortP, n_maxS, n_minS, n_min2, n_maxL, n_minL, n_sum, n_strI, n_strS, m_upper, m_index, r_upper, r_index, i_dS, i_dI, c_inD, c_niD, key_str, key_int, wPs, at0, at1, at2, at3, ct1, ct2, ct3, ct4, tk1, tk2, tk3, dr1, dr2, dr3, dr4, tt1, tt2, tt3, zd_cons, zd_nil, zd_nil', wTy, aA, aB, List.replicate, aD, aE, aF, aG, if_true, ite_true, if_false, ite_false, true_and, and_true, cg, cgs, cgGet0, cgGetS, aH, aI, Nat.reduceAdd, Nat.zero_add, Nat.reduceLeDiff, cok_ss, cok_ii, cok_bb, cok_is, cok_si, iok, iokI, afl_s, afl_i, afl_n, bcc, bnc, bcn, bnn, ev_str, ev_int, ev_bl, aJ, aK, Nat.reduceBEq, Int.reduceBEq, aL, aM, aN, aO, aP, aQ, aR, aS, aT, aU, aV, beq_self_eq_true]) fun env e => ?_
  subst e
  have hpl := hp.l
  have hpl2 := hp.l2
  refine asg_cut hF (fun t => ∃ f : Su × Su, t = .v (lsF f) ∧ (SuK ks f.1 ∧ SuK ks f.2) ∧ sb ks f ps ts = true) ?_ fun t ⟨f, e, hf, hb⟩ => ?_
  · simp only [wSs, wS, wE, wOp, wOs, wV, wI, wCs, wAnd, wOr, wP, wTg, wipeE, slot0, slotS, start0, d_v, d_ol, d_od, w_tup, w_lst, w_str, isB_bl, gl_tup, gl_str, gl_int, gin_d, gix_d, itOk, eFz, c_eq, c_ne, c_ltI, c_leI, c_gtI, c_geI, c_ltS, c_leS, c_gtS, c_geS, c_inS, c_niS, c_inT, c_niT, c_inL, c_niL, c_isN, c_isnotN, c_isB, c_isnotB, b_addI, b_addS, b_addT, b_addL, b_sub, b_mul, b_rep, b_pow, b_shl, b_mod, b_fdiv, i_str, i_tup, i_lst, k_str, k_tup, k_lst, n_str, n_tup, n_lst, n_all, n_any, n_listL, n_listT, n_listD, n_listS, n_lenD, n_sortL, n_sortD, n_intB, n_intI, n_tupL, n_tupT, m_join, m_split, r_join, r_split, n_max2, n_sortP, n_maxS, n_minS, n_min2, n_maxL, n_minL, n_sum, n_strI, n_strS, m_upper, m_index, r_upper, r_index, i_dS, i_dI, c_inD, c_niD, key_str, key_int, wPs, at0, at1, at2, at3, ct1, ct2, ct3, ct4, tk1, tk2, tk3, dr1, dr2, dr3, dr4, tt1, tt2, tt3, zd_cons, zd_nil, zd_nil', wTy, aA, aB, List.replicate, aD, aE, aF, aG, if_true, ite_true, if_false, ite_false, true_and, and_true, cg, cgs, cgGet0, cgGetS, aH, aI, Nat.reduceAdd, Nat.zero_add, Nat.reduceLeDiff, cok_ss, cok_ii, cok_bb, cok_is, cok_si, iok, iokI, afl_s, afl_i, afl_n, bcc, bnc, bcn, bnn, ev_str, ev_int, ev_bl, aJ, aK, Nat.reduceBEq, Int.reduceBEq, aL, aM, aN, aO, aP, aQ, aR, aS, aT, aU, aV, beq_self_eq_true]
    exact s_built (by decide) hne (by omega) nd hp.s hp.l (by omega) hp.t fun f h1 h2 h3 => ⟨f, rfl, ⟨h1, h2⟩, h3⟩
  subst e
  simp only [List.set_cons_zero, List.set_cons_succ]
  refine ss_cut hF (fun env => env = [some (.v (.script)), some (.v (.deck)), some (.v y), some (.v (.bl far)), some (.v (.lst (ks.map D.str))), some (.v (tpF ps)), some (.v (tpI ts)), a7, some (.v (lsF f)), t9, t10, some (.v (.int g)), some (.v (.int o)), a13, a14]) (by simp only [wSs, wS, wE, wOp, wOs, wV, wI, wCs, wAnd, wOr, wP, wTg, wipeE, slot0, slotS, start0, d_v, d_ol, d_od, w_tup, w_lst, w_str, isB_bl, gl_tup, gl_str, gl_int, gin_d, gix_d, itOk, eFz, c_eq, c_ne, c_ltI, c_leI, c_gtI, c_geI, c_ltS, c_leS, c_gtS, c_geS, c_inS, c_niS, c_inT, c_niT, c_inL, c_niL, c_isN, c_isnotN, c_isB, c_isnotB, b_addI, b_addS, b_addT, b_addL, b_sub, b_mul, b_rep, b_pow, b_shl, b_mod, b_fdiv, i_str, i_tup, i_lst, k_str, k_tup, k_lst, n_str, n_tup, n_lst, n_all, n_any, n_listL, n_listT, n_listD, n_listS, n_lenD, n_sortL, n_sortD, n_intB, n_intI, n_tupL, n_tupT, m_join, m_split, r_join, r_split, n_max2, n_sortP, n_maxS, n_minS, n_min2, n_maxL, n_minL, n_sum, n_strI, n_strS, m_upper, m_index, r_upper, r_index, i_dS, i_dI, c_inD, c_niD, key_str, key_int, wPs, at0, at1, at2, at3, ct1, ct2, ct3, ct4, tk1, tk2, tk3, dr1, dr2, dr3, dr4, tt1, tt2, tt3, zd_cons, zd_nil, zd_nil', wTy, aA, aB, List.replicate, aD, aE, aF, aG, if_true, ite_true, if_false, ite_false, true_and, and_true, cg, cgs, cgGet0, cgGetS, aH, aI, Nat.reduceAdd, Nat.zero_add, Nat.reduceLeDiff, cok_ss, cok_ii, cok_bb, cok_is, cok_si, iok, iokI, afl_s, afl_i, afl_n, bcc, bnc, bcn, bnn, ev_str, ev_int, ev_bl, aJ, aK, Nat.reduceBEq, Int.reduceBEq, aL, aM, aN, aO, aP, aQ, aR, aS, aT, aU, aV, beq_self_eq_true]) fun env e => ?_
  subst e
  refine ss_cut hF (fun env => env = [some (.v (.script)), some (.v (.deck)), some (.v y), some (.v (.bl far)), some (.v (.lst (ks.map D.str))), some (.v (tpF ps)), some (.v (tpI ts)), a7, some (.v (lsF f)), t9, t10, some (.v (.int g)), some (.v (.int o)), a13, a14]) (by simp only [wSs, wS, wE, wOp, wOs, wV, wI, wCs, wAnd, wOr, wP, wTg, wipeE, slot0, slotS, start0, d_v, d_ol, d_od, w_tup, w_lst, w_str, isB_bl, gl_tup, gl_str, gl_int, gin_d, gix_d, itOk, eFz, c_eq, c_ne, c_ltI, c_leI, c_gtI, c_geI, c_ltS, c_leS, c_gtS, c_geS, c_inS, c_niS, c_inT, c_niT, c_inL, c_niL, c_isN, c_isnotN, c_isB, c_isnotB, b_addI, b_addS, b_addT, b_addL, b_sub, b_mul, b_rep, b_pow, b_shl, b_mod, b_fdiv, i_str, i_tup, i_lst, k_str, k_tup, k_lst, n_str, n_tup, n_lst, n_all, n_any, n_listL, n_listT, n_listD, n_listS, n_lenD, n_sortL, n_sortD, n_intB, n_intI, n_tupL, n_tupT, m_join, m_split, r_join, r_split, n_max2, n_sortP, n_maxS, n_minS, n_min2, n_maxL, n_minL, n_sum, n_strI, n_strS, m_upper, m_index, r_upper, r_index, i_dS, i_dI, c_inD, c_niD, key_str, key_int, wPs, at0, at1, at2, at3, ct1, ct2, ct3, ct4, tk1, tk2, tk3, dr1, dr2, dr3, dr4, tt1, tt2, tt3, zd_cons, zd_nil, zd_nil', wTy, aA, aB, List.replicate, aD, aE, aF, aG, if_true, ite_true, if_false, ite_false, true_and, and_true, cg, cgs, cgGet0, cgGetS, aH, aI, Nat.reduceAdd, Nat.zero_add, Nat.reduceLeDiff, cok_ss, cok_ii, cok_bb, cok_is, cok_si, iok, iokI, afl_s, afl_i, afl_n, bcc, bnc, bcn, bnn, ev_str, ev_int, ev_bl, aJ, aK, Nat.reduceBEq, Int.reduceBEq, aL, aM, aN, aO, aP, aQ, aR, aS, aT, aU, aV, beq_self_eq_true]) fun env e => ?_
  subst e
  refine ss_cut hF (fun env => env = [some (.v (.script)), some (.v (.deck)), some (.v y), some (.v (.bl far)), some (.v (.lst (ks.map D.str))), some (.v (tpF ps)), some (.v (tpI ts)), a7, some (.v (lsF f)), t9, t10, some (.v (.int g)), some (.v (.int o)), a13, a14]) ?_ fun env e => ?_
  · simp only [wSs, wS, wE, wOp, wOs, wV, wI, wCs, wAnd, wOr, wP, wTg, wipeE, slot0, slotS, start0, d_v, d_ol, d_od, w_tup, w_lst, w_str, isB_bl, gl_tup, gl_str, gl_int, gin_d, gix_d, itOk, eFz, c_eq, c_ne, c_ltI, c_leI, c_gtI, c_geI, c_ltS, c_leS, c_gtS, c_geS, c_inS, c_niS, c_inT, c_niT, c_inL, c_niL, c_isN, c_isnotN, c_isB, c_isnotB, b_addI, b_addS, b_addT, b_addL, b_sub, b_mul, b_rep, b_pow, b_shl, b_mod, b_fdiv, i_str, i_tup, i_lst, k_str, k_tup, k_lst, n_str, n_tup, n_lst, n_all, n_any, n_listL, n_listT, n_listD, n_listS, n_lenD, n_sortL, n_sortD, n_intB, n_intI, n_tupL, n_tupT, m_join, m_split, r_join, r_split, n_max2, n_sortP, n_maxS, n_minS, n_min2, n_maxL, n_minL, n_sum, n_strI, n_strS, m_upper, m_index, r_upper, r_index, i_dS, i_dI, c_inD, c_niD, key_str, key_int, wPs, at0, at1, at2, at3, ct1, ct2, ct3, ct4, tk1, tk2, tk3, dr1, dr2, dr3, dr4, tt1, tt2, tt3, zd_cons, zd_nil, zd_nil', wTy, aA, aB, List.replicate, aD, aE, aF, aG, if_true, ite_true, if_false, ite_false, true_and, and_true, cg, cgs, cgGet0, cgGetS, aH, aI, Nat.reduceAdd, Nat.zero_add, Nat.reduceLeDiff, cok_ss, cok_ii, cok_bb, cok_is, cok_si, iok, iokI, afl_s, afl_i, afl_n, bcc, bnc, bcn, bnn, ev_str, ev_int, ev_bl, aJ, aK, Nat.reduceBEq, Int.reduceBEq, aL, aM, aN, aO, aP, aQ, aR, aS, aT, aU, aV, beq_self_eq_true]
    have := told_due (K := 59) (Q := fun d => d = .bl true) (by decide) hne (by omega) hp hf rfl
    rw [hb] at this
    refine hF _ _ _ _ (fun d e => ?_) this
    subst e
    simp only [wSs, wS, wE, wOp, wOs, wV, wI, wCs, wAnd, wOr, wP, wTg, wipeE, slot0, slotS, start0, d_v, d_ol, d_od, w_tup, w_lst, w_str, isB_bl, gl_tup, gl_str, gl_int, gin_d, gix_d, itOk, eFz, c_eq, c_ne, c_ltI, c_leI, c_gtI, c_geI, c_ltS, c_leS, c_gtS, c_geS, c_inS, c_niS, c_inT, c_niT, c_inL, c_niL, c_isN, c_isnotN, c_isB, c_isnotB, b_addI, b_addS, b_addT, b_addL, b_sub, b_mul, b_rep, b_pow, b_shl, b_mod, b_fdiv, i_str, i_tup, i_lst, k_str, k_tup, k_lst, n_str, n_tup, n_lst, n_all, n_any, n_listL, n_listT, n_listD, n_listS, n_lenD, n_sortL, n_sortD, n_intB, n_intI, n_tupL, n_tupT, m_join, m_split, r_join, r_split, n_max2, n_sortP, n_maxS, n_minS, n_min2, n_maxL, n_minL, n_sum, n_strI, n_strS, m_upper, m_index, r_upper, r_index, i_dS, i_dI, c_inD, c_niD, key_str, key_int, wPs, at0, at1, at2, at3, ct1, ct2, ct3, ct4, tk1, tk2, tk3, dr1, dr2, dr3, dr4, tt1, tt2, tt3, zd_cons, zd_nil, zd_nil', wTy, aA, aB, List.replicate, aD, aE, aF, aG, if_true, ite_true, if_false, ite_false, true_and, and_true, cg, cgs, cgGet0, cgGetS, aH, aI, Nat.reduceAdd, Nat.zero_add, Nat.reduceLeDiff, cok_ss, cok_ii, cok_bb, cok_is, cok_si, iok, iokI, afl_s, afl_i, afl_n, bcc, bnc, bcn, bnn, ev_str, ev_int, ev_bl, aJ, aK, Nat.reduceBEq, Int.reduceBEq, aL, aM, aN, aO, aP, aQ, aR, aS, aT, aU, aV, beq_self_eq_true]
    refine due_of (by decide) hne (by omega) hp hf ?_
    rw [hb]
    simp only [wSs, wS, wE, wOp, wOs, wV, wI, wCs, wAnd, wOr, wP, wTg, wipeE, slot0, slotS, start0, d_v, d_ol, d_od, w_tup, w_lst, w_str, isB_bl, gl_tup, gl_str, gl_int, gin_d, gix_d, itOk, eFz, c_eq, c_ne, c_ltI, c_leI, c_gtI, c_geI, c_ltS, c_leS, c_gtS, c_geS, c_inS, c_niS, c_inT, c_niT, c_inL, c_niL, c_isN, c_isnotN, c_isB, c_isnotB, b_addI, b_addS, b_addT, b_addL, b_sub, b_mul, b_rep, b_pow, b_shl, b_mod, b_fdiv, i_str, i_tup, i_lst, k_str, k_tup, k_lst, n_str, n_tup, n_lst, n_all, n_any, n_listL, n_listT, n_listD, n_listS, n_lenD, n_sortL, n_sortD, n_intB, n_intI, n_tupL, n_tupT, m_join, m_split, r_join, r_split, n_max2, n_sortP, n_maxS, n_minS, n_min2, n_maxL, n_minL, n_sum, n_strI, n_strS, m_upper, m_index, r_upper, r_index, i_dS, i_dI, c_inD, c_niD, key_str, key_int, wPs, at0, at1, at2, at3, ct1, ct2, ct3, ct4, tk1, tk2, tk3, dr1, dr2, dr3, dr4, tt1, tt2, tt3, zd_cons, zd_nil, zd_nil', wTy, aA, aB, List.replicate, aD, aE, aF, aG, if_true, ite_true, if_false, ite_false, true_and, and_true, cg, cgs, cgGet0, cgGetS, aH, aI, Nat.reduceAdd, Nat.zero_add, Nat.reduceLeDiff, cok_ss, cok_ii, cok_bb, cok_is, cok_si, iok, iokI, afl_s, afl_i, afl_n, bcc, bnc, bcn, bnn, ev_str, ev_int, ev_bl, aJ, aK, Nat.reduceBEq, Int.reduceBEq, aL, aM, aN, aO, aP, aQ, aR, aS, aT, aU, aV, beq_self_eq_true]
  subst e
  refine ss_cut hF (fun env => ∃ (f : Su × Su) (a7 : Option T), env = [some (.v (.script)), some (.v (.deck)), some (.v y), some (.v (.bl far)), some (.v (.lst (ks.map D.str))), some (.v (tpF ps)), some (.v (tpI ts)), a7, some (.v (lsF f)), t9, t10, some (.v (.int g)), some (.v (.int o)), a13, a14] ∧ SuK ks f.1 ∧ SuK ks f.2) (fors_go hF trivial ?_) fun env ⟨f, a7, e, hf⟩ => ?_
  · simp only [wSs, wS, wE, wOp, wOs, wV, wI, wCs, wAnd, wOr, wP, wTg, wipeE, slot0, slotS, start0, d_v, d_ol, d_od, w_tup, w_lst, w_str, isB_bl, gl_tup, gl_str, gl_int, gin_d, gix_d, itOk, eFz, c_eq, c_ne, c_ltI, c_leI, c_gtI, c_geI, c_ltS, c_leS, c_gtS, c_geS, c_inS, c_niS, c_inT, c_niT, c_inL, c_niL, c_isN, c_isnotN, c_isB, c_isnotB, b_addI, b_addS, b_addT, b_addL, b_sub, b_mul, b_rep, b_pow, b_shl, b_mod, b_fdiv, i_str, i_tup, i_lst, k_str, k_tup, k_lst, n_str, n_tup, n_lst, n_all, n_any, n_listL, n_listT, n_listD, n_listS, n_lenD, n_sortL, n_sortD, n_intB, n_intI, n_tupL, n_tupT, m_join, m_split, r_join, r_split, n_max2, n_sortP, n_maxS, n_minS, n_min2, n_maxL, n_minL, n_sum, n_strI, n_strS, m_upper, m_index, r_upper, r_index, i_dS, i_dI, c_inD, c_niD, key_str, key_int, wPs, at0, at1, at2, at3, ct1, ct2, ct3, ct4, tk1, tk2, tk3, dr1, dr2, dr3, dr4, tt1, tt2, tt3, zd_cons, zd_nil, zd_nil', wTy, aA, aB, List.replicate, aD, aE, aF, aG, if_true, ite_true, if_false, ite_false, true_and, and_true, cg, cgs, cgGet0, cgGetS, aH, aI, Nat.reduceAdd, Nat.zero_add, Nat.reduceLeDiff, cok_ss, cok_ii, cok_bb, cok_is, cok_si, iok, iokI, afl_s, afl_i, afl_n, bcc, bnc, bcn, bnn, ev_str, ev_int, ev_bl, aJ, aK, Nat.reduceBEq, Int.reduceBEq, aL, aM, aN, aO, aP, aQ, aR, aS, aT, aU, aV, beq_self_eq_true]
    refine ⟨⟨by decide, by decide⟩, fun env => ∃ (f : Su × Su) (a7 : Option T), env = [some (.v (.script)), some (.v (.deck)), some (.v y), some (.v (.bl far)), some (.v (.lst (ks.map D.str))), some (.v (tpF ps)), some (.v (tpI ts)), a7, some (.v (lsF f)), t9, t10, some (.v (.int g)), some (.v (.int o)), a13, a14] ∧ SuK ks f.1 ∧ SuK ks f.2, ⟨f, _, rfl, hf⟩, fun d _ env hi => ?_, fun env he => he⟩
    obtain ⟨f, a7, rfl, hf⟩ := hi
    refine ⟨_, rfl, ?_⟩
    unfold b_law_2
    refine asg_cut hF (fun t => ∃ f : Su × Su, t = .v (lsF f) ∧ SuK ks f.1 ∧ SuK ks f.2) ?_ fun t ⟨f, e, hf⟩ => ?_
    · simp only [wSs, wS, wE, wOp, wOs, wV, wI, wCs, wAnd, wOr, wP, wTg, wipeE, slot0, slotS, start0, d_v, d_ol, d_od, w_tup, w_lst, w_str, isB_bl, gl_tup, gl_str, gl_int, gin_d, gix_d, itOk, eFz, c_eq, c_ne, c_ltI, c_leI, c_gtI, c_geI, c_ltS, c_leS, c_gtS, c_geS, c_inS, c_niS, c_inT, c_niT, c_inL, c_niL, c_isN, c_isnotN, c_isB, c_isnotB, b_addI, b_addS, b_addT, b_addL, b_sub, b_mul, b_rep, b_pow, b_shl, b_mod, b_fdiv, i_str, i_tup, i_lst, k_str, k_tup, k_lst, n_str, n_tup, n_lst, n_all, n_any, n_listL, n_listT, n_listD, n_listS, n_lenD, n_sortL, n_sortD, n_intB, n_intI, n_tupL, n_tupT, m_join, m_split, r_join, r_split, n_max2, n_sortP, n_maxS, n_minS, n_min2, n_maxL, n_minL, n_sum, n_strI, n_strS, m_upper, m_index, r_upper, r_index, i_dS, i_dI, c_inD, c_niD, key_str, key_int, wPs, at0, at1, at2, at3, ct1, ct2, ct3, ct4, tk1, tk2, tk3, dr1, dr2, dr3, dr4, tt1, tt2, tt3, zd_cons, zd_nil, zd_nil', wTy, aA, aB, List.replicate, aD, aE, aF, aG, if_true, ite_true, if_false, ite_false, true_and, and_true, cg, cgs, cgGet0, cgGetS, aH, aI, Nat.reduceAdd, Nat.zero_add, Nat.reduceLeDiff, cok_ss, cok_ii, cok_bb, cok_is, cok_si, iok, iokI, afl_s, afl_i, afl_n, bcc, bnc, bcn, bnn, ev_str, ev_int, ev_bl, aJ, aK, Nat.reduceBEq, Int.reduceBEq, aL, aM, aN, aO, aP, aQ, aR, aS, aT, aU, aV, beq_self_eq_true]
      exact s_bent (by decide) (by omega) hf.1 hf.2 fun g h1 h2 => ⟨g, rfl, h1, h2⟩
    subst e
    simp only [wSs, wS, wE, wOp, wOs, wV, wI, wCs, wAnd, wOr, wP, wTg, wipeE, slot0, slotS, start0, d_v, d_ol, d_od, w_tup, w_lst, w_str, isB_bl, gl_tup, gl_str, gl_int, gin_d, gix_d, itOk, eFz, c_eq, c_ne, c_ltI, c_leI, c_gtI, c_geI, c_ltS, c_leS, c_gtS, c_geS, c_inS, c_niS, c_inT, c_niT, c_inL, c_niL, c_isN, c_isnotN, c_isB, c_isnotB, b_addI, b_addS, b_addT, b_addL, b_sub, b_mul, b_rep, b_pow, b_shl, b_mod, b_fdiv, i_str, i_tup, i_lst, k_str, k_tup, k_lst, n_str, n_tup, n_lst, n_all, n_any, n_listL, n_listT, n_listD, n_listS, n_lenD, n_sortL, n_sortD, n_intB, n_intI, n_tupL, n_tupT, m_join, m_split, r_join, r_split, n_max2, n_sortP, n_maxS, n_minS, n_min2, n_maxL, n_minL, n_sum, n_strI, n_strS, m_upper, m_index, r_upper, r_index, i_dS, i_dI, c_inD, c_niD, key_str, key_int, wPs, at0, at1, at2, at3, ct1, ct2, ct3, ct4, tk1, tk2, tk3, dr1, dr2, dr3, dr4, tt1, tt2, tt3, zd_cons, zd_nil, zd_nil', wTy, aA, aB, List.replicate, aD, aE, aF, aG, if_true, ite_true, if_false, ite_false, true_and, and_true, cg, cgs, cgGet0, cgGetS, aH, aI, Nat.reduceAdd, Nat.zero_add, Nat.reduceLeDiff, cok_ss, cok_ii, cok_bb, cok_is, cok_si, iok, iokI, afl_s, afl_i, afl_n, bcc, bnc, bcn, bnn, ev_str, ev_int, ev_bl, aJ, aK, Nat.reduceBEq, Int.reduceBEq, aL, aM, aN, aO, aP, aQ, aR, aS, aT, aU, aV, beq_self_eq_true]
    refine due_of (by decide) hne (by omega) hp hf ?_
    refine told_due (by decide) hne (by omega) hp hf ?_
    simp only [wSs, wS, wE, wOp, wOs, wV, wI, wCs, wAnd, wOr, wP, wTg, wipeE, slot0, slotS, start0, d_v, d_ol, d_od, w_tup, w_lst, w_str, isB_bl, gl_tup, gl_str, gl_int, gin_d, gix_d, itOk, eFz, c_eq, c_ne, c_ltI, c_leI, c_gtI, c_geI, c_ltS, c_leS, c_gtS, c_geS, c_inS, c_niS, c_inT, c_niT, c_inL, c_niL, c_isN, c_isnotN, c_isB, c_isnotB, b_addI, b_addS, b_addT, b_addL, b_sub, b_mul, b_rep, b_pow, b_shl, b_mod, b_fdiv, i_str, i_tup, i_lst, k_str, k_tup, k_lst, n_str, n_tup, n_lst, n_all, n_any, n_listL, n_listT, n_listD, n_listS, n_lenD, n_sortL, n_sortD, n_intB, n_intI, n_tupL, n_tupT, m_join, m_split, r_join, r_split, n_max2, n_sortP, n_maxS, n_minS, n_min2, n_maxL, n_minL, n_sum, n_strI, n_strS, m_upper, m_index, r_upper, r_index, i_dS, i_dI, c_inD, c_niD, key_str, key_int, wPs, at0, at1, at2, at3, ct1, ct2, ct3, ct4, tk1, tk2, tk3, dr1, dr2, dr3, dr4, tt1, tt2, tt3, zd_cons, zd_nil, zd_nil', wTy, aA, aB, List.replicate, aD, aE, aF, aG, if_true, ite_true, if_false, ite_false, true_and, and_true, cg, cgs, cgGet0, cgGetS, aH, aI, Nat.reduceAdd, Nat.zero_add, Nat.reduceLeDiff, cok_ss, cok_ii, cok_bb, cok_is, cok_si, iok, iokI, afl_s, afl_i, afl_n, bcc, bnc, bcn, bnn, ev_str, ev_int, ev_bl, aJ, aK, Nat.reduceBEq, Int.reduceBEq, aL, aM, aN, aO, aP, aQ, aR, aS, aT, aU, aV, beq_self_eq_true]
    exact ⟨f, _, rfl, hf⟩
  subst e
  have hle : Inp ks ps (ts.map fun t => if t - 1 > 0 then t - 1 else 0) := ⟨hp.s, by rw [List.length_map]; exact hp.l, by rw [List.length_map]; exact hp.l2, fun t ht => by
    obtain ⟨u, hu, rfl⟩ := List.mem_map.mp ht
    have := hp.t u hu
    constructor
    · split <;> omega
    · split <;> omega⟩
  refine asg_cut hF (fun t => t = .v (tpI (ts.map fun t => if t - 1 > 0 then t - 1 else 0))) ?_ fun t e => ?_
  · simp only [tpI, wSs, wS, wE, wOp, wOs, wV, wI, wCs, wAnd, wOr, wP, wTg, wipeE, slot0, slotS, start0, d_v, d_ol, d_od, w_tup, w_lst, w_str, isB_bl, gl_tup, gl_str, gl_int, gin_d, gix_d, itOk, eFz, c_eq, c_ne, c_ltI, c_leI, c_gtI, c_geI, c_ltS, c_leS, c_gtS, c_geS, c_inS, c_niS, c_inT, c_niT, c_inL, c_niL, c_isN, c_isnotN, c_isB, c_isnotB, b_addI, b_addS, b_addT, b_addL, b_sub, b_mul, b_rep, b_pow, b_shl, b_mod, b_fdiv, i_str, i_tup, i_lst, k_str, k_tup, k_lst, n_str, n_tup, n_lst, n_all, n_any, n_listL, n_listT, n_listD, n_listS, n_lenD, n_sortL, n_sortD, n_intB, n_intI, n_tupL, n_tupT, m_join, m_split, r_join, r_split, n_max2, n_sortP, n_maxS, n_minS, n_min2, n_maxL, n_minL, n_sum, n_strI, n_strS, m_upper, m_index, r_upper, r_index, i_dS, i_dI, c_inD, c_niD, key_str, key_int, wPs, at0, at1, at2, at3, ct1, ct2, ct3, ct4, tk1, tk2, tk3, dr1, dr2, dr3, dr4, tt1, tt2, tt3, zd_cons, zd_nil, zd_nil', wTy, aA, aB, List.replicate, aD, aE, aF, aG, if_true, ite_true, if_false, ite_false, true_and, and_true, cg, cgs, cgGet0, cgGetS, aH, aI, Nat.reduceAdd, Nat.zero_add, Nat.reduceLeDiff, cok_ss, cok_ii, cok_bb, cok_is, cok_si, iok, iokI, afl_s, afl_i, afl_n, bcc, bnc, bcn, bnn, ev_str, ev_int, ev_bl, aJ, aK, Nat.reduceBEq, Int.reduceBEq, aL, aM, aN, aO, aP, aQ, aR, aS, aT, aU, aV, beq_self_eq_true, List.length_map]
    refine ⟨by omega, wLc_mapT (v := fun (t : Int) => .int (if t - 1 > 0 then t - 1 else 0)) ts (fun t ht k hk => hk) ?_⟩
    rw [List.map_map]
    rfl
  subst e
  refine ss_cut hF (fun env => env = [some (.v (.script)), some (.v (.deck)), some (.v y), some (.v (.bl far)), some (.v (.lst (ks.map D.str))), some (.v (tpF ps)), some (.v (tpI ts)), a7, some (.v (lsF f)), some (.v (tpI (ts.map fun t => if t - 1 > 0 then t - 1 else 0))), t10, some (.v (.int g)), some (.v (.int o)), a13, a14]) (by simp only [wSs, wS, wE, wOp, wOs, wV, wI, wCs, wAnd, wOr, wP, wTg, wipeE, slot0, slotS, start0, d_v, d_ol, d_od, w_tup, w_lst, w_str, isB_bl, gl_tup, gl_str, gl_int, gin_d, gix_d, itOk, eFz, c_eq, c_ne, c_ltI, c_leI, c_gtI, c_geI, c_ltS, c_leS, c_gtS, c_geS, c_inS, c_niS, c_inT, c_niT, c_inL, c_niL, c_isN, c_isnotN, c_isB, c_isnotB, b_addI, b_addS, b_addT, b_addL, b_sub, b_mul, b_rep, b_pow, b_shl, b_mod, b_fdiv, i_str, i_tup, i_lst, k_str, k_tup, k_lst, n_str, n_tup, n_lst, n_all, n_any, n_listL, n_listT, n_listD, n_listS, n_lenD, n_sortL, n_sortD, n_intB, n_intI, n_tupL, n_tupT, m_join, m_split, r_join, r_split, n_max2, n_sortP, n_maxS, n_minS, n_min2, n_maxL, n_minL, n_sum, n_strI, n_strS, m_upper, m_index, r_upper, r_index, i_dS, i_dI, c_inD, c_niD, key_str, key_int, wPs, at0, at1, at2, at3, ct1, ct2, ct3, ct4, tk1, tk2, tk3, dr1, dr2, dr3, dr4, tt1, tt2, tt3, zd_cons, zd_nil, zd_nil', wTy, aA, aB, List.replicate, aD, aE, aF, aG, if_true, ite_true, if_false, ite_false, true_and, and_true, cg, cgs, cgGet0, cgGetS, aH, aI, Nat.reduceAdd, Nat.zero_add, Nat.reduceLeDiff, cok_ss, cok_ii, cok_bb, cok_is, cok_si, iok, iokI, afl_s, afl_i, afl_n, bcc, bnc, bcn, bnn, ev_str, ev_int, ev_bl, aJ, aK, Nat.reduceBEq, Int.reduceBEq, aL, aM, aN, aO, aP, aQ, aR, aS, aT, aU, aV, beq_self_eq_true]) fun env e => ?_
  subst e
  refine ss_cut hF (fun env => env = [some (.v (.script)), some (.v (.deck)), some (.v y), some (.v (.bl far)), some (.v (.lst (ks.map D.str))), some (.v (tpF ps)), some (.v (tpI ts)), a7, some (.v (lsF f)), some (.v (tpI (ts.map fun t => if t - 1 > 0 then t - 1 else 0))), t10, some (.v (.int g)), some (.v (.int o)), a13, a14]) ?_ fun env e => ?_
  · simp only [wSs, wS, wE, wOp, wOs, wV, wI, wCs, wAnd, wOr, wP, wTg, wipeE, slot0, slotS, start0, d_v, d_ol, d_od, w_tup, w_lst, w_str, isB_bl, gl_tup, gl_str, gl_int, gin_d, gix_d, itOk, eFz, c_eq, c_ne, c_ltI, c_leI, c_gtI, c_geI, c_ltS, c_leS, c_gtS, c_geS, c_inS, c_niS, c_inT, c_niT, c_inL, c_niL, c_isN, c_isnotN, c_isB, c_isnotB, b_addI, b_addS, b_addT, b_addL, b_sub, b_mul, b_rep, b_pow, b_shl, b_mod, b_fdiv, i_str, i_tup, i_lst, k_str, k_tup, k_lst, n_str, n_tup, n_lst, n_all, n_any, n_listL, n_listT, n_listD, n_listS, n_lenD, n_sortL, n_sortD, n_intB, n_intI, n_tupL, n_tupT, m_join, m_split, r_join, r_split, n_max2, n_sortP, n_maxS, n_minS, n_min2, n_maxL, n_minL, n_sum, n_strI, n_strS, m_upper, m_index, r_upper, r_index, i_dS, i_dI, c_inD, c_niD, key_str, key_int, wPs, at0, at1, at2, at3, ct1, ct2, ct3, ct4, tk1, tk2, tk3, dr1, dr2, dr3, dr4, tt1, tt2, tt3, zd_cons, zd_nil, zd_nil', wTy, aA, aB, List.replicate, aD, aE, aF, aG, if_true, ite_true, if_false, ite_false, true_and, and_true, cg, cgs, cgGet0, cgGetS, aH, aI, Nat.reduceAdd, Nat.zero_add, Nat.reduceLeDiff, cok_ss, cok_ii, cok_bb, cok_is, cok_si, iok, iokI, afl_s, afl_i, afl_n, bcc, bnc, bcn, bnn, ev_str, ev_int, ev_bl, aJ, aK, Nat.reduceBEq, Int.reduceBEq, aL, aM, aN, aO, aP, aQ, aR, aS, aT, aU, aV, beq_self_eq_true]
    refine due_of (by decide) hne (by omega) hle hf ?_
    refine told_due (by decide) hne (by omega) hle hf ?_
    simp only [wSs, wS, wE, wOp, wOs, wV, wI, wCs, wAnd, wOr, wP, wTg, wipeE, slot0, slotS, start0, d_v, d_ol, d_od, w_tup, w_lst, w_str, isB_bl, gl_tup, gl_str, gl_int, gin_d, gix_d, itOk, eFz, c_eq, c_ne, c_ltI, c_leI, c_gtI, c_geI, c_ltS, c_leS, c_gtS, c_geS, c_inS, c_niS, c_inT, c_niT, c_inL, c_niL, c_isN, c_isnotN, c_isB, c_isnotB, b_addI, b_addS, b_addT, b_addL, b_sub, b_mul, b_rep, b_pow, b_shl, b_mod, b_fdiv, i_str, i_tup, i_lst, k_str, k_tup, k_lst, n_str, n_tup, n_lst, n_all, n_any, n_listL, n_listT, n_listD, n_listS, n_lenD, n_sortL, n_sortD, n_intB, n_intI, n_tupL, n_tupT, m_join, m_split, r_join, r_split, n_max2, n_sortP, n_maxS, n_minS, n_min2, n_maxL, n_minL, n_sum, n_strI, n_strS, m_upper, m_index, r_upper, r_index, i_dS, i_dI, c_inD, c_niD, key_str, key_int, wPs, at0, at1, at2, at3, ct1, ct2, ct3, ct4, tk1, tk2, tk3, dr1, dr2, dr3, dr4, tt1, tt2, tt3, zd_cons, zd_nil, zd_nil', wTy, aA, aB, List.replicate, aD, aE, aF, aG, if_true, ite_true, if_false, ite_false, true_and, and_true, cg, cgs, cgGet0, cgGetS, aH, aI, Nat.reduceAdd, Nat.zero_add, Nat.reduceLeDiff, cok_ss, cok_ii, cok_bb, cok_is, cok_si, iok, iokI, afl_s, afl_i, afl_n, bcc, bnc, bcn, bnn, ev_str, ev_int, ev_bl, aJ, aK, Nat.reduceBEq, Int.reduceBEq, aL, aM, aN, aO, aP, aQ, aR, aS, aT, aU, aV, beq_self_eq_true]
  subst e
  refine asg_cut hF (fun t => ∃ d, t = .v d ∧ Odd d) ?_ fun t ⟨od, e, hod⟩ => ?_
  · simp only [wSs, wS, wE, wOp, wOs, wV, wI, wCs, wAnd, wOr, wP, wTg, wipeE, slot0, slotS, start0, d_v, d_ol, d_od, w_tup, w_lst, w_str, isB_bl, gl_tup, gl_str, gl_int, gin_d, gix_d, itOk, eFz, c_eq, c_ne, c_ltI, c_leI, c_gtI, c_geI, c_ltS, c_leS, c_gtS, c_geS, c_inS, c_niS, c_inT, c_niT, c_inL, c_niL, c_isN, c_isnotN, c_isB, c_isnotB, b_addI, b_addS, b_addT, b_addL, b_sub, b_mul, b_rep, b_pow, b_shl, b_mod, b_fdiv, i_str, i_tup, i_lst, k_str, k_tup, k_lst, n_str, n_tup, n_lst, n_all, n_any, n_listL, n_listT, n_listD, n_listS, n_lenD, n_sortL, n_sortD, n_intB, n_intI, n_tupL, n_tupT, m_join, m_split, r_join, r_split, n_max2, n_sortP, n_maxS, n_minS, n_min2, n_maxL, n_minL, n_sum, n_strI, n_strS, m_upper, m_index, r_upper, r_index, i_dS, i_dI, c_inD, c_niD, key_str, key_int, wPs, at0, at1, at2, at3, ct1, ct2, ct3, ct4, tk1, tk2, tk3, dr1, dr2, dr3, dr4, tt1, tt2, tt3, zd_cons, zd_nil, zd_nil', wTy, aA, aB, List.replicate, aD, aE, aF, aG, if_true, ite_true, if_false, ite_false, true_and, and_true, cg, cgs, cgGet0, cgGetS, aH, aI, Nat.reduceAdd, Nat.zero_add, Nat.reduceLeDiff, cok_ss, cok_ii, cok_bb, cok_is, cok_si, iok, iokI, afl_s, afl_i, afl_n, bcc, bnc, bcn, bnn, ev_str, ev_int, ev_bl, aJ, aK, Nat.reduceBEq, Int.reduceBEq, aL, aM, aN, aO, aP, aQ, aR, aS, aT, aU, aV, beq_self_eq_true]
    exact s_draw (by decide) (by decide) (by decide) fun w w0 w1 => ixTwo w0 w1 ⟨_, rfl, _, _, rfl, by decide⟩ ⟨_, rfl, _, _, rfl, by decide⟩
  subst e
  simp only [List.set_cons_zero, List.set_cons_succ]
  refine ss_cut hF (fun env => env = [some (.v (.script)), some (.v (.deck)), some (.v y), some (.v (.bl far)), some (.v (.lst (ks.map D.str))), some (.v (tpF ps)), some (.v (tpI ts)), a7, some (.v (lsF f)), some (.v (tpI (ts.map fun t => if t - 1 > 0 then t - 1 else 0))), some (.v (od)), some (.v (.int g)), some (.v (.int o)), a13, a14]) ?_ fun env e => ?_
  · simp only [tpF, tpI, wSs, wS, wE, wOp, wOs, wV, wI, wCs, wAnd, wOr, wP, wTg, wipeE, slot0, slotS, start0, d_v, d_ol, d_od, w_tup, w_lst, w_str, isB_bl, gl_tup, gl_str, gl_int, gin_d, gix_d, itOk, eFz, c_eq, c_ne, c_ltI, c_leI, c_gtI, c_geI, c_ltS, c_leS, c_gtS, c_geS, c_inS, c_niS, c_inT, c_niT, c_inL, c_niL, c_isN, c_isnotN, c_isB, c_isnotB, b_addI, b_addS, b_addT, b_addL, b_sub, b_mul, b_rep, b_pow, b_shl, b_mod, b_fdiv, i_str, i_tup, i_lst, k_str, k_tup, k_lst, n_str, n_tup, n_lst, n_all, n_any, n_listL, n_listT, n_listD, n_listS, n_lenD, n_sortL, n_sortD, n_intB, n_intI, n_tupL, n_tupT, m_join, m_split, r_join, r_split, n_max2, n_sortP, n_maxS, n_minS, n_min2, n_maxL, n_minL, n_sum, n_strI, n_strS, m_upper, m_index, r_upper, r_index, i_dS, i_dI, c_inD, c_niD, key_str, key_int, wPs, at0, at1, at2, at3, ct1, ct2, ct3, ct4, tk1, tk2, tk3, dr1, dr2, dr3, dr4, tt1, tt2, tt3, zd_cons, zd_nil, zd_nil', wTy, aA, aB, List.replicate, aD, aE, aF, aG, if_true, ite_true, if_false, ite_false, true_and, and_true, cg, cgs, cgGet0, cgGetS, aH, aI, Nat.reduceAdd, Nat.zero_add, Nat.reduceLeDiff, cok_ss, cok_ii, cok_bb, cok_is, cok_si, iok, iokI, afl_s, afl_i, afl_n, bcc, bnc, bcn, bnn, ev_str, ev_int, ev_bl, aJ, aK, Nat.reduceBEq, Int.reduceBEq, aL, aM, aN, aO, aP, aQ, aR, aS, aT, aU, aV, beq_self_eq_true, List.length_map]
    refine ⟨by omega, s_draw (by decide) (by decide) (by decide) fun z z0 z1 => ?_⟩
    refine ⟨by omega, told_odd2 (by decide) hod z0 hp ?_⟩
    simp only [wSs, wS, wE, wOp, wOs, wV, wI, wCs, wAnd, wOr, wP, wTg, wipeE, slot0, slotS, start0, d_v, d_ol, d_od, w_tup, w_lst, w_str, isB_bl, gl_tup, gl_str, gl_int, gin_d, gix_d, itOk, eFz, c_eq, c_ne, c_ltI, c_leI, c_gtI, c_geI, c_ltS, c_leS, c_gtS, c_geS, c_inS, c_niS, c_inT, c_niT, c_inL, c_niL, c_isN, c_isnotN, c_isB, c_isnotB, b_addI, b_addS, b_addT, b_addL, b_sub, b_mul, b_rep, b_pow, b_shl, b_mod, b_fdiv, i_str, i_tup, i_lst, k_str, k_tup, k_lst, n_str, n_tup, n_lst, n_all, n_any, n_listL, n_listT, n_listD, n_listS, n_lenD, n_sortL, n_sortD, n_intB, n_intI, n_tupL, n_tupT, m_join, m_split, r_join, r_split, n_max2, n_sortP, n_maxS, n_minS, n_min2, n_maxL, n_minL, n_sum, n_strI, n_strS, m_upper, m_index, r_upper, r_index, i_dS, i_dI, c_inD, c_niD, key_str, key_int, wPs, at0, at1, at2, at3, ct1, ct2, ct3, ct4, tk1, tk2, tk3, dr1, dr2, dr3, dr4, tt1, tt2, tt3, zd_cons, zd_nil, zd_nil', wTy, aA, aB, List.replicate, aD, aE, aF, aG, if_true, ite_true, if_false, ite_false, true_and, and_true, cg, cgs, cgGet0, cgGetS, aH, aI, Nat.reduceAdd, Nat.zero_add, Nat.reduceLeDiff, cok_ss, cok_ii, cok_bb, cok_is, cok_si, iok, iokI, afl_s, afl_i, afl_n, bcc, bnc, bcn, bnn, ev_str, ev_int, ev_bl, aJ, aK, Nat.reduceBEq, Int.reduceBEq, aL, aM, aN, aO, aP, aQ, aR, aS, aT, aU, aV, beq_self_eq_true]
  subst e
  refine ss_cut hF (fun env => env = [some (.v (.script)), some (.v (.deck)), some (.v y), some (.v (.bl far)), some (.v (.lst (ks.map D.str))), some (.v (tpF ps)), some (.v (tpI ts)), a7, some (.v (lsF f)), some (.v (tpI (ts.map fun t => if t - 1 > 0 then t - 1 else 0))), some (.v (od)), some (.v (.int g)), some (.v (.int o)), a13, a14]) (by simp only [wSs, wS, wE, wOp, wOs, wV, wI, wCs, wAnd, wOr, wP, wTg, wipeE, slot0, slotS, start0, d_v, d_ol, d_od, w_tup, w_lst, w_str, isB_bl, gl_tup, gl_str, gl_int, gin_d, gix_d, itOk, eFz, c_eq, c_ne, c_ltI, c_leI, c_gtI, c_geI, c_ltS, c_leS, c_gtS, c_geS, c_inS, c_niS, c_inT, c_niT, c_inL, c_niL, c_isN, c_isnotN, c_isB, c_isnotB, b_addI, b_addS, b_addT, b_addL, b_sub, b_mul, b_rep, b_pow, b_shl, b_mod, b_fdiv, i_str, i_tup, i_lst, k_str, k_tup, k_lst, n_str, n_tup, n_lst, n_all, n_any, n_listL, n_listT, n_listD, n_listS, n_lenD, n_sortL, n_sortD, n_intB, n_intI, n_tupL, n_tupT, m_join, m_split, r_join, r_split, n_max2, n_sortP, n_maxS, n_minS, n_min2, n_maxL, n_minL, n_sum, n_strI, n_strS, m_upper, m_index, r_upper, r_index, i_dS, i_dI, c_inD, c_niD, key_str, key_int, wPs, at0, at1, at2, at3, ct1, ct2, ct3, ct4, tk1, tk2, tk3, dr1, dr2, dr3, dr4, tt1, tt2, tt3, zd_cons, zd_nil, zd_nil', wTy, aA, aB, List.replicate, aD, aE, aF, aG, if_true, ite_true, if_false, ite_false, true_and, and_true, cg, cgs, cgGet0, cgGetS, aH, aI, Nat.reduceAdd, Nat.zero_add, Nat.reduceLeDiff, cok_ss, cok_ii, cok_bb, cok_is, cok_si, iok, iokI, afl_s, afl_i, afl_n, bcc, bnc, bcn, bnn, ev_str, ev_int, ev_bl, aJ, aK, Nat.reduceBEq, Int.reduceBEq, aL, aM, aN, aO, aP, aQ, aR, aS, aT, aU, aV, beq_self_eq_true]) fun env e => ?_
  subst e
  simp only [wSs, wS, wE, wOp, wOs, wV, wI, wCs, wAnd, wOr, wP, wTg, wipeE, slot0, slotS, start0, d_v, d_ol, d_od, w_tup, w_lst, w_str, isB_bl, gl_tup, gl_str, gl_int, gin_d, gix_d, itOk, eFz, c_eq, c_ne, c_ltI, c_leI, c_gtI, c_geI, c_ltS, c_leS, c_gtS, c_geS, c_inS, c_niS, c_inT, c_niT, c_inL, c_niL, c_isN, c_isnotN, c_isB, c_isnotB, b_addI, b_addS, b_addT, b_addL, b_sub, b_mul, b_rep, b_pow, b_shl, b_mod, b_fdiv, i_str, i_tup, i_lst, k_str, k_tup, k_lst, n_str, n_tup, n_lst, n_all, n_any, n_listL, n_listT, n_listD, n_listS, n_lenD, n_sortL, n_sortD, n_intB, n_intI, n_tupL, n_tupT, m_join, m_split, r_join, r_split, n_max2, n_sortP, n_maxS, n_minS, n_min2, n_maxL, n_minL, n_sum, n_strI, n_strS, m_upper, m_index, r_upper, r_index, i_dS, i_dI, c_inD, c_niD, key_str, key_int, wPs, at0, at1, at2, at3, ct1, ct2, ct3, ct4, tk1, tk2, tk3, dr1, dr2, dr3, dr4, tt1, tt2, tt3, zd_cons, zd_nil, zd_nil', wTy, aA, aB, List.replicate, aD, aE, aF, aG, if_true, ite_true, if_false, ite_false, true_and, and_true, cg, cgs, cgGet0, cgGetS, aH, aI, Nat.reduceAdd, Nat.zero_add, Nat.reduceLeDiff, cok_ss, cok_ii, cok_bb, cok_is, cok_si, iok, iokI, afl_s, afl_i, afl_n, bcc, bnc, bcn, bnn, ev_str, ev_int, ev_bl, aJ, aK, Nat.reduceBEq, Int.reduceBEq, aL, aM, aN, aO, aP, aQ, aR, aS, aT, aU, aV, beq_self_eq_true]
  refine told_odd1 (by decide) hod hp ?_
  simp only [wSs, wS, wE, wOp, wOs, wV, wI, wCs, wAnd, wOr, wP, wTg, wipeE, slot0, slotS, start0, d_v, d_ol, d_od, w_tup, w_lst, w_str, isB_bl, gl_tup, gl_str, gl_int, gin_d, gix_d, itOk, eFz, c_eq, c_ne, c_ltI, c_leI, c_gtI, c_geI, c_ltS, c_leS, c_gtS, c_geS, c_inS, c_niS, c_inT, c_niT, c_inL, c_niL, c_isN, c_isnotN, c_isB, c_isnotB, b_addI, b_addS, b_addT, b_addL, b_sub, b_mul, b_rep, b_pow, b_shl, b_mod, b_fdiv, i_str, i_tup, i_lst, k_str, k_tup, k_lst, n_str, n_tup, n_lst, n_all, n_any, n_listL, n_listT, n_listD, n_listS, n_lenD, n_sortL, n_sortD, n_intB, n_intI, n_tupL, n_tupT, m_join, m_split, r_join, r_split, n_max2, n_sortP, n_maxS, n_minS, n_min2, n_maxL, n_minL, n_sum, n_strI, n_strS, m_upper, m_index, r_upper, r_index, i_dS, i_dI, c_inD, c_niD, key_str, key_int, wPs, at0, at1, at2, at3, ct1, ct2, ct3, ct4, tk1, tk2, tk3, dr1, dr2, dr3, dr4, tt1, tt2, tt3, zd_cons, zd_nil, zd_nil', wTy, aA, aB, List.replicate, aD, aE, aF, aG, if_true, ite_true, if_false, ite_false, true_and, and_true, cg, cgs, cgGet0, cgGetS, aH, aI, Nat.reduceAdd, Nat.zero_add, Nat.reduceLeDiff, cok_ss, cok_ii, cok_bb, cok_is, cok_si, iok, iokI, afl_s, afl_i, afl_n, bcc, bnc, bcn, bnn, ev_str, ev_int, ev_bl, aJ, aK, Nat.reduceBEq, Int.reduceBEq, aL, aM, aN, aO, aP, aQ, aR, aS, aT, aU, aV, beq_self_eq_true]
  exact ⟨_, _, _, _, _, _, _, _, _, _, _, _, _, rfl⟩
end LC

namespace LC
open PySem PySem.Spec PyProof.Rows L2
def defM (x o q : Str) (st : Stmt) : He.DefD := ⟨(x, some o), o, q, defArgs st, defBody st, defScope st, [], []⟩
def defD (x o : Str) (st : Stmt) (dl : List He.Dv) : He.DefD := ⟨(x, none), o, o, defArgs st, defBody st, defScope st, dl, []⟩
def look : Look := ⟨[defD "laid_on" "laid_on" (topS 1) [],
  defD "over" "over" (topS 2) [],
  defD "are_times" "are_times" (topS 3) [],
  defD "summed" "summed" (topS 4) [],
  defD "_law_mixed" "_law_mixed" (topS 6) [],
  defD "_law_deck" "_law_deck" (topS 7) [],
  defD "_law_draw" "_law_draw" (topS 8) [],
  defD "_law_word" "_law_word" (topS 9) [],
  defD "_law_kinds" "_law_kinds" (topS 10) [],
  defD "_law_names" "_law_names" (topS 11) [],
  defD "_law_letter" "_law_letter" (topS 12) [],
  defD "_law_sum" "_law_sum" (topS 13) [],
  defD "_law_count" "_law_count" (topS 14) [],
  defD "_law_more" "_law_more" (topS 15) [],
  defD "_law_over" "_law_over" (topS 16) [],
  defD "_law_due" "_law_due" (topS 17) [],
  defD "_law_side" "_law_side" (topS 18) [],
  defD "_law_built" "_law_built" (topS 19) [],
  defD "_law_bent_sum" "_law_bent_sum" (topS 20) [],
  defD "_law_bent" "_law_bent" (topS 21) [],
  defD "_law_told" "_law_told" (topS 22) [],
  defD "law" "law" (topS 23) []], glsT.map fun p => (p.1, cg p.2),
  ["len", "all", "any", "list", "tuple", "sorted", "int", "isinstance", "range", "str", "bool", "reversed", "sum", "max", "min", "zip", "enumerate", "set", "dict"], [0, 1], clsT⟩
def faK (K : PySem.W.Frag) : (Nat → Option Addr) × (Nat → Option Addr) := (look.fa K, look.ca K)
abbrev GK (K : PySem.W.Frag) : Gx := GF K (faK K)
section
variable {P : Program} {w : World} {K : PySem.W.Frag} {mg : Str → Option Value} {base h : Heap} (X : K.In h) (Gh : h.Ns mainGlobals mg) (c : look.obs K = look.val w)
theorem is0 : isSs ⟨["found", "total", "often", "parts", "number", "kind", "times"], fnsT, glsT, dfsT, lfsT⟩ (defScope (topS 1)) b_laid_on (defBody (topS 1)) = true := by decide +kernel
include c in
theorem knL0 : KnownL K fnsT glsT dfsT lfsT tab 0 0 (He.fAd K ("laid_on", none)) := by
  obtain ⟨fd, D⟩ := Look.funD c 0 (d := defD "laid_on" "laid_on" (topS 1) []) rfl
  exact ⟨_, _, topS 1, _, _, fd, ["found", "total", "often", "parts", "number", "kind", "times"], ["found", "total", "often"], _, rfl, D, ⟨rfl, rfl, rfl, by decide +kernel, rfl, by decide +kernel, by decide +kernel⟩, (D.bindsN fun _ _ _ _ _ _ us hl => match us, hl with | [_, _, _], _ => rfl), by decide, is0⟩
theorem is1 : isSs ⟨["form", "found", "often"], fnsT, glsT, dfsT, lfsT⟩ (defScope (topS 2)) b_over (defBody (topS 2)) = true := by decide +kernel
include c in
theorem knL1 : KnownL K fnsT glsT dfsT lfsT tab 1 1 (He.fAd K ("over", none)) := by
  obtain ⟨fd, D⟩ := Look.funD c 1 (d := defD "over" "over" (topS 2) []) rfl
  exact ⟨_, _, topS 2, _, _, fd, ["form", "found", "often"], ["form", "found", "often"], _, rfl, D, ⟨rfl, rfl, rfl, by decide +kernel, rfl, by decide +kernel, by decide +kernel⟩, (D.bindsN fun _ _ _ _ _ _ us hl => match us, hl with | [_, _, _], _ => rfl), by decide, is1⟩
theorem is2 : isSs ⟨["times", "many", "often"], fnsT, glsT, dfsT, lfsT⟩ (defScope (topS 3)) b_are_times (defBody (topS 3)) = true := by decide +kernel
include c in
theorem kn2 : Known P w K mg base (GK K) fnsT glsT dfsT lfsT tab 2 (He.fAd K ("are_times", none)) := by
  obtain ⟨fd, D⟩ := Look.funD c 2 (d := defD "are_times" "are_times" (topS 3) []) rfl
  exact .body (st := (topS 3)) (N := ["times", "many", "often"]) (ps := ["times", "many"]) rfl D ⟨rfl, rfl, rfl, by decide +kernel, rfl, by decide +kernel, by decide +kernel⟩ (D.bindsN fun _ _ _ _ _ _ us hl => match us, hl with | [_, _], _ => rfl) (fun dl hd => by simp [dfsT] at hd) is2
theorem is3 : isSs ⟨["form", "forms", "times", "found", "one", "often", "kind"], fnsT, glsT, dfsT, lfsT⟩ (defScope (topS 4)) b_summed (defBody (topS 4)) = true := by decide +kernel
include c in
theorem kn3 : Known P w K mg base (GK K) fnsT glsT dfsT lfsT tab 3 (He.fAd K ("summed", none)) := by
  obtain ⟨fd, D⟩ := Look.funD c 3 (d := defD "summed" "summed" (topS 4) []) rfl
  exact .body (st := (topS 4)) (N := ["form", "forms", "times", "found", "one", "often", "kind"]) (ps := ["form", "forms", "times"]) rfl D ⟨rfl, rfl, rfl, by decide +kernel, rfl, by decide +kernel, by decide +kernel⟩ (D.bindsN fun _ _ _ _ _ _ us hl => match us, hl with | [_, _, _], _ => rfl) (fun dl hd => by simp [dfsT] at hd) is3
include c in
theorem kn4 : Known P w K mg base (GK K) fnsT glsT dfsT lfsT tab 4 (He.fAd K ("_law_mixed", none)) := by
  obtain ⟨fd, F⟩ := Look.fun_ c 4 (st := topS 6) rfl rfl rfl rfl rfl
  exact .prim (ps := ["_law_cell", "_law_k"]) rfl F.kp (F.binds fun _ _ _ _ _ _ us hl => match us, hl with | [_, _], _ => rfl) (fun dl hd => by simp [dfsT] at hd) (prim_mixed F)
include X Gh c in
theorem kn5 : Known P w K mg base (GK K) fnsT glsT dfsT lfsT tab 5 (He.fAd K ("_law_deck", none)) := by
  obtain ⟨fd, F⟩ := Look.fun_ c 5 (st := topS 7) rfl rfl rfl rfl rfl
  exact .prim (ps := ["_law_script"]) rfl F.kp (F.binds fun _ _ _ _ _ _ us hl => match us, hl with | [_], _ => rfl) (fun dl hd => by simp [dfsT] at hd) ((ok_deck F (free_of X Gh c (by decide +kernel)) (free_of X Gh c (by decide +kernel))).mono (by decide))
include X Gh c in
theorem kn6 : Known P w K mg base (GK K) fnsT glsT dfsT lfsT tab 6 (He.fAd K ("_law_draw", none)) := by
  obtain ⟨fd, F⟩ := Look.fun_ c 6 (st := topS 8) rfl rfl rfl rfl rfl
  obtain ⟨fdM, FM⟩ := Look.fun_ c 4 (st := topS 6) rfl rfl rfl rfl rfl
  have bM := FM.binds (ps := ["_law_cell", "_law_k"]) fun _ _ _ _ _ _ us hl => match us, hl with | [_, _], _ => rfl
  have mM := PySem.W.mg_of X Gh (((Look.parts c).1 _ (List.mem_of_getElem? (show look.defs[4]? = some (defD "_law_mixed" "_law_mixed" (topS 6) []) from rfl))).1 rfl)
  exact .prim (ps := ["_law_deck_here", "_law_most"]) rfl F.kp (F.binds fun _ _ _ _ _ _ us hl => match us, hl with | [_, _], _ => rfl) (fun dl hd => by simp [dfsT] at hd) ((ok_draw F FM bM mM (free_of X Gh c (by decide +kernel))).mono (by decide))
theorem is7 : isSs ⟨["_law_deck_here", "_law_least", "_law_most", "_law_letters", "_law_word_here", "_law_k"], fnsT, glsT, dfsT, lfsT⟩ (defScope (topS 9)) b_l_word (defBody (topS 9)) = true := by decide +kernel
include c in
theorem kn7 : Known P w K mg base (GK K) fnsT glsT dfsT lfsT tab 7 (He.fAd K ("_law_word", none)) := by
  obtain ⟨fd, D⟩ := Look.funD c 7 (d := defD "_law_word" "_law_word" (topS 9) []) rfl
  exact .body (st := (topS 9)) (N := ["_law_deck_here", "_law_least", "_law_most", "_law_letters", "_law_word_here", "_law_k"]) (ps := ["_law_deck_here", "_law_least", "_law_most"]) rfl D ⟨rfl, rfl, rfl, by decide +kernel, rfl, by decide +kernel, by decide +kernel⟩ (D.bindsN fun _ _ _ _ _ _ us hl => match us, hl with | [_, _, _], _ => rfl) (fun dl hd => by simp [dfsT] at hd) is7
theorem is8 : isSs ⟨["_law_deck_here", "_law_many", "_law_taken", "_law_kinds_here", "_law_k", "_law_word_here", "_law_way", "_law_at", "_law_one", "_law_sign"], fnsT, glsT, dfsT, lfsT⟩ (defScope (topS 10)) b_l_kinds (defBody (topS 10)) = true := by decide +kernel
include c in
theorem kn8 : Known P w K mg base (GK K) fnsT glsT dfsT lfsT tab 8 (He.fAd K ("_law_kinds", none)) := by
  obtain ⟨fd, D⟩ := Look.funD c 8 (d := defD "_law_kinds" "_law_kinds" (topS 10) []) rfl
  exact .body (st := (topS 10)) (N := ["_law_deck_here", "_law_many", "_law_taken", "_law_kinds_here", "_law_k", "_law_word_here", "_law_way", "_law_at", "_law_one", "_law_sign"]) (ps := ["_law_deck_here", "_law_many"]) rfl D ⟨rfl, rfl, rfl, by decide +kernel, rfl, by decide +kernel, by decide +kernel⟩ (D.bindsN fun _ _ _ _ _ _ us hl => match us, hl with | [_, _], _ => rfl) (fun dl hd => by simp [dfsT] at hd) is8
theorem is9 : isSs ⟨["_law_deck_here", "_law_many", "_law_names_here", "_law_k", "_law_name", "_law_one"], fnsT, glsT, dfsT, lfsT⟩ (defScope (topS 11)) b_l_names (defBody (topS 11)) = true := by decide +kernel
include c in
theorem kn9 : Known P w K mg base (GK K) fnsT glsT dfsT lfsT tab 9 (He.fAd K ("_law_names", none)) := by
  obtain ⟨fd, D⟩ := Look.funD c 9 (d := defD "_law_names" "_law_names" (topS 11) []) rfl
  exact .body (st := (topS 11)) (N := ["_law_deck_here", "_law_many", "_law_names_here", "_law_k", "_law_name", "_law_one"]) (ps := ["_law_deck_here", "_law_many"]) rfl D ⟨rfl, rfl, rfl, by decide +kernel, rfl, by decide +kernel, by decide +kernel⟩ (D.bindsN fun _ _ _ _ _ _ us hl => match us, hl with | [_, _], _ => rfl) (fun dl hd => by simp [dfsT] at hd) is9
theorem is10 : isSs ⟨["_law_deck_here"], fnsT, glsT, dfsT, lfsT⟩ (defScope (topS 12)) b_l_letter (defBody (topS 12)) = true := by decide +kernel
include c in
theorem kn10 : Known P w K mg base (GK K) fnsT glsT dfsT lfsT tab 10 (He.fAd K ("_law_letter", none)) := by
  obtain ⟨fd, D⟩ := Look.funD c 10 (d := defD "_law_letter" "_law_letter" (topS 12) []) rfl
  exact .body (st := (topS 12)) (N := ["_law_deck_here"]) (ps := ["_law_deck_here"]) rfl D ⟨rfl, rfl, rfl, by decide +kernel, rfl, by decide +kernel, by decide +kernel⟩ (D.bindsN fun _ _ _ _ _ _ us hl => match us, hl with | [_], _ => rfl) (fun dl hd => by simp [dfsT] at hd) is10
theorem is11 : isSs ⟨["_law_deck_here", "_law_kinds_here", "_law_great", "_law_parts", "_law_kind"], fnsT, glsT, dfsT, lfsT⟩ (defScope (topS 13)) b_l_sum (defBody (topS 13)) = true := by decide +kernel
include c in
theorem kn11 : Known P w K mg base (GK K) fnsT glsT dfsT lfsT tab 11 (He.fAd K ("_law_sum", none)) := by
  obtain ⟨fd, D⟩ := Look.funD c 11 (d := defD "_law_sum" "_law_sum" (topS 13) []) rfl
  exact .body (st := (topS 13)) (N := ["_law_deck_here", "_law_kinds_here", "_law_great", "_law_parts", "_law_kind"]) (ps := ["_law_deck_here", "_law_kinds_here", "_law_great"]) rfl D ⟨rfl, rfl, rfl, by decide +kernel, rfl, by decide +kernel, by decide +kernel⟩ (D.bindsN fun _ _ _ _ _ _ us hl => match us, hl with | [_, _, _], _ => rfl) (fun dl hd => by simp [dfsT] at hd) is11
theorem is12 : isSs ⟨["_law_total", "_law_counts", "_law_kind", "_law_times"], fnsT, glsT, dfsT, lfsT⟩ (defScope (topS 14)) b_l_count (defBody (topS 14)) = true := by decide +kernel
include c in
theorem kn12 : Known P w K mg base (GK K) fnsT glsT dfsT lfsT tab 12 (He.fAd K ("_law_count", none)) := by
  obtain ⟨fd, D⟩ := Look.funD c 12 (d := defD "_law_count" "_law_count" (topS 14) []) rfl
  exact .body (st := (topS 14)) (N := ["_law_total", "_law_counts", "_law_kind", "_law_times"]) (ps := ["_law_total", "_law_counts"]) rfl D ⟨rfl, rfl, rfl, by decide +kernel, rfl, by decide +kernel, by decide +kernel⟩ (D.bindsN fun _ _ _ _ _ _ us hl => match us, hl with | [_, _], _ => rfl) (fun dl hd => by simp [dfsT] at hd) is12
theorem is13 : isSs ⟨["_law_form", "_law_counts"], fnsT, glsT, dfsT, lfsT⟩ (defScope (topS 15)) b_l_more (defBody (topS 15)) = true := by decide +kernel
include c in
theorem kn13 : Known P w K mg base (GK K) fnsT glsT dfsT lfsT tab 13 (He.fAd K ("_law_more", none)) := by
  obtain ⟨fd, D⟩ := Look.funD c 13 (d := defD "_law_more" "_law_more" (topS 15) []) rfl
  exact .body (st := (topS 15)) (N := ["_law_form", "_law_counts"]) (ps := ["_law_form", "_law_counts"]) rfl D ⟨rfl, rfl, rfl, by decide +kernel, rfl, by decide +kernel, by decide +kernel⟩ (D.bindsN fun _ _ _ _ _ _ us hl => match us, hl with | [_, _], _ => rfl) (fun dl hd => by simp [dfsT] at hd) is13
theorem is14 : isSs ⟨["_law_form", "_law_forms", "_law_times", "_law_counts", "_law_found", "_law_k"], fnsT, glsT, dfsT, lfsT⟩ (defScope (topS 16)) b_l_over (defBody (topS 16)) = true := by decide +kernel
include c in
theorem kn14 : Known P w K mg base (GK K) fnsT glsT dfsT lfsT tab 14 (He.fAd K ("_law_over", none)) := by
  obtain ⟨fd, D⟩ := Look.funD c 14 (d := defD "_law_over" "_law_over" (topS 16) []) rfl
  exact .body (st := (topS 16)) (N := ["_law_form", "_law_forms", "_law_times", "_law_counts", "_law_found", "_law_k"]) (ps := ["_law_form", "_law_forms", "_law_times", "_law_counts"]) rfl D ⟨rfl, rfl, rfl, by decide +kernel, rfl, by decide +kernel, by decide +kernel⟩ (D.bindsN fun _ _ _ _ _ _ us hl => match us, hl with | [_, _, _, _], _ => rfl) (fun dl hd => by simp [dfsT] at hd) is14
theorem is15 : isSs ⟨["_law_form", "_law_forms", "_law_times", "_law_kinds_here", "_law_none", "_law_one", "_law_kind"], fnsT, glsT, dfsT, lfsT⟩ (defScope (topS 17)) b_l_due (defBody (topS 17)) = true := by decide +kernel
include c in
theorem kn15 : Known P w K mg base (GK K) fnsT glsT dfsT lfsT tab 15 (He.fAd K ("_law_due", none)) := by
  obtain ⟨fd, D⟩ := Look.funD c 15 (d := defD "_law_due" "_law_due" (topS 17) []) rfl
  exact .body (st := (topS 17)) (N := ["_law_form", "_law_forms", "_law_times", "_law_kinds_here", "_law_none", "_law_one", "_law_kind"]) (ps := ["_law_form", "_law_forms", "_law_times", "_law_kinds_here"]) rfl D ⟨rfl, rfl, rfl, by decide +kernel, rfl, by decide +kernel, by decide +kernel⟩ (D.bindsN fun _ _ _ _ _ _ us hl => match us, hl with | [_, _, _, _], _ => rfl) (fun dl hd => by simp [dfsT] at hd) is15
theorem is16 : isSs ⟨["_law_parts", "_law_number", "_law_kind"], fnsT, glsT, dfsT, lfsT⟩ (defScope (topS 18)) b_l_side (defBody (topS 18)) = true := by decide +kernel
include c in
theorem kn16 : Known P w K mg base (GK K) fnsT glsT dfsT lfsT tab 16 (He.fAd K ("_law_side", none)) := by
  obtain ⟨fd, D⟩ := Look.funD c 16 (d := defD "_law_side" "_law_side" (topS 18) []) rfl
  exact .body (st := (topS 18)) (N := ["_law_parts", "_law_number", "_law_kind"]) (ps := ["_law_parts", "_law_number"]) rfl D ⟨rfl, rfl, rfl, by decide +kernel, rfl, by decide +kernel, by decide +kernel⟩ (D.bindsN fun _ _ _ _ _ _ us hl => match us, hl with | [_, _], _ => rfl) (fun dl hd => by simp [dfsT] at hd) is16
theorem is17 : isSs ⟨["_law_deck_here", "_law_kinds_here", "_law_forms", "_law_times", "_law_none", "_law_ahead", "_law_behind", "_law_kind", "_law_more_here", "_law_first", "_law_much", "_law_k"], fnsT, glsT, dfsT, lfsT⟩ (defScope (topS 19)) b_l_built (defBody (topS 19)) = true := by decide +kernel
include c in
theorem kn17 : Known P w K mg base (GK K) fnsT glsT dfsT lfsT tab 17 (He.fAd K ("_law_built", none)) := by
  obtain ⟨fd, D⟩ := Look.funD c 17 (d := defD "_law_built" "_law_built" (topS 19) []) rfl
  exact .body (st := (topS 19)) (N := ["_law_deck_here", "_law_kinds_here", "_law_forms", "_law_times", "_law_none", "_law_ahead", "_law_behind", "_law_kind", "_law_more_here", "_law_first", "_law_much", "_law_k"]) (ps := ["_law_deck_here", "_law_kinds_here", "_law_forms", "_law_times"]) rfl D ⟨rfl, rfl, rfl, by decide +kernel, rfl, by decide +kernel, by decide +kernel⟩ (D.bindsN fun _ _ _ _ _ _ us hl => match us, hl with | [_, _, _, _], _ => rfl) (fun dl hd => by simp [dfsT] at hd) is17
theorem is18 : isSs ⟨["_law_deck_here", "_law_total", "_law_kinds_here", "_law_parts", "_law_step", "_law_at"], fnsT, glsT, dfsT, lfsT⟩ (defScope (topS 20)) b_l_bent_sum (defBody (topS 20)) = true := by decide +kernel
include c in
theorem kn18 : Known P w K mg base (GK K) fnsT glsT dfsT lfsT tab 18 (He.fAd K ("_law_bent_sum", none)) := by
  obtain ⟨fd, D⟩ := Look.funD c 18 (d := defD "_law_bent_sum" "_law_bent_sum" (topS 20) []) rfl
  exact .body (st := (topS 20)) (N := ["_law_deck_here", "_law_total", "_law_kinds_here", "_law_parts", "_law_step", "_law_at"]) (ps := ["_law_deck_here", "_law_total", "_law_kinds_here"]) rfl D ⟨rfl, rfl, rfl, by decide +kernel, rfl, by decide +kernel, by decide +kernel⟩ (D.bindsN fun _ _ _ _ _ _ us hl => match us, hl with | [_, _, _], _ => rfl) (fun dl hd => by simp [dfsT] at hd) is18
theorem is19 : isSs ⟨["_law_deck_here", "_law_form", "_law_kinds_here", "_law_way"], fnsT, glsT, dfsT, lfsT⟩ (defScope (topS 21)) b_l_bent (defBody (topS 21)) = true := by decide +kernel
include c in
theorem kn19 : Known P w K mg base (GK K) fnsT glsT dfsT lfsT tab 19 (He.fAd K ("_law_bent", none)) := by
  obtain ⟨fd, D⟩ := Look.funD c 19 (d := defD "_law_bent" "_law_bent" (topS 21) []) rfl
  exact .body (st := (topS 21)) (N := ["_law_deck_here", "_law_form", "_law_kinds_here", "_law_way"]) (ps := ["_law_deck_here", "_law_form", "_law_kinds_here"]) rfl D ⟨rfl, rfl, rfl, by decide +kernel, rfl, by decide +kernel, by decide +kernel⟩ (D.bindsN fun _ _ _ _ _ _ us hl => match us, hl with | [_, _, _], _ => rfl) (fun dl hd => by simp [dfsT] at hd) is19
theorem is20 : isSs ⟨["_law_form", "_law_forms", "_law_times", "_law_due_here", "_law_found"], fnsT, glsT, dfsT, lfsT⟩ (defScope (topS 22)) b_l_told (defBody (topS 22)) = true := by decide +kernel
include c in
theorem kn20 : Known P w K mg base (GK K) fnsT glsT dfsT lfsT tab 20 (He.fAd K ("_law_told", none)) := by
  obtain ⟨fd, D⟩ := Look.funD c 20 (d := defD "_law_told" "_law_told" (topS 22) []) rfl
  exact .body (st := (topS 22)) (N := ["_law_form", "_law_forms", "_law_times", "_law_due_here", "_law_found"]) (ps := ["_law_form", "_law_forms", "_law_times", "_law_due_here"]) rfl D ⟨rfl, rfl, rfl, by decide +kernel, rfl, by decide +kernel, by decide +kernel⟩ (D.bindsN fun _ _ _ _ _ _ us hl => match us, hl with | [_, _, _, _], _ => rfl) (fun dl hd => by simp [dfsT] at hd) is20
theorem is21 : isSs ⟨["_law_script", "_law_deck_here", "_law_turn", "_law_far", "_law_kinds_here", "_law_forms", "_law_times", "_law_k", "_law_form", "_law_less", "_law_odd", "_law_great", "_law_often", "_law_one", "_law_some"], fnsT, glsT, dfsT, lfsT⟩ (defScope (topS 23)) b_law (defBody (topS 23)) = true := by decide +kernel
include c in
theorem kn21 : Known P w K mg base (GK K) fnsT glsT dfsT lfsT tab 21 (He.fAd K ("law", none)) := by
  obtain ⟨fd, D⟩ := Look.funD c 21 (d := defD "law" "law" (topS 23) []) rfl
  exact .body (st := (topS 23)) (N := ["_law_script", "_law_deck_here", "_law_turn", "_law_far", "_law_kinds_here", "_law_forms", "_law_times", "_law_k", "_law_form", "_law_less", "_law_odd", "_law_great", "_law_often", "_law_one", "_law_some"]) (ps := ["_law_script"]) rfl D ⟨rfl, rfl, rfl, by decide +kernel, rfl, by decide +kernel, by decide +kernel⟩ (D.bindsN fun _ _ _ _ _ _ us hl => match us, hl with | [_], _ => rfl) (fun dl hd => by simp [dfsT] at hd) is21
include X Gh c in
theorem kn : ∀ j f, (GK K).fa j = some f → Known P w K mg base (GK K) fnsT glsT dfsT lfsT tab j f
  | 0, f, e => by cases e
  | 1, f, e => by cases e
  | 2, f, e => by
    cases e
    exact kn2 c
  | 3, f, e => by
    cases e
    exact kn3 c
  | 4, f, e => by
    cases e
    exact kn4 c
  | 5, f, e => by
    cases e
    exact kn5 X Gh c
  | 6, f, e => by
    cases e
    exact kn6 X Gh c
  | 7, f, e => by
    cases e
    exact kn7 c
  | 8, f, e => by
    cases e
    exact kn8 c
  | 9, f, e => by
    cases e
    exact kn9 c
  | 10, f, e => by
    cases e
    exact kn10 c
  | 11, f, e => by
    cases e
    exact kn11 c
  | 12, f, e => by
    cases e
    exact kn12 c
  | 13, f, e => by
    cases e
    exact kn13 c
  | 14, f, e => by
    cases e
    exact kn14 c
  | 15, f, e => by
    cases e
    exact kn15 c
  | 16, f, e => by
    cases e
    exact kn16 c
  | 17, f, e => by
    cases e
    exact kn17 c
  | 18, f, e => by
    cases e
    exact kn18 c
  | 19, f, e => by
    cases e
    exact kn19 c
  | 20, f, e => by
    cases e
    exact kn20 c
  | 21, f, e => by
    cases e
    exact kn21 c
  | _ + 22, f, e => by cases e
include X Gh c in
theorem klL : ∀ x j p, (x, j, p) ∈ lfsT.l → ∃ f, mg x = some (.ref f) ∧ KnownL K fnsT glsT dfsT lfsT tab j p f := fun x j p h => by
  simp only [lfsT, List.mem_cons, List.not_mem_nil, or_false, Prod.mk.injEq] at h
  rcases h with ⟨rfl, rfl, rfl⟩ | ⟨rfl, rfl, rfl⟩
  · exact ⟨_, PySem.W.mg_of X Gh (((Look.parts c).1 _ (List.mem_of_getElem? (show look.defs[0]? = some (defD "laid_on" "laid_on" (topS 1) []) from rfl))).1 rfl), knL0 c⟩
  · exact ⟨_, PySem.W.mg_of X Gh (((Look.parts c).1 _ (List.mem_of_getElem? (show look.defs[1]? = some (defD "over" "over" (topS 2) []) from rfl))).1 rfl), knL1 c⟩
include X Gh c in
theorem kcC : ∀ d ∈ lfsT.cl, KnownC K mg (GK K) fnsT glsT dfsT lfsT tab d := fun d h => by
  simp [lfsT, clsT] at h
end
def tops0 : List Str := [("laid_on" : Str), ("over" : Str), ("are_times" : Str), ("summed" : Str), ("_law_mixed" : Str), ("_law_deck" : Str), ("_law_draw" : Str), ("_law_word" : Str), ("_law_kinds" : Str), ("_law_names" : Str), ("_law_letter" : Str), ("_law_sum" : Str), ("_law_count" : Str), ("_law_more" : Str), ("_law_over" : Str), ("_law_due" : Str), ("_law_side" : Str), ("_law_built" : Str), ("_law_bent_sum" : Str), ("_law_bent" : Str), ("_law_told" : Str)]
abbrev rowL : PySem.W.OpenRow := PySem.W.OpenLaw.row PySem.Challenge.rw_linecourt_k42_whole_summed_kind_by_kind
abbrev hkL : PySem.W.Hook := hookL 6 look
def obL (s : PySem.W.SharedT) : AlL := look.obsG 6 (HandSHeadRun.getT s)
theorem obL_eq (s : PySem.W.SharedT) : obL s = hkL.obs s.abs := Look.obsG_eq (HandSHeadRun.getT_eq s)
theorem runL (w : World) : HandSHeadRun.RunEq rowL (PySem.W.view rowL.prog [23]) hkL obL 6000 (tops0) w := by
  intro os
  kernel_rfl
theorem endL {P : Program} {w : World} {K : PySem.W.Frag} {h : Heap} {mg : Str → Option Value} {f : Addr} (X : K.In h) (Gh : h.Ns mainGlobals mg) (hfa : mg ("law" : Str) = some (.ref f)) (c : look.obs K = look.val w) :
    ∃ (fd : FuncData) (sp : Sp), (∀ (s : Shared) (v : Value), BindsTo s fd ⟨[v], []⟩ [("_law_script", v)]) ∧ (∀ (H : Hp) (a : Addr) (ns : List Int), ns.length ≤ 63 → SqL K H a (ns.map V.int) → sp [.ref a] H (fun v _ => v = .bl true) fun _ _ _ => False) ∧ ∀ base : Heap, FnOk P w K mg base CX0 60 f fd ["_law_script"] sp := by
  have e := hfa.symm.trans (PySem.W.mg_of X Gh (((Look.parts c).1 _ (List.mem_of_getElem? (show look.defs[21]? = some (defD "law" "law" (topS 23) []) from rfl))).1 rfl))
  cases e
  obtain ⟨fd, F⟩ := Look.funD c 21 (d := defD "law" "law" (topS 23) []) rfl
  refine ⟨fd, spOf (GK K) 1 (Phi tab cg 60 21), fun s v => ?_, fun H a ns hl hs => law_sp rfl hs hl plain (fun ds Q Q' => Phi_mono monoT 60 21 ds Q Q') fun _ => rfl, fun base => ?_⟩
  · exact F.bindsA (ps := ["_law_script"]) (fun _ _ _ _ _ _ us hl => match us, hl with | [_], _ => rfl) s [v] rfl
  · have W : World1 P w K mg base (GK K) fnsT glsT dfsT lfsT tab cg := world_of X Gh c rfl rfl (by decide +kernel) rfl (by decide +kernel) (kn X Gh c) monoT (klL X Gh c) (kcC X Gh c)
    exact phi_body (st := topS 23) (N := ["_law_script", "_law_deck_here", "_law_turn", "_law_far", "_law_kinds_here", "_law_forms", "_law_times", "_law_k", "_law_form", "_law_less", "_law_odd", "_law_great", "_law_often", "_law_one", "_law_some"]) W rfl F ⟨rfl, rfl, rfl, by decide +kernel, rfl, by decide +kernel, by decide +kernel⟩ is21
end LC
open PySem PySem.W PySem.Calls PyProof.Rows
set_option maxHeartbeats 8000000 in
theorem PySem.Challenge.cw_linecourt_k42_whole_summed_kind_by_kind_holds : PySem.Challenge.rw_linecourt_k42_whole_summed_kind_by_kind.Holds := by
  w_on; o_law
  refine HandSHeadRun.head_any (r := OpenLaw.row PySem.Challenge.rw_linecourt_k42_whole_summed_kind_by_kind) (q := view (OpenLaw.row PySem.Challenge.rw_linecourt_k42_whole_summed_kind_by_kind).prog [23]) (H := LC.hkL) (ob := LC.obL) (M := 6000) (loose := (LC.tops0)) (d := HandSHeadRun.topDef (OpenLaw.row PySem.Challenge.rw_linecourt_k42_whole_summed_kind_by_kind).prog 23) (kwd := []) LC.obL_eq
    (by kernel_rfl) (fun s => by kernel_rfl) LC.runL (by kernel_rfl) (by kernel_rfl) (by kernel_rfl) (by rfl) (by first | assumption | decide +kernel) (by decide +kernel) ⟨rfl, rfl, rfl, rfl, rfl, by decide +kernel⟩ ?hw ?hc
  case hw => w_witness2
  case hc =>
    refine L2.walk_ofE (l := PySem.Challenge.rw_linecourt_k42_whole_summed_kind_by_kind) (n := 63) (k := 60) (x := "_law_script") (CX := L2.CX0) rfl (by decide) (by kernel_rfl) ⟨rfl, by decide, by decide⟩ ?F (fun _ _ _ _ z => z)
    intro w mg fa h Y Gh hmg0
    obtain ⟨K, KX, c⟩ := Y
    have hmg : mg ("law" : PySem.Str) = some (.ref fa) := by
      have e : (HandSHeadRun.topDef (OpenLaw.row PySem.Challenge.rw_linecourt_k42_whole_summed_kind_by_kind).prog 23).name = ("law" : PySem.Str) := by kernel_rfl
      rw [← e]
      exact hmg0
    obtain ⟨fd, sp, hb, hsp, hF⟩ := LC.endL (P := (PySem.Challenge.rw_linecourt_k42_whole_summed_kind_by_kind).prog) (w := w) KX Gh hmg c
    exact ⟨K, fd, sp, KX, hb, fun H a ns hl _ hS => hsp H a ns hl hS, fun base _ _ => hF base⟩
