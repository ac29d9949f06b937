import PyProof.Rows.All
import Wide.All
import OpenK.AllK
import Wide.FinOn
import PySem.Challenge.RW_likedbest_k79_whole_eaten_shares
import HandS.ForMost
import HandS.More
import HandS.Set
import HandS.SetFor
import HandS.Strs
import PyProof.ReprRoads
import HandS.DeepEq
import HandS.ListItems
import PyProof.Rows.StrInSeq3
import PyProof.Rows.RuleB_pow
import HandS.Walk
import HandS.IsInst
import HandS.DictComp
import HandS.Wide
import HandS.WideBits
import HandS.Flow
import PySem.Str
import PyProof.StrLawsRepr
set_option Elab.async false
set_option linter.all false
set_option maxRecDepth 100000
set_option maxHeartbeats 8000000
set_option pp.maxSteps 1500
/-! Sets of texts: made of a list, counted, sorted. -/
namespace Lk
open PySem PySem.Spec PyProof.Rows L2
/-- the text of a set's entry -/
def txtOf (e : Int × Value) : Str := match e.2 with
  | .str x _ => x
  | _ => Str.empty
def TxtE (w : World) (e : Int × Value) : Prop := ∃ x tk, e.2 = Value.str x tk ∧ e.1 = hashStr w x
/-- a set of texts stands at a, its members are those of L, no two alike -/
def SetS (w : World) (h : Heap) (a : Addr) (L : List Str) : Prop :=
  ∃ o es ep t, h.get? a = some o ∧ o.ExactSet ∧ o.data = .set es ep t ∧ (∀ e ∈ es.toList, TxtE w e) ∧ (es.toList.map txtOf).Perm L ∧ L.Nodup ∧ es.size < scanBound ∧ t.fits es.size = true ∧ Ris t.place.toList ∧
    (w.params.followText "set-order" = true ∨ t.led = true)
section
variable {P : Program} {w : World} {A : Around} {E : Value → Shared → Prop} {s : Shared} {a : Addr} {L : List Str}
theorem SetS.at {h h' : Heap} (R : SetS w h a L) (k : ∀ o, h.get? a = some o → h'.get? a = some o) : SetS w h' a L := by
  obtain ⟨o, es, ep, t, ho, r⟩ := R
  exact ⟨o, es, ep, t, k o ho, r⟩
theorem txt_elems {l : List (Int × Value)} (g : ∀ e ∈ l, TxtE w e) : ElemsOf (strKind P w) l := by
  intro e he
  obtain ⟨x, tk, h1, h2⟩ := g e he
  refine ⟨⟨x, ?_, h2⟩, ?_⟩
  · rw [h1]
    exact strKind_is _ _ _ _
  · rw [h1]
    rfl
theorem txt_is {e : Int × Value} (g : TxtE w e) (x : Str) : (strKind P w).is x e.2 = true ↔ txtOf e = x := by
  obtain ⟨y, tk, h1, _⟩ := g
  have e1 : (strKind P w).is y e.2 = true := by
    rw [h1]
    exact strKind_is _ _ _ _
  have e2 : txtOf e = y := by
    unfold txtOf
    rw [h1]
  rw [KeyKind.is_eq_decide e1 x, e2, decide_eq_true_eq]
  exact eq_comm
/-- what stands at a set when its entries are laid anew -/
theorem laid_set {h : Heap} {o : Obj} {es es' : Array (Int × Value)} {ep : Nat} {t t' : SetTable} (ho : h.get? a = some o) (hd : o.data = .set es ep t) :
    (h.update a (Obj.putSet es' t')).get? a = some { o with data := .set es' (ep + 1) t' } := L2.store_at ho hd
/-- entries that are the texts of L -/
structure EntS (w : World) (es : Array (Int × Value)) (L : List Str) : Prop where
  good : ∀ e ∈ es.toList, TxtE w e
  perm : (es.toList.map txtOf).Perm L
  nd : L.Nodup
  few : es.size < scanBound
/-- the entries stored, and laid anew where the table is too full -/
theorem setS_tail {gt : Bool → Sem Unit} (hg : ∀ (b : Bool) (s₁ : Shared) (Q' : Unit → Shared → Prop), Q' () s₁ → wpAny (model P w) A (gt b) Q' E s₁)
    {o : Obj} {es : Array (Int × Value)} {ep : Nat} {t : SetTable} (ho : s.heap.get? a = some o) (hex : o.ExactSet) (hd : o.data = .set es ep t)
    {es1 : Array (Int × Value)} {t2 : SetTable} {L' : List Str} (B : EntS w es1 L') (f2 : t2.fits es1.size = true) (r2 : Ris t2.place.toList) (l2 : w.params.followText "set-order" = true ∨ t2.led = true)
    {dm : Bool} {R : Option Bool → Shared → Prop} (hR : ∀ h', Heap.SameBut a s.heap h' → SetS w h' a L' → R (some true) { s with heap := h' }) :
    wpAny (model P w) A (do
        storeSet a es1 t2
        if (!dm && t2.tooFull) = true then do
            gt (relayAll t2 es1 (SetTable.grown es1.size)).2.2
            storeSet a (relayAll t2 es1 (SetTable.grown es1.size)).1 (relayAll t2 es1 (SetTable.grown es1.size)).2.1
            pure (some true)
          else pure (some true)) R E s := by
  have h1 := laid_set (es' := es1) (t' := t2) ho hd
  have sb := Heap.SameBut.update s.heap a (Obj.putSet es1 t2)
  refine wpAny_bind (wpAny_storeSet_of ho hd ?_ (fits_of_scanBound B.few))
  by_cases c : (!dm && t2.tooFull) = true
  · rw [if_pos c]
    have q1 := relayAll_perm t2 es1 (SetTable.grown es1.size)
    have q2 := relayAll_fits t2 es1 (SetTable.grown es1.size)
    have q3 := relayAll_ris t2 es1 (SetTable.grown es1.size)
    have q4 := relayAll_led t2 es1 (SetTable.grown es1.size)
    generalize relayAll t2 es1 (SetTable.grown es1.size) = Z at q1 q2 q3 q4 ⊢
    obtain ⟨es2, t3, gave⟩ := Z
    dsimp only at q1 q2 q3 q4 ⊢
    have few2 : es2.size < scanBound := by
      have q := q1.length_eq
      rw [Array.length_toList, Array.length_toList] at q
      rw [q]
      exact B.few
    refine wpAny_bind (hg _ _ _ (wpAny_bind (wpAny_storeSet_of h1 rfl (wpAny_pure (hR _ (sb.trans (Heap.SameBut.update _ a _)) ?_)) (fits_of_scanBound few2))))
    exact ⟨_, es2, _, t3, laid_set (es' := es2) (t' := t3) h1 rfl, hex, rfl, fun e he => B.good e (q1.mem_iff.mp he), (q1.map txtOf).trans B.perm, B.nd, few2, q2, q3, l2.imp id fun z => by rw [q4]; exact z⟩
  · rw [if_neg c]
    exact wpAny_pure (hR _ sb ⟨_, es1, _, t2, h1, hex, rfl, B.good, B.perm, B.nd, B.few, f2, r2, l2⟩)
/-- one text more -/
theorem setS_add {x : Str} {tk : Tok} {Q : Bool → Shared → Prop} (R : SetS w s.heap a L) (room : L.length + 1 < scanBound)
    (hQ : ∀ b h', Heap.SameBut a s.heap h' → SetS w h' a (if x ∈ L then L else x :: L) → Q b { s with heap := h' }) :
    wpAny (model P w) A (setAddHashed a (.str x tk) (hashStr w x)) Q E s := by
  obtain ⟨o, es, ep, t, ho, hex, hd, g, pm, nd, hb, hf, hr, hl⟩ := R
  have hel := txt_elems (P := P) g
  have hsz : es.size = L.length := by
    have q := pm.length_eq
    rw [List.length_map, Array.length_toList] at q
    exact q
  have hsc : (Value.str x tk).scannable = true := rfl
  have hsame : ∀ y, (∃ e ∈ es.toList, (strKind P w).is y e.2 = true) ↔ y ∈ L := fun y => by
    rw [← pm.mem_iff, List.mem_map]
    constructor
    · rintro ⟨e, he, q⟩
      exact ⟨e, he, (txt_is (P := P) (g e he) y).mp q⟩
    · rintro ⟨e, he, q⟩
      exact ⟨e, he, (txt_is (P := P) (g e he) y).mpr q⟩
  unfold setAddHashed setAddHashedIn
  refine wpAny_holding (wpAny_bind (wpAny_setState_of ho hd hf ?_))
  dsimp only
  rw [byScan_of hsc hb hel, if_pos rfl]
  unfold setAddByScan
  refine wpAny_bind (wpAny_bind (wpAny_rule (wpAny_bind (wpAny_setScan_of (knd := strKind P w) (k := x) (strKind_is _ _ _ _) ho hd hf hel ?_))))
  cases hfi : List.findIdx? (fun e => (strKind P w).is x e.2) es.toList with
  | some j =>
    obtain ⟨hj, pj, _⟩ := List.findIdx?_eq_some_iff_getElem.mp hfi
    have hm : x ∈ L := (hsame x).mp ⟨_, List.getElem_mem hj, pj⟩
    refine wpAny_pure (wpAny_pure ?_)
    refine hQ _ s.heap (Heap.SameBut.refl a s.heap) ?_
    rw [if_pos hm]
    exact ⟨o, es, ep, t, ho, hex, hd, g, pm, nd, hb, hf, hr, hl⟩
  | none =>
    have hm : ¬ x ∈ L := fun z => by
      obtain ⟨e, he, q⟩ := (hsame x).mpr z
      have c := List.findIdx?_eq_none_iff.mp hfi e he
      rw [q] at c
      cases c
    rw [if_neg hm] at hQ
    dsimp only
    have gate : ∀ (b : Bool) {s₁ : Shared} {Q' : Unit → Shared → Prop}, Q' () s₁ → wpAny (model P w) A (match b with | true => rule "set.scan.the-table-gave-way" | false => pure ()) Q' E s₁ :=
      fun b s₁ Q' q => by cases b <;> first | exact wpAny_pure q | exact wpAny_rule q
    have p1 := layNew_perm t es (hashStr w x) (.str x tk)
    have f1 := layNew_fits t es (hashStr w x) (.str x tk)
    have r1 := layNew_ris t es (hashStr w x) (.str x tk) hr
    have l1 := layNew_led t es (hashStr w x) (.str x tk)
    generalize layNew t es (hashStr w x) (.str x tk) = Z at p1 f1 r1 l1 ⊢
    obtain ⟨es1, t1, wasDummy, gave⟩ := Z
    dsimp only at p1 f1 r1 l1 ⊢
    rw [Array.toList_push] at p1
    have p2 : es1.toList.Perm ((hashStr w x, Value.str x tk) :: es.toList) := p1.trans (List.perm_append_singleton _ _)
    have B : EntS w es1 (x :: L) := by
      refine ⟨fun e he => ?_, (p2.map txtOf).trans (List.Perm.cons x pm), List.nodup_cons.mpr ⟨hm, nd⟩, ?_⟩
      · rcases List.mem_cons.mp (p2.mem_iff.mp he) with z | z
        · subst z
          exact ⟨x, tk, rfl, rfl⟩
        · exact g e z
      · have q := p2.length_eq
        rw [List.length_cons, Array.length_toList, Array.length_toList] at q
        omega
    have led1 : w.params.followText "set-order" = true ∨ t1.led = true := hl.imp id fun z => by rw [l1]; exact z
    have fin : ∀ h', Heap.SameBut a s.heap h' → SetS w h' a (x :: L) → Q true { s with heap := h' } := fun h' sb r => hQ true h' sb r
    refine wpAny_bind (gate _ ?_)
    split
    · refine wpAny_bind ?_
      rw [hashByValue_scannable 8 hsc]
      refine wpAny_pure ?_
      refine setS_tail ?_ ho hex hd B ?_ ?_ ?_ fun h' sb r => wpAny_pure (fin h' sb r)
      · intro b s₁ Q' q
        exact gate b q
      · first | (split <;> first | exact f1 | exact SetTable.fits_plain_off f1) | exact f1
      · first | (split <;> exact r1) | exact r1
      · first | (split <;> exact led1) | exact led1
    · refine wpAny_bind (wpAny_pure ?_)
      rw [if_pos rfl]
      refine setS_tail ?_ ho hex hd B f1 r1 led1 fun h' sb r => wpAny_pure (fin h' sb r)
      intro b s₁ Q' q
      exact gate b q
/-- what a list's texts leave in a set, text by text -/
def gath : List Str → List Str → List Str
  | L, [] => L
  | L, x :: r => gath (if x ∈ L then L else x :: L) r
theorem gath_mem : ∀ (xs L : List Str) (y : Str), y ∈ gath L xs ↔ y ∈ L ∨ y ∈ xs
  | [], L, y => by simp [gath]
  | x :: r, L, y => by
    show y ∈ gath (if x ∈ L then L else x :: L) r ↔ _
    rw [gath_mem r]
    by_cases h : x ∈ L
    · rw [if_pos h, List.mem_cons]
      constructor
      · rintro (q | q)
        · exact .inl q
        · exact .inr (.inr q)
      · rintro (q | q | q)
        · exact .inl q
        · exact .inl (q ▸ h)
        · exact .inr q
    · rw [if_neg h, List.mem_cons, List.mem_cons]
      constructor
      · rintro ((q | q) | q)
        · exact .inr (.inl q)
        · exact .inl q
        · exact .inr (.inr q)
      · rintro (q | q | q)
        · exact .inl (.inr q)
        · exact .inl (.inl q)
        · exact .inr q
theorem gath_nd : ∀ (xs L : List Str), L.Nodup → (gath L xs).Nodup
  | [], L, h => h
  | x :: r, L, h => by
    show (gath (if x ∈ L then L else x :: L) r).Nodup
    refine gath_nd r _ ?_
    by_cases e : x ∈ L
    · rw [if_pos e]
      exact h
    · rw [if_neg e]
      exact List.nodup_cons.mpr ⟨e, h⟩
theorem gath_len : ∀ (xs L : List Str), (gath L xs).length ≤ L.length + xs.length
  | [], L => Nat.le_refl _
  | x :: r, L => by
    show (gath (if x ∈ L then L else x :: L) r).length ≤ _
    have q := gath_len r (if x ∈ L then L else x :: L)
    have e : (if x ∈ L then L else x :: L).length ≤ L.length + 1 := by split <;> simp
    rw [List.length_cons]
    omega
theorem gath_nodup : ∀ (xs L : List Str), xs.Nodup → (∀ x ∈ xs, ¬ x ∈ L) → (gath L xs).length = L.length + xs.length
  | [], L, _, _ => rfl
  | x :: r, L, h, d => by
    obtain ⟨h1, h2⟩ := List.nodup_cons.mp h
    show (gath (if x ∈ L then L else x :: L) r).length = _
    rw [if_neg (d x List.mem_cons_self), gath_nodup r (x :: L) h2 (fun y hy z => ?_), List.length_cons, List.length_cons]
    · omega
    · rcases List.mem_cons.mp z with q | q
      · exact h1 (q ▸ hy)
      · exact d y (List.mem_cons_of_mem _ hy) q
/-- the texts of a list put into the set at S, one by one -/
theorem upd_texts {I : Addr} {fp wr : List Addr} {G : Array GenState → Array GenState → Prop} {n : Nat} {Pv : Nat → Value → Prop} {St : Nat → Shared → Prop} {R : Result → Shared → Prop}
    (W : WalksS P w A.in1 I fp wr G n Pv St) (S : Addr) (hS : S ∉ fp) (xs : List Str) (hn : xs.length = n) (few : n < 2000) (hval : ∀ i v, Pv i v → ∃ t, v = .str (xs.getD i Str.empty) t) :
    ∀ (k i : Nat) (L : List Str) (s : Shared), n - i = k → i ≤ n → L.length ≤ i → St i s → SetS w s.heap S L →
      (∀ s', Moved (S :: wr) G s s' → SetS w s'.heap S (gath L (xs.drop i)) → R (.ok (.ret .none)) s') → codeAny (model P w) A (.builtin "set.update.loop" ⟨[.ref S, .ref I], []⟩) R s := by
  have hw : S ∉ wr := fun h => hS (W.sub _ h)
  have more : ∀ b ∈ wr, b ∈ S :: wr := fun b hb => List.mem_cons_of_mem _ hb
  intro k
  induction k with
  | zero =>
    intro i L s hk hi hL hst hs hR
    obtain rfl : i = n := by omega
    refine codeAny_builtin F.entry_set_update_loop ?_
    rw [Around.under_plainId F.plain_set_update_loop _]
    show wpAny _ A.in1 (pyNext (.ref I) >>= _) _ _ s
    refine wpAny_bind (W.done s _ _ hst fun s' hm => ?_)
    refine wpAny_pure (hR s' (hm.mono more) ?_)
    rw [List.drop_eq_nil_of_le (Nat.le_of_eq hn)]
    exact hs.at fun o e => hm.heap S o hw e
  | succ k ih =>
    intro i L s hk hi hL hst hs hR
    have lt : i < n := by omega
    refine codeAny_builtin F.entry_set_update_loop ?_
    rw [Around.under_plainId F.plain_set_update_loop _]
    show wpAny _ A.in1 (pyNext (.ref I) >>= _) _ _ s
    refine wpAny_bind (W.item i s _ _ lt hst fun v s' hP hst' hm => ?_)
    obtain ⟨t, rfl⟩ := hval i v hP
    have lx : i < xs.length := by omega
    have ex : xs.getD i Str.empty = xs[i] := by simp [lx]
    rw [ex]
    have ed : xs.drop i = xs[i] :: xs.drop (i + 1) := List.drop_eq_getElem_cons lx
    have hs' : SetS w s'.heap S L := hs.at fun o e => hm.heap S o hw e
    show wpAny _ A.in1 (holding [Value.str xs[i] t] (setAdd S (.str xs[i] t)) >>= _) _ _ s'
    unfold setAdd
    refine wpAny_bind (wpAny_holding (wpAny_holding (wpAny_bind ((strKind P w).pyHash (k := xs[i]) (strKind_is _ _ _ _) ?_))))
    refine setS_add (s := { s' with toks := s'.toks + 1 }) hs' (by unfold scanBound; omega) fun b h' sb q => ?_
    refine wpAny_pure ⟨plainId_quiet F.plain_set_update_loop _, ih (i + 1) _ _ (by omega) lt ?_ (W.frame _ s' _ _ hst' (Nat.le_succ _) fun b hb o e => ?_) q fun s'' m2 q2 => ?_⟩
    · split
      · omega
      · rw [List.length_cons]
        omega
    · rw [sb.2 b (fun z : b = S => hS (z ▸ hb))]
      exact e
    · refine hR s'' (Moved.trans W.gtrans ((hm.mono more).then_heap (Nat.le_succ _) fun b o hb e => ?_) m2) ?_
      · rw [sb.2 b (fun z : b = S => hb (by rw [z]; exact List.mem_cons_self))]
        exact e
      · rw [ed]
        exact q2
theorem setS_fresh {h : Heap} {a : Addr} (ho : h.get? a = some { cls := .type "set", dict := none, data := .set #[] 0 (.fresh 0 0 (!w.params.followText "set-order")) }) : SetS w h a [] := by
  refine ⟨_, #[], 0, _, ho, ⟨rfl, rfl, rfl⟩, rfl, fun e he => by simp at he, List.Perm.refl _, List.nodup_nil, by decide, by rfl, List.Pairwise.nil, ?_⟩
  show _ ∨ (!w.params.followText "set-order") = true
  cases w.params.followText "set-order"
  · exact .inr rfl
  · exact .inl rfl
/-- set(xs), the list of texts xs -/
theorem call_setS {l : Addr} {items : Array Value} {xs : List Str} {Q : Value → Shared → Prop} (hh : A.handled = none) (hl : s.heap.IsList l items) (hi : StrsAre items.toList xs) (few : xs.length < 2000)
    (h : ∀ (h' : Heap) (tk : Nat), SetS w h' s.heap.objs.size (gath [] xs) → (∀ b o, s.heap.get? b = some o → h'.get? b = some o) → Q (.ref s.heap.objs.size) { s with heap := h', toks := tk }) :
    wpAny (model P w) A (call (.type "set") [.ref l]) Q E s := by
  have hsz : xs.length = items.size := by rw [← StrsAre.len_eq hi, Array.length_toList]
  obtain ⟨c, tl, hmro⟩ := F.called_set.mro
  have hmade := F.called_set.made
  have hsub := F.called_set.sub
  have h1 := F.called_set.notType
  have h2 := F.called_set.canCreate
  have hct := F.typeCall_set_1 (.ref l)
  refine wpAny_call (codeAny_of_tree ?_)
  show wpAny _ _ (callAny (.type "set") _) _ _ _
  refine wpAny_pure ⟨Code.quiet_builtin _ (by decide +kernel), codeAny_builtin F.entry_type_call ?_⟩
  rw [Around.under_plain (weight_type_call_type "set" [.ref l] []) rfl]
  repeat (any_goals (first | assumption | wp_step))
  refine codeAny_mono (code_set_led1 (.ref l) (E := E) (Q₁ := fun obj s₁ => obj = .ref s.heap.objs.size ∧ s₁ = { s with heap := s.heap.push { cls := .type "set", dict := none, data := .set #[] 0 (.fresh 0 0 (!w.params.followText "set-order")) } }) ⟨rfl, rfl⟩) fun r s₁ hr => ?_
  rcases r with e | fl
  · exact hr
  cases fl with
  | ret obj =>
    obtain ⟨rfl, rfl⟩ := hr
    generalize hO : ({ cls := .type "set", dict := none, data := .set #[] 0 (.fresh 0 0 (!w.params.followText "set-order")) } : Obj) = O
    have hS : (s.heap.push O).get? s.heap.objs.size = some O := Heap.get?_push_size _ (by rw [← hO]; rfl)
    have hT : Shared.TypeIs { s with heap := s.heap.push O } (.ref s.heap.objs.size) "set" := ⟨_, hS, by rw [← hO]⟩
    have hz : (s.heap.push O).objs.size = s.heap.objs.size + 1 := Heap.size_push ..
    have hli := F.called_set.init.lookup
    have hbi := F.called_set.init.bind (.ref s.heap.objs.size)
    repeat (any_goals (first | assumption | wp_step))
    refine codeAny_mono (codeAny_call_builtin (R := wants (fun r s₂ => r = .none ∧ ∃ h' tk, s₂ = { s with heap := h', toks := tk } ∧ SetS w h' s.heap.objs.size (gath [] xs) ∧ (∀ b o, s.heap.get? b = some o → h'.get? b = some o)) E)
      F.called_set.init.plain F.entry_set_init (check_set_init_1 hT ?_)) fun r₂ s₂ hr₂ => ?_
    · subst hO
      obtain ⟨ol, hol, hcl, nl, hdl⟩ := hl
      obtain ⟨ocls, odict, odata, oslots⟩ := ol
      simp only at hcl hdl
      subst hcl; subst hdl
      have hol' : (s.heap.push { cls := .type "set", dict := none, data := .set #[] 0 (.fresh 0 0 (!w.params.followText "set-order")) }).get? l = some { cls := .type "list", dict := odict, data := .seq items nl, slots := oslots } := Heap.get?_push_of_some _ hol
      have hsls := F.sub_list_set
      have hslf := F.sub_list_frozenset
      have hne : (Value.type "list" == Value.type "dict") = false := by decide
      have hl1 : (s.heap.push { cls := .type "set", dict := none, data := .set #[] 0 (.fresh 0 0 (!w.params.followText "set-order")) }).IsList l items := ⟨_, hol', rfl, nl, rfl⟩
      have hlS : l < s.heap.objs.size := Heap.lt_size hol
      unfold Builtin.«set.__init__» noKeywords Builtin.Frozenset.updateFrom
      generalize hPI : pyIter = PI
      wp_walk
      subst hPI
      refine wpAny_pyIter_list hl1 ?_
      refine wpAny_bind (wpAny_runValue ?_)
      have h3 : A.in1.in1.in1.handled = none := by simp [hh]
      have hneI : l ≠ (s.heap.push { cls := .type "set", dict := none, data := .set #[] 0 (.fresh 0 0 (!w.params.followText "set-order")) }).objs.size := by rw [hz]; exact Nat.ne_of_lt (Nat.lt_succ_of_lt hlS)
      have hval : ∀ (i : Nat) (v : Value), items[i]? = some v → ∃ t, v = .str (xs.getD i Str.empty) t := fun i v hv => SS.strs_at hi i v (by rw [Array.getElem?_toList]; exact hv)
      refine upd_texts ((Walks.list h3 _ l hneI items).toS) s.heap.objs.size ?_ xs hsz (by rw [← hsz]; exact few) hval (items.size - 0) 0 [] _ (by omega) (Nat.zero_le _) (Nat.zero_le _)
        ⟨⟨_, Heap.get?_push_size _ rfl, rfl, rfl⟩, hl1.push _⟩ (setS_fresh (Heap.get?_push_of_some _ hS)) fun s' hm hq => ?_
      · rw [hz]
        simp only [List.mem_cons, List.not_mem_nil, or_false, not_or]
        exact ⟨Nat.ne_of_lt (Nat.lt_succ_self _), Nat.ne_of_gt hlS⟩
      · obtain ⟨h', g', d', tk', os'⟩ := s'
        have eg : g' = s.gens := hm.gens
        have ed : d' = s.drawn := hm.drawn
        have eo : os' = s.os := hm.os
        subst eg ed eo
        refine wpAny_pure (wpAny_pure ⟨rfl, h', tk', rfl, hq, fun b o e => ?_⟩)
        have hb : b < s.heap.objs.size := Heap.lt_size e
        refine hm.heap b o ?_ (Heap.get?_push_of_some _ (Heap.get?_push_of_some _ e))
        rw [hz]
        simp only [List.mem_cons, List.not_mem_nil, or_false, not_or]
        exact ⟨Nat.ne_of_lt hb, Nat.ne_of_lt (Nat.lt_succ_of_lt hb)⟩
    · rcases r₂ with e | fl₂
      · exact hr₂
      cases fl₂ with
      | ret r =>
        obtain ⟨rfl, h', tk, rfl, hq, hk⟩ := hr₂
        repeat (any_goals (first | assumption | wp_step))
        exact h _ _ hq hk
      | _ => exact hr₂.elim
  | _ => exact hr.elim
end
end Lk


set_option Elab.async false
set_option linter.all false
set_option maxRecDepth 100000
set_option maxHeartbeats 8000000
set_option pp.maxSteps 1500
namespace Lk
open PySem PySem.Spec PyProof.Rows L2
/-- the set of the texts L at a -/
def SetSO (w : World) (a : Addr) (L : List Str) : HO := .ext fun h => SetS w h a L
theorem setSO_new {w : World} {P : Program} {H : Hp} {h : Heap} {a : Addr} {L : List Str} (R : SetS w h a L) : ObjOk P w H h a (SetSO w a L) := by
  have ⟨o, _, _, _, ho, _⟩ := R
  exact ⟨R, ⟨o, ho⟩, fun h1 h2 p k => SetS.at p k⟩
section
variable {X : Cx}
theorem cr_setS (hc : X.calm = true) : CallR X (.type "set") (fun xs H Q => ∃ (l : Addr) (ys : List Str), xs = [.ref l] ∧ SqL X.K H l (ys.map V.str) ∧ ys.length < 2000 ∧ ∀ p, H p = none → Q (.ref p) (upd H p (SetSO X.w p (gath [] ys)))) := by
  intro pins s σ H xs us Q I r h
  obtain ⟨l, ys, rfl, hs, few, q⟩ := h
  obtain ⟨u, rfl, ru⟩ := vals1 r
  cases ru
  obtain ⟨its, rv, pl, _⟩ := I.list hs
  refine call_setS (I.ok.hd hc) pl.isList (by simpa using strsAre_of rv) few fun h' tk hS hk => ?_
  exact ⟨.ref _, upd H s.heap.objs.size (SetSO X.w s.heap.objs.size (gath [] ys)), I.laid (t' := tk) hk (Nat.le_refl _) (setSO_new hS), rfl, q _ (I.hok.fresh (Nat.le_refl _))⟩
theorem call_lenS : CallR X (.builtin "len") (fun xs H Q => ∃ (a : Addr) (L : List Str), xs = [.ref a] ∧ H a = some (SetSO X.w a L) ∧ Q (.int (L.length : Nat)) H) := by
  intro pins s σ H xs us Q I r h
  obtain ⟨a, L, rfl, ha, q⟩ := h
  obtain ⟨u, rfl, ru⟩ := vals1 r
  cases ru
  obtain ⟨o, es, ep, t, ho, hex, hd, g, pm, nd, hb, hf, _⟩ := (I.hok a _ ha).1
  have hsz : es.size = L.length := by
    have z := pm.length_eq
    rw [List.length_map, Array.length_toList] at z
    exact z
  refine call_len_set ho hex hd hf (by unfold scanBound at hb; omega) ⟨.int (L.length : Nat), H, I.tok _, ⟨_, by rw [hsz]⟩, q⟩
/-- sorted of a set of texts -/
theorem cr_sortedSetS (hc : X.calm = true) : CallR X (.builtin "sorted") (fun xs H Q => ∃ (a : Addr) (L : List Str), xs = [.ref a] ∧ H a = some (SetSO X.w a L) ∧ L.length < 64 ∧
    ∀ ys p, ys.Perm L → sortedS ys = true → H p = none → Q (.ref p) (upd H p (.lst (ys.map V.str)))) := by
  intro pins s σ H xs us Q I r h
  obtain ⟨a, L, rfl, ha, h64, q⟩ := h
  obtain ⟨u, rfl, ru⟩ := vals1 r
  cases ru
  obtain ⟨o, es, ep, t, ho, hex, hd, g, pm, nd, hb, hf, hr, hl⟩ := (I.hok a _ ha).1
  refine Calls.call_function_entry kind_sorted plain_sorted entry_sorted (args_sorted1 _) ?_
  unfold Builtin.«sorted»
  refine wpAny_bind (m := checkCount "sorted" 1 1 _) (wpAny_pure ?_)
  refine wpAny_bind (collect_set (A := X.A.in1) (I.ok.hd hc) ⟨o, ho, hex.1, hd⟩ hf hb hr hl fun s1 vs k1 hz g1 o1 p1 => ?_)
  have hS : StrsAre vs (vs.map strOf) := by
    have all : ∀ l : List Value, (∀ v ∈ l, ∃ x tk, v = Value.str x tk) → StrsAre l (l.map strOf) := by
      intro l
      induction l with
      | nil => intro _; exact .nil
      | cons v l ih =>
        intro hv
        obtain ⟨x, tk, rfl⟩ := hv v List.mem_cons_self
        exact .cons x tk (ih fun z hz => hv z (List.mem_cons_of_mem _ hz))
    refine all vs fun v hv => ?_
    obtain ⟨e, he, z⟩ := List.mem_map.mp (p1.mem_iff.mp hv)
    obtain ⟨x, tk, h1, _⟩ := g e he
    exact ⟨x, tk, by rw [← z, h1]⟩
  have pk : (vs.map strOf).Perm L := by
    have z := p1.map strOf
    rw [List.map_map] at z
    refine (z.trans ?_)
    refine (List.Perm.of_eq (List.map_congr_left fun e he => ?_)).trans pm
    obtain ⟨x, tk, h1, _⟩ := g e he
    show strOf e.2 = txtOf e
    unfold txtOf
    rw [h1]
    rfl
  have hvl : vs.length = L.length := by
    have z := pk.length_eq
    rw [List.length_map] at z
    exact z
  refine wpAny_bind (wpAny_newList ?_ (by rw [hvl, sizeLine_eq]; omega))
  have hoL : (s1.heap.push (seqObj "list" vs.toArray 0)).get? s1.heap.objs.size = some (seqObj "list" vs.toArray 0) := Heap.get?_push_size _ rfl
  refine wpAny_bind (wpAny_holding (wpAny_call_entry slot_list_sort ⟨_, hoL, rfl⟩ entry_list_sort (list_sort_treeK strKind_oneLt (s := { s1 with heap := s1.heap.push (seqObj "list" vs.toArray 0) }) hoL hS.keysOf
    (fun v₁ v₂ rest e => keyKind_strs (by rw [← e]; exact hS)) (by rw [hvl]; exact h64) fun st' hp hs => ⟨_, rfl, ?_⟩) (args_list_sort _)))
  obtain ⟨ys, y1, y2, y3⟩ := sorted_out_str hS hp hs
  obtain ⟨e', he'⟩ := sortedHeap_at (vs := vs) (out := (arrOf st').map (·.2)) hoL
  have y4 := y2.trans pk
  have hlen : (ys.map V.str).length ≤ sizeLine := by rw [List.length_map, y4.length_eq, sizeLine_eq]; omega
  have hn : H s1.heap.objs.size = none := I.hok.fresh hz
  have kk : ∀ b u, s.heap.get? b = some u → (sortedHeap (s1.heap.push (seqObj "list" vs.toArray 0)) s1.heap.objs.size vs ((arrOf st').map (·.2))).get? b = some u := fun b u e => by
    have q1 := k1 b u e
    have lt := Heap.lt_size q1
    rw [sortedHeap_old (Nat.ne_of_lt lt) (by rw [size_push']; exact Nat.lt_succ_of_lt lt)]
    exact Heap.get?_push_of_some _ q1
  have J : Inv X pins σ (upd H s1.heap.objs.size (.lst (ys.map V.str))) { s with heap := sortedHeap (s1.heap.push (seqObj "list" vs.toArray 0)) s1.heap.objs.size vs ((arrOf st').map (·.2)), gens := s1.gens, drawn := s1.drawn, toks := s1.toks } :=
    I.call (ch := []) (Un.laid kk hz hn) (I.hok.laid kk hz ⟨hlen, ((arrOf st').map (·.2)).toList, e', vals_of_strs y1, by rw [Array.toArray_toList]; exact he'⟩) (by rw [g1]; exact I.bare) (fun _ z => nomatch z)
  have ee : ({ s1 with heap := sortedHeap (s1.heap.push (seqObj "list" vs.toArray 0)) s1.heap.objs.size vs ((arrOf st').map (·.2)) } : Shared) = { s with heap := sortedHeap (s1.heap.push (seqObj "list" vs.toArray 0)) s1.heap.objs.size vs ((arrOf st').map (·.2)), gens := s1.gens, drawn := s1.drawn, toks := s1.toks } := by
    cases s1
    cases s
    cases o1
    rfl
  show wpAny _ _ (ret _) _ _ _
  refine wpAny_pure ⟨_, rfl, ?_⟩
  rw [ee]
  exact ⟨.ref s1.heap.objs.size, _, J, rfl, q ys _ y4 y3 hn⟩
/-! ### frozen for good -/
/-- the thing at an address is read from here on, never written -/
def tFrz (t : TS) : TS := fun D σ H => ∃ d u, H d = some u ∧ Mut (some u) ∧ ∀ od, t D σ (upd H d (.frz od u))
theorem ps_frz {st : Stmt} {t : TS} (h : PS X st t) : PS X st (tFrz t) := by
  refine ⟨fun pins s σ H D I hw => ?_⟩
  obtain ⟨d, u, hd, mu, hw⟩ := hw
  obtain ⟨od, I1⟩ := I.lock hd mu
  exact h.run pins s σ _ _ I1 (hw od)
def tFrzE (t : TE) : TE := fun σ H Q => ∃ d u, H d = some u ∧ Mut (some u) ∧ ∀ od, t σ (upd H d (.frz od u)) Q
theorem pe_frz {e : Expr} {t : TE} (h : PE X e t) : PE X e (tFrzE t) := by
  refine ⟨fun pins s σ H Q I hw => ?_⟩
  obtain ⟨d, u, hd, mu, hw⟩ := hw
  obtain ⟨od, I1⟩ := I.lock hd mu
  exact h.run pins s σ _ _ I1 (hw od)
/-- what an expression hands back is frozen -/
def tFrzV (t : TE) : TE := fun σ H Q => t σ H fun v H1 => ∃ d u, v = .ref d ∧ H1 d = some u ∧ Mut (some u) ∧ ∀ od, Q v (upd H1 d (.frz od u))
theorem pe_frzV {e : Expr} {t : TE} (h : PE X e t) : PE X e (tFrzV t) := by
  refine ⟨fun pins s σ H Q I hw => ?_⟩
  refine thn (h.run pins s σ H _ I hw) fun v s1 q => ?_
  obtain ⟨x, H1, I1, r, d, u, e1, hd, mu, q1⟩ := q
  obtain ⟨od, I2⟩ := I1.lock hd mu
  exact ⟨x, _, I2, r, q1 od⟩
/-- .. or not -/
theorem pe_imp {e : Expr} {t t' : TE} (h : PE X e t) (k : ∀ σ H Q, t' σ H Q → t σ H Q) : PE X e t' := ⟨fun pins s σ H Q I hw => h.run pins s σ H Q I (k σ H Q hw)⟩
end
end Lk


set_option Elab.async false
set_option linter.all false
set_option maxRecDepth 100000
set_option maxHeartbeats 8000000
set_option pp.maxSteps 1500
/-! Defs that run where no repr is on its way: repr of data, and the law's call for such defs. -/
namespace Lk
open PySem PySem.Spec PyProof.Rows L2
/-- FnOk where nothing is being shown -/
structure FnOkG (P : Program) (w : World) (K : PySem.W.Frag) (mg : Str → Option Value) (base : Heap) (CX : CXT) (k : Nat) (f : Addr) (fd : FuncData) (ps : List Str) (sp : Sp) : Prop where
  len : ∀ vs H Q E, sp vs H Q E → vs.length = ps.length
  run : ∀ (A : Around) (outer : List Env) (s : Shared) (H : Hp) (args : Args) (us : List Value) (vs : List V) (Q : VK) (E : XK), A.guards = some [] → Room k A → Env0 P w K mg base A outer s H → BindsTo s fd args (ps.zip us) → Vals vs us → sp vs H Q E →
    codeAny (model P w) A (.call (.ref f) args) (CR CX outer P w H s Q E) s
section
variable {P : Program} {w : World} {K : PySem.W.Frag} {mg : Str → Option Value} {base : Heap}
/-- a def by its body, as Fun.ok -/
theorem fun_okG {x qual : Str} {st : Stmt} {f : Addr} {fd : FuncData} {N ps : List Str} {k : Nat} {sp : Sp} (F : Fun K x qual st f fd) (S : FnScope N ps (defScope st)) (len : ∀ vs H Q E, sp vs H Q E → vs.length = ps.length)
    (hbody : ∀ (cdv : Value) (A : Around) (outer : List Env) (s : Shared) (H : Hp) (vs : List V) (Q : VK) (E : XK), A.guards = some [] → Room k (A.deeper (envOfC qual (defScope st) s.heap.objs.size f cdv)) → sp vs H Q E →
      ∃ t, PSs (cxOf CX0 P w K mg base N qual (defScope st) f cdv A outer s H E).nox (defBody st) t ∧ t { nx := fun _ H' => Q .non H', rt := Q } (start N vs) H) : FnOkG P w K mg base CX0 (k + 1) f fd ps sp := by
  obtain ⟨oc, od, kV, doc, pm, an, cdv, ct, osl, rfl, lk, hcd⟩ := F.ex
  refine ⟨len, fun A outer s H args us vs Q E hA hr e0 hb r hsp => ?_⟩
  have hl := len _ _ _ _ hsp
  have KX : K.In s.heap := e0.mod.kin.keeps fun b o e => (e0.bs b o e).1
  have lim : s.heap.NoLimit := e0.mod.nolimit.keeps fun b o e => (e0.bs b o e).1
  refine codeAny_call_function hr.depth (KX _ _ lk) rfl S.co S.gen rfl (PySem.W.codeRec_of KX hcd) (hb _ _ _ _ ?_)
  refine wpAny_newFunctionEnv_cells S.kind (fun y hy => ?_) fun env he s1 z => ?_
  · rcases S.par y.1 (List.of_mem_zip (a := y.1) (b := y.2) hy).1 with q | q
    · exact .inl q
    · exact .inr ⟨q, PySem.W.cellsFrom_some _ _ _ (.inl q)⟩
  subst he
  refine ⟨lim.keeps z.toInCall.keep, codeAny_func ?_⟩
  obtain ⟨t, ht, hq⟩ := hbody cdv A outer s H vs Q E hA (hr.deeper _) hsp
  have J0 := inv_start (CX := CX0) (E := E) S hr.hd e0 hl r z
  refine wpAny_mono (ht.nox.run [] s1 (start N vs) H _ J0 hq) (fun fl s' hs => ?_) fun e s' hs => hs
  cases fl with
  | ret u =>
    obtain ⟨v, σ', H', J, rv, q⟩ := hs
    exact ⟨v, H', J.os, J.bare, J.base, J.hok, rv, q⟩
  | next =>
    obtain ⟨σ', H', J, q⟩ := hs
    exact ⟨V.non, H', J.os, J.bare, J.base, J.hok, rfl, q⟩
  | brk =>
    obtain ⟨_, _, _, q⟩ := hs
    exact False.elim q
  | cont =>
    obtain ⟨_, _, _, q⟩ := hs
    exact False.elim q
end
section
variable {X : Cx} {k : Nat} {f : Addr} {fd : FuncData} {ps : List Str} {sp : Sp} {x : Str} {p pos : Pos} {e : Expr} {es : List Expr} {t : TA}
/-- f(..) of such a def -/
theorem pe_callG (F : FnOkG X.prog X.w X.K X.mg X.base CX0 k f fd ps sp) (hG : X.A.guards = some []) (hr : Room k X.A) (hg : Gl X x) (hm : X.mg x = some (.ref f)) (hk : PySem.W.keepIn X.K (.ref f) = true) (hb : Binds X.K fd ps [])
    (ha : PA X (e :: es) t) (hdb : (x == ("__debug__" : Str)) = false := by decide) (he : starEach (e :: es) X.env = (false, eval e X.env) :: starEach es X.env := by rfl) (hpl : (backTo pos (starEach es X.env)).any (·.1) = false := by rfl) :
    PE X (.Call (.Name x p) (e :: es) [] pos) (tCall sp [] E0 t) := by
  refine ⟨fun pins s σ H Q I h => ?_⟩
  refine wpAny_Call_Name_kw (ld_glob I hg hm ?_ hdb)
  refine PySem.W.callWith_K (h₀ := X.base) I.ok.mod.kin hk (thn (ha.run pos pins s σ H _ I h) fun us s1 ⟨vs, H1, I1, r, q⟩ => ⟨I1.kIn, ?_⟩) he hpl
  have r2 : Vals (vs ++ []) (us ++ []) := r.append .nil
  have hl : (us ++ []).length = ps.length := by rw [← r2.length]; exact F.len _ _ _ _ q
  refine wpAny_call (codeAny_mono (F.run X.A X.stack s1 H1 ⟨us, []⟩ (us ++ []) (vs ++ []) Q E0 hG hr I1.env0 (hb s1 us I1.kIn hl) r2 q) fun r' s' hq => ?_)
  cases r' with
  | error e => exact hq.elim
  | ok fl =>
    cases fl with
    | ret u => exact I1.after hq
    | next => exact hq.elim
    | brk => exact hq.elim
    | cont => exact hq.elim
/-- repr of data at an address -/
theorem call_repr (hG : X.A.guards = some []) : CallR X (.builtin "repr") (fun xs H Q => ∃ (a : Addr) (d : PyData), xs = [.ref a] ∧ (∀ (pins : List (Addr × Obj)) (σ : L2.St) (s : Shared), Inv X pins σ H s → ∃ as, Reads s.heap (.ref a) d as ∧ (d.hasDict = true → sysModules ∉ as)) ∧
    d.showable = true ∧ X.A.units + (d.depth + 1) < cLine ∧ d.shown.length ≤ sizeLine ∧ Q (.str d.shown) H) := by
  intro pins s σ H xs us Q I r h
  obtain ⟨a, d, rfl, hrd, hs, hu, hz, q⟩ := h
  obtain ⟨u, rfl, ru⟩ := vals1 r
  cases ru
  obtain ⟨as, hr, hsm⟩ := hrd pins σ s I
  exact repr_of_reads' hr hs hsm hG hu (fun _ _ e => e) (fun h' u' tk k => ⟨.str d.shown, H, I.kept k, ⟨u', rfl⟩, q⟩) hz
end
/-- the law's call, its def promised by FnOkG; as L2.law_call -/
theorem law_callG {P : Program} {w : World} {K : PySem.W.Frag} {mg mb : Str → Option Value} {k : Nat} {fa a : Addr} {fd : FuncData} {x : Str} {sp : Sp} {s₁ : Shared} {vs : List Value} {ns : List Int}
    (KX : K.In s₁.heap) (hns : s₁.heap.Ns mainGlobals mg) (hb : s₁.heap.Ns builtinsNs mb) (hbb : ∀ x : Str, x ≠ "__name__" → mb x = bootBuiltins x) (hlim : s₁.heap.NoLimit) (hg : s₁.gens = #[])
    (ha : s₁.heap.get? a = some { cls := .type "list", data := .seq vs.toArray }) (hi : IntsAre vs ns) (hl : ns.length ≤ sizeLine) (hr : Room k callerA)
    (hsm : ∃ mm, s₁.heap.Ns sysModules mm) (F : ∀ base : Heap, K.In base → base.Ns mainGlobals mg → (∃ mm, base.Ns sysModules mm) → FnOkG P w K mg base CX0 k fa fd [x] sp) (hbind : ∀ (s : Shared) (u : Value), BindsTo s fd ⟨[u], []⟩ [(x, u)])
    (hsp : ∀ H : Hp, Only H → SqL K H a (ns.map V.int) → sp [.ref a] H (fun v _ => v = .bl true) fun _ _ _ => False) :
    codeAny (model P w) callerA (.call (.ref fa) ⟨[.ref a], []⟩) (fun r s' => r = .ok (.ret (.bool true)) ∧ OldK s₁.heap s'.heap ∧ s'.os = s₁.os ∧ AllBare s'.gens) s₁ := by
  have rv := vals_ints hi
  have core : ∀ H : Hp, Only H → SqL K H a (ns.map V.int) → HOk P w H s₁.heap → (∀ b, H b ≠ none → b = a) → (H a ≠ none → K.lookup a = none) →
      codeAny (model P w) callerA (.call (.ref fa) ⟨[.ref a], []⟩) (fun r s' => r = .ok (.ret (.bool true)) ∧ OldK s₁.heap s'.heap ∧ s'.os = s₁.os ∧ AllBare s'.gens) s₁ := by
    intro H hO hS hok hA hK
    have isL : ∀ {b : Addr} {u : HO}, H b = some u → b = a := fun {b u} q => hA b (by rw [q]; exact fun z => nomatch z)
    have offD : ∀ {b : Addr} {o : Obj} {es : Array DictEntry} {ep : Nat}, s₁.heap.get? b = some o → o.data = .dict es ep → H b = none := fun {b o es ep} e d => by
      rcases q : H b with _ | u
      · rfl
      · rw [isL q, ha] at e
        cases e
        cases d
    have nsK : ∀ {b : Addr} {m : Str → Option Value}, s₁.heap.Ns b m → (hidT s₁.heap H).Ns b m := fun {b m} ⟨o, es, ep, e, d, r⟩ => ⟨o, es, ep, hidT_get e (offD e d), d, r⟩
    have hKb : K.In (hidT s₁.heap H) := fun b o e => hidT_get (KX b o e) (by
      rcases q : H b with _ | u
      · rfl
      · have eb := isL q
        subst eb
        rw [hK (by rw [q]; exact fun z => nomatch z)] at e
        cases e)
    have hM : Mod K mg (hidT s₁.heap H) := ⟨hKb, nsK hns, ⟨mb, nsK hb, hbb⟩, let ⟨mc, h1, h2⟩ := hlim; ⟨mc, nsK h1, h2⟩⟩
    have e0 : Env0 P w K mg (hidT s₁.heap H) callerA [] s₁ H := ⟨rfl, hM, fun b o e => of_hidT e, Nat.le_of_eq (hidT_size _ _), trivial, fun b hb => absurd (show b ∈ ([] : List Addr) from hb) (by simp), hok, .of_eq hg⟩
    refine codeAny_mono ((F _ hKb (nsK hns) (let ⟨mm, z⟩ := hsm; ⟨mm, nsK z⟩)).run callerA [] s₁ H ⟨[.ref a], []⟩ [.ref a] [.ref a] _ _ rfl hr e0 (hbind s₁ (.ref a)) (.cons rfl .nil) (hsp H hO hS)) fun r s' h => ?_
    rcases r with e | fl
    · exact h.elim
    cases fl with
    | next => exact False.elim h
    | brk => exact False.elim h
    | cont => exact False.elim h
    | ret u =>
      obtain ⟨v, H', os, bare, un, hok', r', q⟩ := h
      obtain rfl : v = .bl true := q
      obtain rfl : u = Value.bool true := r'
      refine ⟨rfl, OldK.of_keep fun b o e => ?_, os, bare⟩
      rcases q : H b with _ | u
      · exact un.keep b o e q (fun z => absurd (show b ∈ ([] : List Addr) from z) (by simp)) (by simp)
      · rcases hO b with z | ⟨ob, xs, z⟩
        · rw [q] at z
          cases z
        · obtain ⟨e1, _⟩ := hok b _ z
          obtain ⟨e2, _⟩ := hok' b _ (un.frzs b ob _ z)
          rw [e] at e1
          cases e1
          exact e2
  rcases hk : K.lookup a with _ | o
  · refine core (fun b => if b = a then some (.frz { cls := .type "list", data := .seq vs.toArray } (.lst (ns.map V.int))) else none) (fun b => ?_) (.inl (.inr ⟨{ cls := .type "list", data := .seq vs.toArray }, if_pos rfl⟩)) (fun b u z => ?_) (fun b z => ?_) fun _ => hk
    · by_cases hb : b = a
      · exact .inr ⟨_, _, if_pos hb⟩
      · exact .inl (if_neg hb)
    · by_cases hb : b = a
      · cases (if_pos hb).symm.trans z
        subst hb
        exact ⟨ha, by rw [List.length_map]; exact hl, vs, _, rv, ha⟩
      · cases (if_neg hb).symm.trans z
    · by_cases hb : b = a
      · exact hb
      · exact absurd (if_neg hb) z
  · have e := KX a o hk
    rw [ha] at e
    cases e
    have lenV := hi.length
    refine core (fun _ => none) (fun _ => .inl rfl) (.inr ⟨_, vs.toArray, _, hk, rfl, rfl, rfl, by rw [List.size_toArray, lenV]; exact hl, by simpa using rv⟩) (fun b u z => by cases (show (none : Option HO) = some u from z)) (fun b z => absurd rfl z) fun z => absurd rfl z
/-- the goal that k_head leaves, as L2.walk_of -/
theorem walk_ofG {l : PySem.W.OpenLaw} {n k : Nat} {q : Program} {loose : List Str} {XP : (Str → Option Value) → Heap → Prop} {YP : World → Heap → Prop} {d : DefRec} {K : Params → PySem.W.Frag} {sp : PySem.W.Frag → Sp} {x : Str}
    (hq : importsNone q = true) (hn : l.most = some n) (hn2 : n ≤ sizeLine) (hdf : d.params.defaults = []) (hr : Room k callerA) (hY : ∀ (w : World) (h : Heap), YP w h → (K w.params).In h)
    (F : ∀ (w : World) (mg : Str → Option Value) (fa : Addr) (h : Heap), (K w.params).In h → h.Ns mainGlobals mg → mg d.name = some (.ref fa) →
      ∃ fd : FuncData, (∀ (s : Shared) (u : Value), BindsTo s fd ⟨[u], []⟩ [(x, u)]) ∧ ∀ base : Heap, (K w.params).In base → base.Ns mainGlobals mg → (∃ mm, base.Ns sysModules mm) → FnOkG l.prog w (K w.params) mg base CX0 k fa fd [x] (sp (K w.params)))
    (hsp : ∀ (K : PySem.W.Frag) (H : Hp) (a : Addr) (ns : List Int), ns.length ≤ n → Only H → SqL K H a (ns.map V.int) → sp K [.ref a] H (fun v _ => v = .bl true) fun _ _ _ => False) :
    PySem.W.WalkO q loose XP YP l.row.toRowW d [] (fun f vs => PySem.call f vs) := by
  refine Att.attach_call hn hdf fun w s₀ s₁ mg mb fa o pm cd doc a vs ns G Y ho hd hcd hmg hobj hints hlen hg => ?_
  have KX := hY w _ Y
  obtain ⟨fd, hb, hF⟩ := F w mg fa _ KX G.T.g hmg
  exact law_callG KX G.T.g G.T.b G.T.builtins G.T.nolimit hg hobj hints (Nat.le_trans hlen hn2) hr (let ⟨mm, a, _⟩ := (G.T.seer hq).mods; ⟨mm, a⟩) hF hb fun H hO hS => hsp (K w.params) H a ns hlen hO hS
end Lk


set_option Elab.async false
set_option linter.all false
set_option maxRecDepth 100000
set_option maxHeartbeats 8000000
set_option pp.maxSteps 1500
namespace Lk
open PySem PySem.Spec PyProof.Rows L2
/-! ### data with dicts keyed by texts -/
mutual
inductive Dq (K : PySem.W.Frag) (H : Hp) : V → PyData → Prop
  | non : Dq K H .non .none
  | bl (b : Bool) : Dq K H (.bl b) (.bool b)
  | int (i : Int) : Dq K H (.int i) (.int i)
  | str (x : Str) : Dq K H (.str x) (.str x)
  | lst {a : Addr} {xs : List V} {ds : List PyData} : SqL K H a xs → DqAll K H xs ds → Dq K H (.ref a) (.list ds)
  | tup {a : Addr} {xs : List V} {ds : List PyData} : SqT K H a xs → DqAll K H xs ds → Dq K H (.ref a) (.tuple ds)
  | dic {a : Addr} {kvs : List (Key × V)} {ds : List (PyData × PyData)} : Rd H a (.dK kvs) → DqKv K H kvs ds → Dq K H (.ref a) (.dict ds)
inductive DqAll (K : PySem.W.Frag) (H : Hp) : List V → List PyData → Prop
  | nil : DqAll K H [] []
  | cons {v : V} {vs : List V} {d : PyData} {ds : List PyData} : Dq K H v d → DqAll K H vs ds → DqAll K H (v :: vs) (d :: ds)
inductive DqKv (K : PySem.W.Frag) (H : Hp) : List (Key × V) → List (PyData × PyData) → Prop
  | nil : DqKv K H [] []
  | cons {x : Str} {v : V} {vs : List (Key × V)} {d : PyData} {ds : List (PyData × PyData)} : Dq K H v d → DqKv K H vs ds → DqKv K H ((Sum.inr x, v) :: vs) ((.str x, d) :: ds)
end
section
variable {X : Cx} {pins : List (Addr × Obj)} {σ : L2.St} {H : Hp} {s : Shared}
theorem sys_off (I : Inv X pins σ H s) (hb : ∃ mm, X.base.Ns sysModules mm) : H sysModules = none ∧ ∃ o es ep, s.heap.get? sysModules = some o ∧ o.data = .dict es ep ∧ X.base.get? sysModules = some o := by
  obtain ⟨mm, o, es, ep, ho, hd, _⟩ := hb
  obtain ⟨h1, h2⟩ := I.bs _ _ ho
  exact ⟨h2, o, es, ep, h1, hd, ho⟩
theorem rd_off (I : Inv X pins σ H s) (hb : ∃ mm, X.base.Ns sysModules mm) {a : Addr} {u : HO} (h : Rd H a u) : sysModules ≠ a := fun e => by
  have q := (sys_off I hb).1
  rw [e] at q
  rcases h with h | ⟨o, h⟩
  · rw [q] at h; cases h
  · rw [q] at h; cases h
mutual
theorem Dq.reads (I : Inv X pins σ H s) (hb : ∃ mm, X.base.Ns sysModules mm) : ∀ (d : PyData) (v : V) (u : Value), Dq X.K H v d → RelV v u → ∃ as, Reads s.heap u d as ∧ sysModules ∉ as
  | .none, _, _, h, r => by
    cases h
    cases r
    exact ⟨_, Reads.none, by simp⟩
  | .bool b, _, _, h, r => by
    cases h
    cases r
    exact ⟨_, Reads.bool b, by simp⟩
  | .int i, _, _, h, r => by
    cases h
    obtain ⟨t, rfl⟩ := r
    exact ⟨_, Reads.int i t, by simp⟩
  | .str x, _, _, h, r => by
    cases h
    obtain ⟨t, rfl⟩ := r
    exact ⟨_, Reads.str x t, by simp⟩
  | .list ds, _, _, h, r => by
    cases h with
    | @lst a xs _ hs ha =>
      cases r
      obtain ⟨its, rv, ⟨o, n, ho, hc, _, hd⟩, _⟩ := I.list hs
      obtain ⟨as, hr, hn⟩ := Dq.readsAll I hb ds _ its ha rv
      refine ⟨_, Reads.list ho hc hd hr, fun z => ?_⟩
      rcases List.mem_cons.mp z with z | z
      · obtain ⟨_, o2, es, ep, h2, hd2, _⟩ := sys_off I hb
        rw [z, ho] at h2
        cases h2
        rw [hd] at hd2
        cases hd2
      · exact hn z
  | .tuple ds, _, _, h, r => by
    cases h with
    | tup hs ha =>
      cases r
      obtain ⟨its, rv, ⟨o, ho, hc, n, hd⟩, _⟩ := I.tuple hs
      obtain ⟨as, hr, hn⟩ := Dq.readsAll I hb ds _ its ha rv
      exact ⟨_, Reads.tuple ho hc hd hr, hn⟩
  | .dict ds, _, _, h, r => by
    cases h with
    | @dic a kvs _ hd hkv =>
      cases r
      obtain ⟨_, _, vs, kv, o, es, ep, ho, hex, hdt, _, hp, _⟩ := dk_rd I.hok hd
      obtain ⟨as, bs, h1, h2, n1, n2⟩ := Dq.readsKv I hb ds kvs vs es.toList hkv kv hp
      refine ⟨_, Reads.dict ho hex.1 hdt h1 h2, fun z => ?_⟩
      rw [List.cons_append] at z
      rcases List.mem_cons.mp z with z | z
      · exact rd_off I hb hd z
      · rcases List.mem_append.mp z with z | z
        · exact n1 z
        · exact n2 z
theorem Dq.readsAll (I : Inv X pins σ H s) (hb : ∃ mm, X.base.Ns sysModules mm) : ∀ (ds : List PyData) (vs : List V) (us : List Value), DqAll X.K H vs ds → Vals vs us → ∃ as, ReadsAll s.heap us ds as ∧ sysModules ∉ as
  | [], _, _, h, r => by
    cases h
    cases r
    exact ⟨_, ReadsAll.nil, by simp⟩
  | d :: ds, _, _, h, r => by
    cases h with
    | cons h1 h2 =>
      cases r with
      | cons r1 r2 =>
        obtain ⟨as, q1, n1⟩ := Dq.reads I hb d _ _ h1 r1
        obtain ⟨bs, q2, n2⟩ := Dq.readsAll I hb ds _ _ h2 r2
        exact ⟨_, ReadsAll.cons q1 q2, fun z => (List.mem_append.mp z).elim n1 n2⟩
theorem Dq.readsKv (I : Inv X pins σ H s) (hb : ∃ mm, X.base.Ns sysModules mm) : ∀ (ds : List (PyData × PyData)) (kvs : List (Key × V)) (vs : List (Key × Value)) (es : List DictEntry), DqKv X.K H kvs ds → KV kvs vs → Pairs (mixKind X.prog X.w) es vs →
    ∃ as bs, ReadsAll s.heap (es.map (·.key)) (ds.map (·.1)) as ∧ ReadsAll s.heap (es.map (·.val)) (ds.map (·.2)) bs ∧ sysModules ∉ as ∧ sysModules ∉ bs
  | [], _, _, _, h, r, p => by
    cases h
    cases r
    cases p
    exact ⟨_, _, ReadsAll.nil, ReadsAll.nil, by simp, by simp⟩
  | _ :: ds, _, _, _, h, r, p => by
    cases h with
    | @cons x v kvs d _ h1 h2 =>
      cases r with
      | cons r1 r2 =>
        cases p with
        | @cons ent kv1 _ _ p1 p2 p3 =>
          obtain ⟨as, bs, q1, q2, n1, n2⟩ := Dq.readsKv I hb ds _ _ _ h2 r2 p3
          obtain ⟨as1, q3, n3⟩ := Dq.reads I hb d _ _ h1 r1.2
          have e1 : keyIs (Sum.inr x) ent.key = true := by
            have z := r1.1
            rw [← z] at p1
            exact p1
          obtain ⟨t, ek⟩ := Value.isStrOf_shape e1
          refine ⟨_, _, ReadsAll.cons (by show Reads s.heap ent.key (.str x) _; rw [ek]; exact Reads.str x t) q1, ReadsAll.cons (by show Reads s.heap ent.val d as1; rw [p2]; exact q3) q2, ?_, fun z => (List.mem_append.mp z).elim n3 n2⟩
          rw [List.nil_append]
          exact n1
end
end
section
variable {X : Cx}
/-- repr of a list or dict of data -/
theorem cr_repr (hG : X.A.guards = some []) (hb : ∃ mm, X.base.Ns sysModules mm) (hr : X.A.units + 64 < cLine) : CallR X (.builtin "repr") (fun xs H Q => ∃ (a : Addr) (d : PyData), xs = [.ref a] ∧ Dq X.K H (.ref a) d ∧ d.showable = true ∧ d.depth ≤ 60 ∧ d.shown.length ≤ sizeLine ∧ Q (.str d.shown) H) := by
  intro pins s σ H xs us Q I r h
  obtain ⟨a, d, rfl, hd, hs, hdp, hz, q⟩ := h
  obtain ⟨u, rfl, ru⟩ := vals1 r
  cases ru
  obtain ⟨as, h1, h2⟩ := hd.reads I hb d _ _ rfl
  exact repr_of_reads' h1 hs (fun _ => h2) hG (by omega) (fun _ _ e => e) (fun h' u' tk k => ⟨.str d.shown, H, I.kept k, ⟨u', rfl⟩, q⟩) hz
/-! ### == where all is alike, tuples within -/
/-- lists, tuples, dicts that are alike -/
def AlR (K : PySem.W.Frag) (H : Hp) (E : V → V → Prop) (x y : V) : Prop :=
  (∃ a b xs ys, x = .ref a ∧ y = .ref b ∧ SqL K H a xs ∧ SqL K H b ys ∧ Paired E xs ys) ∨
    (∃ a b ks ls, x = .ref a ∧ y = .ref b ∧ Rd H a (.dK ks) ∧ Rd H b (.dK ls) ∧ ks.length = ls.length ∧ ∀ p ∈ ks, ∃ u, valV ls p.1 = some u ∧ E p.2 u) ∨
    ∃ d, Dp K H x d ∧ Dp K H y d ∧ SeqAt.shaped d = true ∧ d.canLay0 = true ∧ (∃ a b, x = .ref a ∧ y = .ref b)
def AlV (K : PySem.W.Frag) (H : Hp) : Nat → V → V → Prop
  | 0 => fun _ _ => False
  | n + 1 => fun x y => (x = y ∧ flatB x = true) ∨ (∃ a, x = .ref a ∧ y = .ref a) ∨ AlR K H (AlV K H n) x y
theorem alR_run {pins : List (Addr × Obj)} {σ : L2.St} {H : Hp} {s : Shared} (I : Inv X pins σ H s) {A : Around} {F : V → V → Prop} (hu : A.units + 70 < cLine) (ih : ∀ x y v u, F x y → RelV x v → RelV y u → SeqAt.EqP X.prog X.w A.in1 s v u true) {x y : V} {v u : Value}
    (h : AlR X.K H F x y) (rx : RelV x v) (ry : RelV y u) (E Q : Value → Shared → Prop) (q : Q (.bool true) s) : wpAny (model X.prog X.w) A (richCompare .Eq v u) Q E s := by
  rcases h with ⟨a, b, xs, ys, rfl, rfl, ha, hb, hp⟩ | ⟨a, b, ks, ls, rfl, rfl, ha, hb, hl, hp⟩ | ⟨d, h1, h2, hs, hc, a, b, rfl, rfl⟩
  · cases (show v = Value.ref a from rx)
    cases (show u = Value.ref b from ry)
    exact eqR_run I (by omega) ih (.inl ⟨a, b, xs, ys, rfl, rfl, ha, hb, hp⟩) rfl rfl E Q q
  · cases (show v = Value.ref a from rx)
    cases (show u = Value.ref b from ry)
    obtain ⟨_, ya, va, ra, da⟩ := dk_rd I.hok ha
    obtain ⟨_, yb, vb, rb, db⟩ := dk_rd I.hok hb
    refine PySem.W.rcP_dicts (knd := mixKind X.prog X.w) (r := true) ya yb da db (by omega) (fun _ => hits_run ih rb ra hp) E Q ?_
    have e : va.length = vb.length := by rw [← ra.length, ← rb.length]; exact hl
    rw [show (va.length == vb.length && true) = true from by rw [e]; simp]
    exact q
  · cases (show v = Value.ref a from rx)
    cases (show u = Value.ref b from ry)
    obtain ⟨as, r1⟩ := Dp.reads I d _ _ h1 rfl
    obtain ⟨bs, r2⟩ := Dp.reads I d _ _ h2 rfl
    refine SeqAt.compareEq_shaped r1 r2 hs hs (by omega) ?_
    rw [SeqAt.eqv_refl d hc]
    exact q
theorem alV_run {pins : List (Addr × Obj)} {σ : L2.St} {H : Hp} {s : Shared} (I : Inv X pins σ H s) : ∀ (n : Nat) (A : Around), A.units + n + 70 < cLine → ∀ (x y : V) (v u : Value), AlV X.K H n x y → RelV x v → RelV y u → SeqAt.EqP X.prog X.w A s v u true
  | 0, _, _, _, _, _, _, h, _, _ => (show False from h).elim
  | n + 1, A, hu, x, y, v, u, h, rx, ry => by
    rcases h with ⟨rfl, f⟩ | ⟨a, rfl, rfl⟩ | h
    · exact (eqAt_same rx ry f).eqP
    · cases (show v = Value.ref a from rx)
      cases (show u = Value.ref a from ry)
      exact (SeqAt.EqAt.same _).eqP
    · have step := alR_run I (A := A) (by omega) (alV_run I n A.in1 (by show A.units + 1 + n + 70 < cLine; omega)) h rx ry
      obtain ⟨a, b, rfl, rfl⟩ : ∃ a b, x = .ref a ∧ y = .ref b := by
        rcases h with ⟨a, b, _, _, e1, e2, _⟩ | ⟨a, b, _, _, e1, e2, _⟩ | ⟨_, _, _, _, _, a, b, e1, e2⟩
        · exact ⟨a, b, e1, e2⟩
        · exact ⟨a, b, e1, e2⟩
        · exact ⟨a, b, e1, e2⟩
      cases (show v = Value.ref a from rx)
      cases (show u = Value.ref b from ry)
      by_cases e : a = b
      · subst e
        exact (SeqAt.EqAt.same _).eqP
      · exact SeqAt.eqP_refs e step
/-- a == b, alike -/
def rEqA (K : PySem.W.Frag) : R2 := fun x y H Q => ∃ n, n ≤ 50 ∧ AlR K H (AlV K H n) x y ∧ Q (.bl true) H
theorem op_eqA (hu : X.A.units + 180 < cLine) : OpR X (compareOp .Eq) (rEqA X.K) := by
  intro pins s σ H x y v u Q I rx ry h
  obtain ⟨n, hn, h, q⟩ := h
  exact alR_run I (A := X.A) (by omega) (alV_run I n X.A.in1 (by show X.A.units + 1 + n + 70 < cLine; omega)) h rx ry _ _ ⟨.bl true, H, I, rfl, q⟩
end
end Lk


set_option Elab.async false
set_option linter.all false
set_option maxRecDepth 100000
set_option maxHeartbeats 8000000
set_option pp.maxSteps 1500
set_option exponentiation.threshold 9000
namespace Lk
open PySem PySem.Spec PyProof.Rows L2
section
variable {X : Cx} {e : Expr} {te : TE} {p apos cpos pos : Pos}
/-- list(e.values()) -/
def tListVals (te : TE) : TE := fun σ H Q => te σ H fun x H1 => ∃ d kvs, x = .ref d ∧ Rd H1 d (.dK kvs) ∧ ∀ p, H1 p = none → Q (.ref p) (upd H1 p (.lst (kvs.map (·.2))))
theorem kv_snd {kvs : List (Key × V)} {vs : List (Key × Value)} (h : KV kvs vs) : Vals (kvs.map (·.2)) (vs.map (·.2)) := by
  unfold KV at h
  induction h with
  | nil => exact .nil
  | cons r _ ih => exact .cons r.2 ih
theorem pe_listVals (hc : X.calm = true) (he : PE X e te) (hg : Gl X "list") (hm : X.mg "list" = none) (hv : bootBuiltins "list" = some (.type "list")) (hbase : attributeBase e "values" X.env (eval e X.env) = eval e X.env := by rfl) (hline : (apos.endLine == cpos.line) = true := by rfl)
    (hs : starEach [.Call (.Attribute e "values" apos) [] [] cpos] X.env = (false, eval (.Call (.Attribute e "values" apos) [] [] cpos) X.env) :: starEach [] X.env := by rfl) :
    PE X (.Call (.Name "list" p) [.Call (.Attribute e "values" apos) [] [] cpos] [] pos) (tListVals te) := by
  refine ⟨fun pins s σ H Q I hq => ?_⟩
  refine wpAny_Call_Name_kw (ld_blt I hg hm hv (PyProof.Rows.callWith_type1 ?_ hs rfl))
  rw [hs]
  show wpAny _ _ (spliced ((false, eval (.Call (.Attribute e "values" apos) [] [] cpos) X.env) :: backTo pos (starEach [] X.env))) _ _ s
  refine Calls.spliced_cons ?_
  refine wpAny_Call_method (T := "dict") (id := "dict.values") hbase rfl hline F.plainAttrs_dict F.slot_dict_values F.type_dict_values (thn (he.run pins s σ H _ I hq) fun u s1 ⟨x, H1, I1, rx, d, kvs, ex, hd, q⟩ => ?_)
  subst ex
  obtain rfl : u = Value.ref d := rx
  obtain ⟨hz, hs0, vs, kv, hdo⟩ := dk_rd I1.hok hd
  obtain ⟨ep, hat⟩ := hdo.dictAt
  have lk : kvs.length = vs.length := Paired.length kv
  have I2 : Inv X pins σ H1 { s1 with heap := s1.heap.push { cls := .type "dict_values", data := .fields #[.ref d] } } := I1.kept (t' := s1.toks) fun b ob q => Heap.get?_push_of_some _ q
  refine ⟨hdo.typeIs, hdo.mapOf.noDict, ?_⟩
  show wpAny _ _ (callWith cpos (.builtin "dict.values") [.ref d] [] []) _ X.xe s1
  refine method_meetsIn F.slot_dict_values F.entry_dict_values rfl (PySem.evalArgs_none ⟨rfl, hdo.typeIs, F.args_dict_values_1 _, _, meets_dict_values (mixKind X.prog X.w) d hs0, ⟨vs, hdo⟩, ?_⟩)
  refine Calls.spliced_nil ?_
  refine PySem.W.kdl_call (PySem.W.kdl_values (knd := mixKind X.prog X.w) (kvs := vs) (ep := ep)) (I1.ok.hd hc) ⟨⟨_, Heap.get?_push_size _ rfl, rfl, rfl⟩, hat.push _⟩ (by omega) fun h' tk acc' c' hk hS hacc => ?_
  have hl : acc'.toList = vs.map (·.2) := by
    apply List.ext_getElem
    · rw [Array.length_toList, hacc.1, List.length_map]
    · intro i h1 h2
      have hi : i < acc'.size := by simpa using h1
      obtain ⟨k, z⟩ := hacc.2 i _ (Array.getElem?_eq_getElem hi)
      obtain ⟨z1, z2⟩ := List.getElem?_eq_some_iff.mp z
      rw [List.getElem_map, z2, Array.getElem_toList]
  refine ⟨.ref _, upd H1 _ (.lst (kvs.map (·.2))), I2.laid (t' := tk) hk (Nat.le_refl _) ⟨by rw [List.length_map]; exact hz, acc'.toList, c', by rw [hl]; exact kv_snd kv, by rw [Array.toArray_toList]; exact hS⟩, rfl, q _ (I2.hok.fresh (Nat.le_refl _))⟩
/-- xs.count(y), texts -/
theorem mt_countS : MtR X "list.count" (fun x xs H Q => ∃ (p : Addr) (ys : List Str) (k : Str), x = .ref p ∧ xs = [.str k] ∧ SqL X.K H p (ys.map V.str) ∧ Q (.int (ys.count k : Nat)) H) := by
  intro pins s σ H x xs v us Q I rx rxs h
  obtain ⟨p, ys, k, rfl, rfl, hs, q⟩ := h
  cases rx
  obtain ⟨u, rfl, ru⟩ := rxs.one
  obtain ⟨t, rfl⟩ := ru
  obtain ⟨its, rv, ⟨⟨cls, dd, data, sl⟩, n, ho, hc, hdn, hd⟩, hlen⟩ := I.list hs
  simp only at hc hd
  subst hc hd
  have hi : StrsAre its ys := strsAre_of rv
  have eqs : ∀ {us : List Value} {zs : List Str}, StrsAre us zs → (∀ y ∈ us, MeetsSeq.EqGives y (.str k t) (match y with | .str z _ => z == k | _ => false)) ∧ us.countP (fun y => match y with | .str z _ => z == k | _ => false) = zs.count k := by
    intro us zs h
    induction h with
    | nil => exact ⟨fun y hy => (nomatch hy), rfl⟩
    | cons z t' _ ih =>
      refine ⟨fun y hy => ?_, ?_⟩
      · rcases List.mem_cons.mp hy with e | e
        · subst e
          exact eqGives_str z k t' t
        · exact ih.1 y e
      · rw [List.countP_cons, List.count_cons, ih.2]
  obtain ⟨e1, e2⟩ := eqs hi
  refine call_meets PySem.F.slot_list_count ⟨_, ho, rfl⟩ PySem.F.entry_list_count (PySem.F.args_list_count_2 _ _)
    (SeqAt.list_countAt p its.toArray n dd sl (.str k t) _) ⟨ho, fun y hy => (e1 y (by simpa using hy)).at _ _, ?_⟩
  refine ⟨.int (ys.count k : Nat), H, I.tok _, ⟨s.toks, ?_⟩, q⟩
  show Value.int ((List.countP _ its.toArray.toList : Nat) : Int) s.toks = Value.int ((ys.count k : Nat) : Int) s.toks
  rw [← e2]
/-- ** of ints, the size told -/
theorem op_powW : OpR X (binaryOp .Pow) (rI (fun i j => 0 ≤ j ∧ (Builtin.Int.intBits i : Int) * j ≤ 2 ^ 27) fun i j => .int (i ^ j.toNat)) := opI fun _ _ _ _ _ _ _ hc q => pow_int hc.1 hc.2 q
end
end Lk


set_option Elab.async false
set_option linter.all false
set_option maxRecDepth 100000
set_option maxHeartbeats 4000000
set_option pp.maxSteps 900
namespace Lk
open PySem PySem.Spec PyProof.Rows L2
section
variable {X : Cx}
/-- a dict == an empty one -/
def rEqDE : R2 := fun x y H Q => ∃ a b ks, x = .ref a ∧ y = .ref b ∧ Rd H a (.dK ks) ∧ Rd H b (.dK []) ∧ Q (.bl ks.isEmpty) H
theorem op_eqDE (hu : X.A.units + 64 < cLine) : OpR X (compareOp .Eq) rEqDE := by
  intro pins s σ H x y v u Q I rx ry h
  obtain ⟨a, b, ks, rfl, rfl, ha, hb, q⟩ := h
  cases (show v = Value.ref a from rx)
  cases (show u = Value.ref b from ry)
  obtain ⟨_, ya, va, ra, da⟩ := dk_rd I.hok ha
  obtain ⟨_, yb, vb, rb, db⟩ := dk_rd I.hok hb
  have lb : vb = [] := by
    cases rb
    rfl
  subst lb
  cases ks with
  | nil =>
    have la : va = [] := by
      cases ra
      rfl
    subst la
    refine PySem.W.rcP_dicts (knd := mixKind X.prog X.w) (r := true) ya yb da db (by omega) (fun _ => hits_run (F := fun _ _ => False) (fun _ _ _ _ z => z.elim) rb ra fun p hp => nomatch hp) _ _ ⟨.bl true, H, I, rfl, q⟩
  | cons z r =>
    have la : va.length = r.length + 1 := by rw [← ra.length]; rfl
    refine PySem.W.rcP_dicts (knd := mixKind X.prog X.w) (r := true) ya yb da db (by omega) (fun e => by rw [la] at e; cases e) _ _ ?_
    have e : (va.length == ([] : List (Key × Value)).length && true) = false := by rw [la]; rfl
    rw [e]
    exact ⟨.bl false, H, I, rfl, q⟩
end
end Lk


set_option Elab.async false
set_option linter.all false
set_option maxRecDepth 100000
set_option maxHeartbeats 4000000
namespace K79
open PySem L2
def top (i : Nat) : Stmt := PySem.Challenge.pw_likedbest_k79_whole_eaten_shares.main.body.getD i (.Pass ⟨0, 0, 0, 0⟩)
abbrev s_is_name : Stmt := top 6
abbrev N_is_name : List Str := ["value", "sign"]
theorem sc_is_name : FnScope N_is_name ["value"] (defScope s_is_name) := ⟨rfl, rfl, rfl, by decide +kernel, rfl, by decide +kernel, by decide +kernel⟩
abbrev s_is_count : Stmt := top 7
abbrev N_is_count : List Str := ["value"]
theorem sc_is_count : FnScope N_is_count ["value"] (defScope s_is_count) := ⟨rfl, rfl, rfl, by decide +kernel, rfl, by decide +kernel, by decide +kernel⟩
abbrev s_are_names : Stmt := top 8
abbrev N_are_names : List Str := ["value", "one"]
theorem sc_are_names : FnScope N_are_names ["value"] (defScope s_are_names) := ⟨rfl, rfl, rfl, by decide +kernel, rfl, by decide +kernel, by decide +kernel⟩
abbrev s_is_stock : Stmt := top 9
abbrev N_is_stock : List Str := ["value", "kind"]
theorem sc_is_stock : FnScope N_is_stock ["value"] (defScope s_is_stock) := ⟨rfl, rfl, rfl, by decide +kernel, rfl, by decide +kernel, by decide +kernel⟩
abbrev s_check_stock : Stmt := top 10
abbrev N_check_stock : List Str := ["value"]
theorem sc_check_stock : FnScope N_check_stock ["value"] (defScope s_check_stock) := ⟨rfl, rfl, rfl, by decide +kernel, rfl, by decide +kernel, by decide +kernel⟩
abbrev s_are_wishes : Stmt := top 12
abbrev N_are_wishes : List Str := ["value", "name"]
theorem sc_are_wishes : FnScope N_are_wishes ["value"] (defScope s_are_wishes) := ⟨rfl, rfl, rfl, by decide +kernel, rfl, by decide +kernel, by decide +kernel⟩
abbrev s_check_wishes : Stmt := top 13
abbrev N_check_wishes : List Str := ["value"]
theorem sc_check_wishes : FnScope N_check_wishes ["value"] (defScope s_check_wishes) := ⟨rfl, rfl, rfl, by decide +kernel, rfl, by decide +kernel, by decide +kernel⟩
abbrev s_check_asked : Stmt := top 14
abbrev N_check_asked : List Str := ["wishes", "stock"]
theorem sc_check_asked : FnScope N_check_asked ["wishes", "stock"] (defScope s_check_asked) := ⟨rfl, rfl, rfl, by decide +kernel, rfl, by decide +kernel, by decide +kernel⟩
abbrev s_least_terms : Stmt := top 16
abbrev N_least_terms : List Str := ["above", "below", "one", "other"]
theorem sc_least_terms : FnScope N_least_terms ["above", "below"] (defScope s_least_terms) := ⟨rfl, rfl, rfl, by decide +kernel, rfl, by decide +kernel, by decide +kernel⟩
abbrev s_plus : Stmt := top 17
abbrev N_plus : List Str := ["one", "other"]
theorem sc_plus : FnScope N_plus ["one", "other"] (defScope s_plus) := ⟨rfl, rfl, rfl, by decide +kernel, rfl, by decide +kernel, by decide +kernel⟩
abbrev s_minus : Stmt := top 18
abbrev N_minus : List Str := ["one", "other"]
theorem sc_minus : FnScope N_minus ["one", "other"] (defScope s_minus) := ⟨rfl, rfl, rfl, by decide +kernel, rfl, by decide +kernel, by decide +kernel⟩
abbrev s_times : Stmt := top 19
abbrev N_times : List Str := ["one", "other"]
theorem sc_times : FnScope N_times ["one", "other"] (defScope s_times) := ⟨rfl, rfl, rfl, by decide +kernel, rfl, by decide +kernel, by decide +kernel⟩
abbrev s_is_below : Stmt := top 20
abbrev N_is_below : List Str := ["one", "other"]
theorem sc_is_below : FnScope N_is_below ["one", "other"] (defScope s_is_below) := ⟨rfl, rfl, rfl, by decide +kernel, rfl, by decide +kernel, by decide +kernel⟩
abbrev s_least_of : Stmt := top 21
abbrev N_least_of : List Str := ["some", "found", "one"]
theorem sc_least_of : FnScope N_least_of ["some"] (defScope s_least_of) := ⟨rfl, rfl, rfl, by decide +kernel, rfl, by decide +kernel, by decide +kernel⟩
abbrev s_in_order : Stmt := top 22
abbrev N_in_order : List Str := ["row", "kind"]
theorem sc_in_order : FnScope N_in_order ["row"] (defScope s_in_order) := ⟨rfl, rfl, rfl, by decide +kernel, rfl, by decide +kernel, by decide +kernel⟩
abbrev s_meal_of : Stmt := top 23
abbrev N_meal_of : List Str := ["wishes", "left", "name", "some", "kind"]
theorem sc_meal_of : FnScope N_meal_of ["wishes", "left", "name"] (defScope s_meal_of) := ⟨rfl, rfl, rfl, by decide +kernel, rfl, by decide +kernel, by decide +kernel⟩
abbrev s_eaten_shares : Stmt := top 24
abbrev N_eaten_shares : List Str := ["wishes", "stock", "name", "found", "kind", "left", "hungry", "meals", "kinds", "eaters", "step"]
theorem sc_eaten_shares : FnScope N_eaten_shares ["wishes", "stock"] (defScope s_eaten_shares) := ⟨rfl, rfl, rfl, by decide +kernel, rfl, by decide +kernel, by decide +kernel⟩
abbrev s__law_purse : Stmt := top 26
abbrev N__law_purse : List Str := ["script", "at", "seed"]
theorem sc__law_purse : FnScope N__law_purse ["script", "at"] (defScope s__law_purse) := ⟨rfl, rfl, rfl, by decide +kernel, rfl, by decide +kernel, by decide +kernel⟩
abbrev s__law_mixed : Stmt := top 27
abbrev N__law_mixed : List Str := ["seed", "spin", "at", "mixed"]
theorem sc__law_mixed : FnScope N__law_mixed ["seed", "spin", "at"] (defScope s__law_mixed) := ⟨rfl, rfl, rfl, by decide +kernel, rfl, by decide +kernel, by decide +kernel⟩
abbrev s__law_draw : Stmt := top 28
abbrev N__law_draw : List Str := ["purse", "many", "drawn", "found", "piece"]
theorem sc__law_draw : FnScope N__law_draw ["purse", "many"] (defScope s__law_draw) := ⟨rfl, rfl, rfl, by decide +kernel, rfl, by decide +kernel, by decide +kernel⟩
abbrev s__law_purses : Stmt := top 29
abbrev N__law_purses : List Str := ["script", "few", "at"]
theorem sc__law_purses : FnScope N__law_purses ["script", "few"] (defScope s__law_purses) := ⟨rfl, rfl, rfl, by decide +kernel, rfl, by decide +kernel, by decide +kernel⟩
abbrev s__law_one_of : Stmt := top 30
abbrev N__law_one_of : List Str := ["purse", "some"]
theorem sc__law_one_of : FnScope N__law_one_of ["purse", "some"] (defScope s__law_one_of) := ⟨rfl, rfl, rfl, by decide +kernel, rfl, by decide +kernel, by decide +kernel⟩
abbrev s__law_shuffled : Stmt := top 31
abbrev N__law_shuffled : List Str := ["purse", "some", "found", "item"]
theorem sc__law_shuffled : FnScope N__law_shuffled ["purse", "some"] (defScope s__law_shuffled) := ⟨rfl, rfl, rfl, by decide +kernel, rfl, by decide +kernel, by decide +kernel⟩
abbrev s__law_exact : Stmt := top 32
abbrev N__law_exact : List Str := ["mine", "theirs", "is_list", "is_like", "a", "b"]
theorem sc__law_exact : FnScope N__law_exact ["mine", "theirs"] (defScope s__law_exact) := ⟨rfl, rfl, rfl, by decide +kernel, rfl, by decide +kernel, by decide +kernel⟩
abbrev s__law_wishes : Stmt := top 33
abbrev N__law_wishes : List Str := ["purse", "most", "wide", "kinds", "names", "found", "name", "many", "kind"]
theorem sc__law_wishes : FnScope N__law_wishes ["purse", "most", "wide"] (defScope s__law_wishes) := ⟨rfl, rfl, rfl, by decide +kernel, rfl, by decide +kernel, by decide +kernel⟩
abbrev s__law_low : Stmt := top 34
abbrev N__law_low : List Str := ["above", "below", "one", "other"]
theorem sc__law_low : FnScope N__law_low ["above", "below"] (defScope s__law_low) := ⟨rfl, rfl, rfl, by decide +kernel, rfl, by decide +kernel, by decide +kernel⟩
abbrev s__law_add : Stmt := top 35
abbrev N__law_add : List Str := ["one", "other"]
theorem sc__law_add : FnScope N__law_add ["one", "other"] (defScope s__law_add) := ⟨rfl, rfl, rfl, by decide +kernel, rfl, by decide +kernel, by decide +kernel⟩
abbrev s__law_sub : Stmt := top 36
abbrev N__law_sub : List Str := ["one", "other"]
theorem sc__law_sub : FnScope N__law_sub ["one", "other"] (defScope s__law_sub) := ⟨rfl, rfl, rfl, by decide +kernel, rfl, by decide +kernel, by decide +kernel⟩
abbrev s__law_mul : Stmt := top 37
abbrev N__law_mul : List Str := ["one", "other"]
theorem sc__law_mul : FnScope N__law_mul ["one", "other"] (defScope s__law_mul) := ⟨rfl, rfl, rfl, by decide +kernel, rfl, by decide +kernel, by decide +kernel⟩
abbrev s__law_less : Stmt := top 38
abbrev N__law_less : List Str := ["one", "other"]
theorem sc__law_less : FnScope N__law_less ["one", "other"] (defScope s__law_less) := ⟨rfl, rfl, rfl, by decide +kernel, rfl, by decide +kernel, by decide +kernel⟩
abbrev s__law_sum : Stmt := top 39
abbrev N__law_sum : List Str := ["some", "found", "one"]
theorem sc__law_sum : FnScope N__law_sum ["some"] (defScope s__law_sum) := ⟨rfl, rfl, rfl, by decide +kernel, rfl, by decide +kernel, by decide +kernel⟩
abbrev s__law_eaten : Stmt := top 40
abbrev N__law_eaten : List Str := ["wishes", "stock", "kind", "left", "hour", "name", "found", "meals", "some", "step", "late"]
theorem sc__law_eaten : FnScope N__law_eaten ["wishes", "stock"] (defScope s__law_eaten) := ⟨rfl, rfl, rfl, by decide +kernel, rfl, by decide +kernel, by decide +kernel⟩
abbrev s__law_up_to : Stmt := top 41
abbrev N__law_up_to : List Str := ["wishes", "name", "share", "found", "whole", "kind"]
theorem sc__law_up_to : FnScope N__law_up_to ["wishes", "name", "share"] (defScope s__law_up_to) := ⟨rfl, rfl, rfl, by decide +kernel, rfl, by decide +kernel, by decide +kernel⟩
abbrev s__law_case_right : Stmt := top 42
abbrev N__law_case_right : List Str := ["purse", "wishes", "stock", "kept", "due", "told", "used", "name", "kind", "mine", "other", "one", "late"]
theorem sc__law_case_right : FnScope N__law_case_right ["purse"] (defScope s__law_case_right) := ⟨rfl, rfl, rfl, by decide +kernel, rfl, by decide +kernel, by decide +kernel⟩
abbrev s_law : Stmt := top 43
abbrev N_law : List Str := ["script", "purse", "spin", "two", "due"]
theorem sc_law : FnScope N_law ["script"] (defScope s_law) := ⟨rfl, rfl, rfl, by decide +kernel, rfl, by decide +kernel, by decide +kernel⟩
structure Th (K : PySem.W.Frag) (mg : Str → Option Value) where
  f_is_name : Addr
  d_is_name : FuncData
  F_is_name : Fun K "is_name" "is_name" s_is_name f_is_name d_is_name
  b_is_name : Binds K d_is_name ["value"] []
  g_is_name : mg "is_name" = some (.ref f_is_name)
  f_is_count : Addr
  d_is_count : FuncData
  F_is_count : Fun K "is_count" "is_count" s_is_count f_is_count d_is_count
  b_is_count : Binds K d_is_count ["value"] []
  g_is_count : mg "is_count" = some (.ref f_is_count)
  f_are_names : Addr
  d_are_names : FuncData
  F_are_names : Fun K "are_names" "are_names" s_are_names f_are_names d_are_names
  b_are_names : Binds K d_are_names ["value"] []
  g_are_names : mg "are_names" = some (.ref f_are_names)
  f_is_stock : Addr
  d_is_stock : FuncData
  F_is_stock : Fun K "is_stock" "is_stock" s_is_stock f_is_stock d_is_stock
  b_is_stock : Binds K d_is_stock ["value"] []
  g_is_stock : mg "is_stock" = some (.ref f_is_stock)
  f_check_stock : Addr
  d_check_stock : FuncData
  F_check_stock : Fun K "check_stock" "check_stock" s_check_stock f_check_stock d_check_stock
  b_check_stock : Binds K d_check_stock ["value"] []
  g_check_stock : mg "check_stock" = some (.ref f_check_stock)
  f_are_wishes : Addr
  d_are_wishes : FuncData
  F_are_wishes : Fun K "are_wishes" "are_wishes" s_are_wishes f_are_wishes d_are_wishes
  b_are_wishes : Binds K d_are_wishes ["value"] []
  g_are_wishes : mg "are_wishes" = some (.ref f_are_wishes)
  f_check_wishes : Addr
  d_check_wishes : FuncData
  F_check_wishes : Fun K "check_wishes" "check_wishes" s_check_wishes f_check_wishes d_check_wishes
  b_check_wishes : Binds K d_check_wishes ["value"] []
  g_check_wishes : mg "check_wishes" = some (.ref f_check_wishes)
  f_check_asked : Addr
  d_check_asked : FuncData
  F_check_asked : Fun K "check_asked" "check_asked" s_check_asked f_check_asked d_check_asked
  b_check_asked : Binds K d_check_asked ["wishes", "stock"] []
  g_check_asked : mg "check_asked" = some (.ref f_check_asked)
  f_least_terms : Addr
  d_least_terms : FuncData
  F_least_terms : Fun K "least_terms" "least_terms" s_least_terms f_least_terms d_least_terms
  b_least_terms : Binds K d_least_terms ["above", "below"] []
  g_least_terms : mg "least_terms" = some (.ref f_least_terms)
  f_plus : Addr
  d_plus : FuncData
  F_plus : Fun K "plus" "plus" s_plus f_plus d_plus
  b_plus : Binds K d_plus ["one", "other"] []
  g_plus : mg "plus" = some (.ref f_plus)
  f_minus : Addr
  d_minus : FuncData
  F_minus : Fun K "minus" "minus" s_minus f_minus d_minus
  b_minus : Binds K d_minus ["one", "other"] []
  g_minus : mg "minus" = some (.ref f_minus)
  f_times : Addr
  d_times : FuncData
  F_times : Fun K "times" "times" s_times f_times d_times
  b_times : Binds K d_times ["one", "other"] []
  g_times : mg "times" = some (.ref f_times)
  f_is_below : Addr
  d_is_below : FuncData
  F_is_below : Fun K "is_below" "is_below" s_is_below f_is_below d_is_below
  b_is_below : Binds K d_is_below ["one", "other"] []
  g_is_below : mg "is_below" = some (.ref f_is_below)
  f_least_of : Addr
  d_least_of : FuncData
  F_least_of : Fun K "least_of" "least_of" s_least_of f_least_of d_least_of
  b_least_of : Binds K d_least_of ["some"] []
  g_least_of : mg "least_of" = some (.ref f_least_of)
  f_in_order : Addr
  d_in_order : FuncData
  F_in_order : Fun K "in_order" "in_order" s_in_order f_in_order d_in_order
  b_in_order : Binds K d_in_order ["row"] []
  g_in_order : mg "in_order" = some (.ref f_in_order)
  f_meal_of : Addr
  d_meal_of : FuncData
  F_meal_of : Fun K "meal_of" "meal_of" s_meal_of f_meal_of d_meal_of
  b_meal_of : Binds K d_meal_of ["wishes", "left", "name"] []
  g_meal_of : mg "meal_of" = some (.ref f_meal_of)
  f_eaten_shares : Addr
  d_eaten_shares : FuncData
  F_eaten_shares : Fun K "eaten_shares" "eaten_shares" s_eaten_shares f_eaten_shares d_eaten_shares
  b_eaten_shares : Binds K d_eaten_shares ["wishes", "stock"] []
  g_eaten_shares : mg "eaten_shares" = some (.ref f_eaten_shares)
  f__law_purse : Addr
  d__law_purse : FuncData
  F__law_purse : Fun K "_law_purse" "_law_purse" s__law_purse f__law_purse d__law_purse
  b__law_purse : Binds K d__law_purse ["script", "at"] []
  g__law_purse : mg "_law_purse" = some (.ref f__law_purse)
  f__law_mixed : Addr
  d__law_mixed : FuncData
  F__law_mixed : Fun K "_law_mixed" "_law_mixed" s__law_mixed f__law_mixed d__law_mixed
  b__law_mixed : Binds K d__law_mixed ["seed", "spin", "at"] []
  g__law_mixed : mg "_law_mixed" = some (.ref f__law_mixed)
  f__law_draw : Addr
  d__law_draw : FuncData
  F__law_draw : Fun K "_law_draw" "_law_draw" s__law_draw f__law_draw d__law_draw
  b__law_draw : Binds K d__law_draw ["purse", "many"] []
  g__law_draw : mg "_law_draw" = some (.ref f__law_draw)
  f__law_purses : Addr
  d__law_purses : FuncData
  F__law_purses : Fun K "_law_purses" "_law_purses" s__law_purses f__law_purses d__law_purses
  b__law_purses : Binds K d__law_purses ["script", "few"] []
  g__law_purses : mg "_law_purses" = some (.ref f__law_purses)
  f__law_one_of : Addr
  d__law_one_of : FuncData
  F__law_one_of : Fun K "_law_one_of" "_law_one_of" s__law_one_of f__law_one_of d__law_one_of
  b__law_one_of : Binds K d__law_one_of ["purse", "some"] []
  g__law_one_of : mg "_law_one_of" = some (.ref f__law_one_of)
  f__law_shuffled : Addr
  d__law_shuffled : FuncData
  F__law_shuffled : Fun K "_law_shuffled" "_law_shuffled" s__law_shuffled f__law_shuffled d__law_shuffled
  b__law_shuffled : Binds K d__law_shuffled ["purse", "some"] []
  g__law_shuffled : mg "_law_shuffled" = some (.ref f__law_shuffled)
  f__law_exact : Addr
  d__law_exact : FuncData
  F__law_exact : Fun K "_law_exact" "_law_exact" s__law_exact f__law_exact d__law_exact
  b__law_exact : Binds K d__law_exact ["mine", "theirs"] []
  g__law_exact : mg "_law_exact" = some (.ref f__law_exact)
  f__law_wishes : Addr
  d__law_wishes : FuncData
  F__law_wishes : Fun K "_law_wishes" "_law_wishes" s__law_wishes f__law_wishes d__law_wishes
  b__law_wishes : Binds K d__law_wishes ["purse", "most", "wide"] []
  g__law_wishes : mg "_law_wishes" = some (.ref f__law_wishes)
  f__law_low : Addr
  d__law_low : FuncData
  F__law_low : Fun K "_law_low" "_law_low" s__law_low f__law_low d__law_low
  b__law_low : Binds K d__law_low ["above", "below"] []
  g__law_low : mg "_law_low" = some (.ref f__law_low)
  f__law_add : Addr
  d__law_add : FuncData
  F__law_add : Fun K "_law_add" "_law_add" s__law_add f__law_add d__law_add
  b__law_add : Binds K d__law_add ["one", "other"] []
  g__law_add : mg "_law_add" = some (.ref f__law_add)
  f__law_sub : Addr
  d__law_sub : FuncData
  F__law_sub : Fun K "_law_sub" "_law_sub" s__law_sub f__law_sub d__law_sub
  b__law_sub : Binds K d__law_sub ["one", "other"] []
  g__law_sub : mg "_law_sub" = some (.ref f__law_sub)
  f__law_mul : Addr
  d__law_mul : FuncData
  F__law_mul : Fun K "_law_mul" "_law_mul" s__law_mul f__law_mul d__law_mul
  b__law_mul : Binds K d__law_mul ["one", "other"] []
  g__law_mul : mg "_law_mul" = some (.ref f__law_mul)
  f__law_less : Addr
  d__law_less : FuncData
  F__law_less : Fun K "_law_less" "_law_less" s__law_less f__law_less d__law_less
  b__law_less : Binds K d__law_less ["one", "other"] []
  g__law_less : mg "_law_less" = some (.ref f__law_less)
  f__law_sum : Addr
  d__law_sum : FuncData
  F__law_sum : Fun K "_law_sum" "_law_sum" s__law_sum f__law_sum d__law_sum
  b__law_sum : Binds K d__law_sum ["some"] []
  g__law_sum : mg "_law_sum" = some (.ref f__law_sum)
  f__law_eaten : Addr
  d__law_eaten : FuncData
  F__law_eaten : Fun K "_law_eaten" "_law_eaten" s__law_eaten f__law_eaten d__law_eaten
  b__law_eaten : Binds K d__law_eaten ["wishes", "stock"] []
  g__law_eaten : mg "_law_eaten" = some (.ref f__law_eaten)
  f__law_up_to : Addr
  d__law_up_to : FuncData
  F__law_up_to : Fun K "_law_up_to" "_law_up_to" s__law_up_to f__law_up_to d__law_up_to
  b__law_up_to : Binds K d__law_up_to ["wishes", "name", "share"] []
  g__law_up_to : mg "_law_up_to" = some (.ref f__law_up_to)
  f__law_case_right : Addr
  d__law_case_right : FuncData
  F__law_case_right : Fun K "_law_case_right" "_law_case_right" s__law_case_right f__law_case_right d__law_case_right
  b__law_case_right : Binds K d__law_case_right ["purse"] []
  g__law_case_right : mg "_law_case_right" = some (.ref f__law_case_right)
  f_law : Addr
  d_law : FuncData
  F_law : Fun K "law" "law" s_law f_law d_law
  b_law : Binds K d_law ["script"] []
  g_law : mg "law" = some (.ref f_law)
  n_len : mg "len" = none
  n_isinstance : mg "isinstance" = none
  n_str : mg "str" = none
  n_int : mg "int" = none
  n_bool : mg "bool" = none
  n_list : mg "list" = none
  n_dict : mg "dict" = none
  n_tuple : mg "tuple" = none
  n_set : mg "set" = none
  n_sorted : mg "sorted" = none
  n_abs : mg "abs" = none
  n_sum : mg "sum" = none
  n_max : mg "max" = none
  n_min : mg "min" = none
  n_range : mg "range" = none
  n_zip : mg "zip" = none
  n_all : mg "all" = none
  n_repr : mg "repr" = none
  n_enumerate : mg "enumerate" = none
  t_LOWER : Tok
  c_LOWER : mg "LOWER" = some (Value.str "abcdefghijklmnopqrstuvwxyz" t_LOWER)
end K79


set_option Elab.async false
set_option linter.all false
set_option maxRecDepth 100000
set_option maxHeartbeats 4000000
set_option pp.maxSteps 400
namespace Lk
open PySem L2
theorem itD {c A B : Prop} [Decidable c] (h : c) (a : A) : if decide c = true then A else B := by
  rw [if_pos (decide_eq_true h)]
  exact a
theorem itDn {c A B : Prop} [Decidable c] (h : ¬ c) (b : B) : if decide c = true then A else B := by
  rw [if_neg (by simp [h])]
  exact b
theorem itN {c A B : Prop} [Decidable c] (h : c) (b : B) : if (!decide c) = true then A else B := by
  rw [if_neg (by simp [h])]
  exact b
theorem itNn {c A B : Prop} [Decidable c] (h : ¬ c) (a : A) : if (!decide c) = true then A else B := by
  rw [if_pos (by simp [h])]
  exact a
theorem Same.new {H : Hp} {p : Addr} {o : HO} (h : H p = none) : Same H (upd H p o) := fun b u e => by
  rw [upd_ne (ne_of_none e h)]
  exact e
theorem Same.mut {H H' : Hp} {p : Addr} {o : HO} (e : Same H H') (h : H p = none) : Same H (upd H' p o) := fun a u ha => by
  rw [upd_ne (ne_of_none ha h)]
  exact e a u ha
/-- a new list that stays empty: the comprehension's invariant -/
theorem eqv_nil : PyData.eqv (.list []) (.list []) = true := by decide +kernel
end Lk
namespace K79
open PySem L2 Lk
def NameOk (x : Str) : Prop := 1 ≤ x.length ∧ x.length ≤ 10 ∧ ∀ c ∈ x.cps.toList, c ∈ ("abcdefghijklmnopqrstuvwxyz" : Str).cps.toList
def spIsName : Sp := fun vs H Q _ => ∃ x, vs = [.str x] ∧ NameOk x ∧ ∀ H', Same H H' → Q (.bl true) H'
section
variable {P : Program} {w : World} {K : PySem.W.Frag} {mg : Str → Option Value} {base : Heap}
theorem ok_is_name (T : Th K mg) : FnOk P w K mg base CX0 1 T.f_is_name T.d_is_name ["value"] spIsName := by
  refine T.F_is_name.ok sc_is_name (fun vs H Q E h => ?_) (fun cdv A outer s H vs Q E hr h => ?_)
  · obtain ⟨x, rfl, _⟩ := h
    rfl
  · obtain ⟨x, rfl, ⟨h1, h2, h3⟩, k⟩ := h
    refine ⟨_, (pss_cons (ps_if (PW.pt (pw_or (pt_not (pt_val (pe_callB call_isi (by rfl) T.n_isinstance (by decide +kernel) (pa_cons (pv 0) (pa_cons (pe_bltn (v := .ty "str") (u := .type "str") (by rfl) T.n_str (by decide +kernel) rfl) pa_nil))))) (pw_or1 (pt_not (pt_chain op_le op_le pe_int (pe_callB call_len (by rfl) T.n_len PySem.boot_len (pa_cons (pv 0) pa_nil)) pe_int)))))
        (pss_one (ps_ret pe_bl))
        pss_nil)
      (pss_one (ps_ret (pe_cmpR (op_eqD hr.units) (pe_lc (own := [("sign", 1)]) rfl sc_is_name.nd (pi_str (pv 0)) (blkOk_by (own := [("sign", 1)]) (N := N_is_name) (sc := defScope s_is_name) (by decide +kernel)) (fun _ _ _ _ _ => pg_name (i := 1) sc_is_name.nd rfl (Or.inl rfl)) (fun _ _ _ _ _ => pts_one (pt_cmpR op_notIn_sign (pv 1) (pe_glob (v := .str "abcdefghijklmnopqrstuvwxyz") rfl T.c_LOWER ⟨_, rfl⟩) rfl)) (fun _ _ _ _ _ => pv 1)) (pe_lst pa_nil) (nomark _))))), ?_⟩
    refine ⟨_, rfl, _, _, _, _, true, rfl, .ty _, .base (.str _), kit_ty (by decide +kernel), true, rfl, iteF ?_⟩
    have hsz : x.length ≤ sizeLine := Nat.le_trans h2 (by decide)
    refine ⟨_, rfl, _, x.length, rfl, ⟨hsz, rfl⟩, 1, x.length, rfl, rfl, _, rfl, itD (by omega) ⟨x.length, 10, rfl, rfl, _, rfl, ?_⟩⟩
    rw [decide_eq_true (show (x.length : Int) ≤ 10 by omega)]
    refine iteF ?_
    -- the comprehension
    refine ⟨_, rfl, x, rfl, fun D hD => lc_it walk_str (fun i H' => Same H H' ∧ H' D = some (.lst [])) ⟨Same.new hD, upd_same⟩ (fun _ _ _ _ => trivial) ?_ ?_⟩
    · rintro i v H1 H1' hi ⟨s1, e1⟩ ⟨rfl, c, hc, rfl⟩
      refine ⟨rfl, _, rfl, c, _, rfl, rfl, _, rfl, ?_⟩
      have hm : c ∈ x.cps.toList := by
        rw [← Array.getElem?_toList] at hc
        exact List.mem_of_getElem? hc
      rw [decide_eq_true (h3 c hm)]
      exact iteF ⟨s1, e1⟩
    · rintro H1 ⟨s1, e1⟩
      refine ⟨by decide, fun p hp => ⟨.list [], .list [], .lst (SqL.of (by rw [upd_ne (ne_of_none e1 hp)]; exact e1)) .nil, .lst (SqL.of upd_same) .nil, rfl, rfl, ?_⟩⟩
      rw [eqv_nil]
      exact k _ (s1.trans (Same.new hp))
end
end K79


set_option Elab.async false
set_option linter.all false
set_option maxRecDepth 100000
set_option maxHeartbeats 4000000
set_option pp.maxSteps 600
set_option exponentiation.threshold 9000
namespace Lk
open PySem L2
/-- what stands where a fraction stands -/
abbrev frO (q : Rat) : HO := .tup [.int q.num, .int (q.den : Int)]
/-- a fraction of size below 2 ^ n on both sides -/
def Sz (n : Nat) (q : Rat) : Prop := q.num.natAbs < 2 ^ n ∧ q.den < 2 ^ n
def Fr (K : PySem.W.Frag) (H : Hp) (v : V) (q : Rat) : Prop := ∃ p, v = .ref p ∧ SqT K H p [.int q.num, .int (q.den : Int)]
theorem SqT.same {K : PySem.W.Frag} {H H' : Hp} {a : Addr} {xs : List V} (e : Same H H') (h : SqT K H a xs) : SqT K H' a xs := by
  rcases h with (h | ⟨o, h⟩) | h
  · exact .inl (.inl (e _ _ h))
  · exact .inl (.inr ⟨o, e _ _ h⟩)
  · exact .inr h
theorem Fr.same {K : PySem.W.Frag} {H H' : Hp} {v : V} {q : Rat} (e : Same H H') (h : Fr K H v q) : Fr K H' v q := by
  obtain ⟨p, rfl, h⟩ := h
  exact ⟨p, rfl, SqT.same e h⟩
theorem Fr.of {K : PySem.W.Frag} {H : Hp} {p : Addr} {q : Rat} (h : H p = some (frO q)) : Fr K H (.ref p) q := ⟨p, rfl, SqT.of h⟩
/-- a new tuple of a fraction is handed back -/
def RetF (q : Rat) (H : Hp) (Q : VK) : Prop := ∀ H' p, Same H H' → H p = none → H' p = some (frO q) → Q (.ref p) H'
/-- while: W by its measure -/
theorem while_m {c : TT} {tb : TS} {D : Ends} {σ : L2.St} {H : Hp} (W : Nat → L2.St → Hp → Prop) (m0 : Nat) (h0 : W m0 σ H)
    (hs : ∀ m σ H, W m σ H → c σ H fun b H1 => if b = true then ∃ N : L2.St → Hp → Prop, (∀ σ' H', N σ' H' → ∃ m', m' < m ∧ W m' σ' H') ∧ tb { D with nx := N, ct := N, bk := D.nx } σ H1 else D.nx σ H1) : tWhile c tb D σ H := ⟨W, ⟨m0, h0⟩, hs⟩
theorem abs_nat (a : Int) : (if a < 0 then -a else a) = (a.natAbs : Int) := by split <;> omega
theorem mk_num {a : Int} {b : Nat} (hb : 0 < b) : (mkRat a b).num = a / ((a.natAbs.gcd b : Nat) : Int) := by
  rw [Rat.num_mkRat, if_neg (by omega), Nat.gcd_comm]
theorem mk_den {a : Int} {b : Nat} (hb : 0 < b) : ((mkRat a b).den : Int) = (b : Int) / ((a.natAbs.gcd b : Nat) : Int) := by
  rw [Rat.den_mkRat, if_neg (by omega), Nat.gcd_comm, Int.natCast_ediv]
theorem Rat.add_mk (x y : Rat) : x + y = mkRat (x.num * y.den + y.num * x.den) (x.den * y.den) := by
  rw [Rat.add_def, Rat.normalize_eq_mkRat]
theorem Rat.sub_mk (x y : Rat) : x - y = mkRat (x.num * y.den - y.num * x.den) (x.den * y.den) := by
  rw [Rat.sub_def, Rat.normalize_eq_mkRat]
theorem Rat.mul_mk (x y : Rat) : x * y = mkRat (x.num * y.num) (x.den * y.den) := by
  rw [Rat.mul_def, Rat.normalize_eq_mkRat]
theorem Sz.mono {n m : Nat} {q : Rat} (h : Sz n q) (e : n ≤ m) : Sz m q :=
  ⟨Nat.lt_of_lt_of_le h.1 (Nat.pow_le_pow_right (by decide) e), Nat.lt_of_lt_of_le h.2 (Nat.pow_le_pow_right (by decide) e)⟩
theorem Sz.mul1 {n : Nat} {i j : Int} (hn : n ≤ 64) (h : i.natAbs < 2 ^ n) : CMul i j := by
  have h1 : i.natAbs < 2 ^ 64 := Nat.lt_of_lt_of_le h (Nat.pow_le_pow_right (by decide) hn)
  left
  constructor <;> omega
def spTerms : Sp := fun vs H Q _ => ∃ a b : Int, vs = [.int a, .int b] ∧ 0 < b ∧ b.natAbs < 2 ^ 8000 ∧ RetF (mkRat a b.toNat) H Q
def sp2 (K : PySem.W.Frag) (f : Rat → Rat → Rat) : Sp := fun vs H Q _ => ∃ v u x y, vs = [v, u] ∧ Fr K H v x ∧ Fr K H u y ∧ Sz 64 x ∧ Sz 64 y ∧ RetF (f x y) H Q
def spLess (K : PySem.W.Frag) : Sp := fun vs H Q _ => ∃ v u x y, vs = [v, u] ∧ Fr K H v x ∧ Fr K H u y ∧ Sz 64 x ∧ Sz 64 y ∧ ∀ H', Same H H' → Q (.bl (decide (x < y))) H'
theorem less_iff (x y : Rat) : decide (x.num * (y.den : Int) < y.num * (x.den : Int)) = decide (x < y) := decide_eq_decide.mpr (Rat.lt_iff x y).symm
theorem two_le : 2 ≤ sizeLine := by decide
theorem at0 {a b : V} : atI [a, b] 0 = some a := rfl
theorem at1 {a b : V} : atI [a, b] 1 = some b := rfl
end Lk
namespace K79
open PySem L2 Lk
section
variable {P : Program} {w : World} {K : PySem.W.Frag} {mg : Str → Option Value} {base : Heap}
theorem ok_least_terms (T : Th K mg) : FnOk P w K mg base CX0 1 T.f_least_terms T.d_least_terms ["above", "below"] spTerms := by
  refine T.F_least_terms.ok sc_least_terms (fun vs H Q E h => ?_) (fun cdv A outer s H vs Q E hr h => ?_)
  · obtain ⟨a, b, rfl, _⟩ := h
    rfl
  · obtain ⟨a, b, rfl, hb, hb2, k⟩ := h
    obtain ⟨b, rfl⟩ := Int.eq_ofNat_of_zero_le (Int.le_of_lt hb)
    have hb' : 0 < b := by omega
    refine ⟨_, (pss_cons (ps_par (i := 2) (j := 3) (by rfl) sc_least_terms.nd rfl rfl (by decide) rfl rfl (pa_cons (pe_callB call_abs (by rfl) T.n_abs (by decide +kernel) (pa_cons (pv 0) pa_nil)) (pa_cons (pv 1) pa_nil)) (by rfl))
      (pss_cons (ps_while PassesOwn.never (pt_cmpR op_gt (pv 3) pe_int (nomark _))
        (pss_one (ps_par (i := 2) (j := 3) (by rfl) sc_least_terms.nd rfl rfl (by decide) rfl rfl (pa_cons (pv 3) (pa_cons (pe_op op_modN (pv 2) (pv 3)) pa_nil)) (by rfl))))
      (pss_one (ps_ret (pe_tup (pa_cons (pe_op op_fdivW (pv 0) (pv 2)) (pa_cons (pe_op op_fdivW (pv 1) (pv 2)) pa_nil))))))), ?_⟩
    refine ⟨_, rfl, _, rfl, _, rfl, _, _, rfl, ?_⟩
    refine while_m (fun m σ H' => ∃ x y : Nat, σ = [some (.int a), some (.int b), some (.int x), some (.int y)] ∧ H' = H ∧ m = y ∧ x.gcd y = a.natAbs.gcd b ∧ (0 < x ∨ 0 < y)) b
      ⟨a.natAbs, b, by rw [abs_nat] <;> rfl, rfl, rfl, rfl, .inr hb'⟩ ?_
    rintro m σ H' ⟨x, y, rfl, rfl, e, hg, hp⟩
    refine ⟨_, rfl, _, _, rfl, rfl, _, rfl, ?_⟩
    by_cases hy : (0 : Int) < y
    · refine itD hy ⟨_, fun _ _ h => h, ?_⟩
      refine ⟨_, rfl, _, rfl, _, rfl, _, _, rfl, rfl, by omega, _, _, rfl, x % y, by rw [e]; exact Nat.mod_lt _ (by omega), y, x % y, ?_, rfl, rfl, ?_, .inl (by omega)⟩
      · show [some (V.int a), some (V.int (b : Int)), some (V.int (y : Int)), some (V.int ((x : Int).fmod (y : Int)))] = _
        rw [Int.fmod_eq_emod_of_nonneg _ (Int.natCast_nonneg y), ← Int.natCast_emod]
      · rw [← hg, Nat.gcd_comm y, ← Nat.gcd_rec, Nat.gcd_comm]
    · refine itDn hy ?_
      have hy0 : y = 0 := by omega
      subst hy0
      rw [Nat.gcd_zero_right] at hg
      subst hg
      have hx : 0 < a.natAbs.gcd b := Nat.gcd_pos_of_pos_right _ hb'
      have hd : CDivW 0 ((a.natAbs.gcd b : Nat) : Int) := wide_div (b := 8000) (by omega) (Nat.lt_of_le_of_lt (by simpa using Nat.gcd_le_right _ hb') (by simpa using hb2)) (by decide) (by decide)
      refine ⟨_, rfl, _, rfl, _, _, rfl, rfl, hd, _, rfl, _, rfl, _, _, rfl, rfl, hd, two_le, fun p hp => ?_⟩
      refine k _ p (Same.new hp) hp ?_
      rw [upd_same]
      show some (HO.tup [.int (a / _), .int ((b : Int) / _)]) = some (frO (mkRat a b))
      rw [frO, mk_num hb', mk_den hb']
theorem ok_plus (T : Th K mg) : FnOk P w K mg base CX0 2 T.f_plus T.d_plus ["one", "other"] (sp2 K (· + ·)) := by
  have G_least_terms : FnOk P w K mg base CX0 1 T.f_least_terms T.d_least_terms ["above", "below"] spTerms := ok_least_terms T
  refine T.F_plus.ok sc_plus (fun vs H Q E h => ?_) (fun cdv A outer s H vs Q E hr h => ?_)
  · obtain ⟨v, u, x, y, rfl, _⟩ := h
    rfl
  · obtain ⟨v, u, x, y, rfl, ⟨p, rfl, hp⟩, ⟨q, rfl, hq⟩, ⟨b1, b2⟩, ⟨b3, b4⟩, k⟩ := h
    refine ⟨_, (pss_one (ps_ret (pe_call G_least_terms (hr.mono (by decide)) rfl T.g_least_terms T.F_least_terms.kp T.b_least_terms .nil pass0 (pa_cons (pe_op op_add (pe_op op_mul (pe_ix ix_tup (pv 0) pe_int (fun _ _ => rfl)) (pe_ix ix_tup (pv 1) pe_int (fun _ _ => rfl))) (pe_op op_mul (pe_ix ix_tup (pv 1) pe_int (fun _ _ => rfl)) (pe_ix ix_tup (pv 0) pe_int (fun _ _ => rfl)))) (pa_cons (pe_op op_mul (pe_ix ix_tup (pv 0) pe_int (fun _ _ => rfl)) (pe_ix ix_tup (pv 1) pe_int (fun _ _ => rfl))) pa_nil))))), ?_⟩
    refine ⟨_, rfl, p, _, _, _, rfl, rfl, hp, at0, _, rfl, q, _, _, _, rfl, rfl, hq, at1, _, _, rfl, rfl, Sz.mul1 (Nat.le_refl _) b1, _, rfl, q, _, _, _, rfl, rfl, hq, at0, _, rfl, p, _, _, _, rfl, rfl, hp, at1, _, _, rfl, rfl, Sz.mul1 (Nat.le_refl _) b3, _, _, rfl, rfl, ?_⟩
    refine ⟨_, rfl, p, _, _, _, rfl, rfl, hp, at1, _, rfl, q, _, _, _, rfl, rfl, hq, at1, _, _, rfl, rfl, Sz.mul1 (Nat.le_refl _) (by simpa using b2), _, _, rfl, ?_, ?_, ?_⟩
    · have := x.den_pos
      have := y.den_pos
      exact Int.mul_pos (by omega) (by omega)
    · have := wide_lt (i := (x.den : Int)) (j := (y.den : Int)) (a := 64) (b := 64) (by simpa using b2) (by simpa using b4)
      exact Nat.lt_of_lt_of_le this (Nat.pow_le_pow_right (by decide) (by decide))
    · have e : ((x.den : Int) * (y.den : Int)).toNat = x.den * y.den := by rw [← Int.natCast_mul]; rfl
      rw [e, ← Rat.add_mk]
      exact k
theorem ok_minus (T : Th K mg) : FnOk P w K mg base CX0 2 T.f_minus T.d_minus ["one", "other"] (sp2 K (· - ·)) := by
  have G_least_terms : FnOk P w K mg base CX0 1 T.f_least_terms T.d_least_terms ["above", "below"] spTerms := ok_least_terms T
  refine T.F_minus.ok sc_minus (fun vs H Q E h => ?_) (fun cdv A outer s H vs Q E hr h => ?_)
  · obtain ⟨v, u, x, y, rfl, _⟩ := h
    rfl
  · obtain ⟨v, u, x, y, rfl, ⟨p, rfl, hp⟩, ⟨q, rfl, hq⟩, ⟨b1, b2⟩, ⟨b3, b4⟩, k⟩ := h
    refine ⟨_, (pss_one (ps_ret (pe_call G_least_terms (hr.mono (by decide)) rfl T.g_least_terms T.F_least_terms.kp T.b_least_terms .nil pass0 (pa_cons (pe_op op_sub (pe_op op_mul (pe_ix ix_tup (pv 0) pe_int (fun _ _ => rfl)) (pe_ix ix_tup (pv 1) pe_int (fun _ _ => rfl))) (pe_op op_mul (pe_ix ix_tup (pv 1) pe_int (fun _ _ => rfl)) (pe_ix ix_tup (pv 0) pe_int (fun _ _ => rfl)))) (pa_cons (pe_op op_mul (pe_ix ix_tup (pv 0) pe_int (fun _ _ => rfl)) (pe_ix ix_tup (pv 1) pe_int (fun _ _ => rfl))) pa_nil))))), ?_⟩
    refine ⟨_, rfl, p, _, _, _, rfl, rfl, hp, at0, _, rfl, q, _, _, _, rfl, rfl, hq, at1, _, _, rfl, rfl, Sz.mul1 (Nat.le_refl _) b1, _, rfl, q, _, _, _, rfl, rfl, hq, at0, _, rfl, p, _, _, _, rfl, rfl, hp, at1, _, _, rfl, rfl, Sz.mul1 (Nat.le_refl _) b3, _, _, rfl, rfl, ?_⟩
    refine ⟨_, rfl, p, _, _, _, rfl, rfl, hp, at1, _, rfl, q, _, _, _, rfl, rfl, hq, at1, _, _, rfl, rfl, Sz.mul1 (Nat.le_refl _) (by simpa using b2), _, _, rfl, ?_, ?_, ?_⟩
    · have := x.den_pos
      have := y.den_pos
      exact Int.mul_pos (by omega) (by omega)
    · have := wide_lt (i := (x.den : Int)) (j := (y.den : Int)) (a := 64) (b := 64) (by simpa using b2) (by simpa using b4)
      exact Nat.lt_of_lt_of_le this (Nat.pow_le_pow_right (by decide) (by decide))
    · have e : ((x.den : Int) * (y.den : Int)).toNat = x.den * y.den := by rw [← Int.natCast_mul]; rfl
      rw [e, ← Rat.sub_mk]
      exact k
theorem ok_times (T : Th K mg) : FnOk P w K mg base CX0 2 T.f_times T.d_times ["one", "other"] (sp2 K (· * ·)) := by
  have G_least_terms : FnOk P w K mg base CX0 1 T.f_least_terms T.d_least_terms ["above", "below"] spTerms := ok_least_terms T
  refine T.F_times.ok sc_times (fun vs H Q E h => ?_) (fun cdv A outer s H vs Q E hr h => ?_)
  · obtain ⟨v, u, x, y, rfl, _⟩ := h
    rfl
  · obtain ⟨v, u, x, y, rfl, ⟨p, rfl, hp⟩, ⟨q, rfl, hq⟩, ⟨b1, b2⟩, ⟨b3, b4⟩, k⟩ := h
    refine ⟨_, (pss_one (ps_ret (pe_call G_least_terms (hr.mono (by decide)) rfl T.g_least_terms T.F_least_terms.kp T.b_least_terms .nil pass0 (pa_cons (pe_op op_mul (pe_ix ix_tup (pv 0) pe_int (fun _ _ => rfl)) (pe_ix ix_tup (pv 1) pe_int (fun _ _ => rfl))) (pa_cons (pe_op op_mul (pe_ix ix_tup (pv 0) pe_int (fun _ _ => rfl)) (pe_ix ix_tup (pv 1) pe_int (fun _ _ => rfl))) pa_nil))))), ?_⟩
    refine ⟨_, rfl, p, _, _, _, rfl, rfl, hp, at0, _, rfl, q, _, _, _, rfl, rfl, hq, at0, _, _, rfl, rfl, Sz.mul1 (Nat.le_refl _) b1, ?_⟩
    refine ⟨_, rfl, p, _, _, _, rfl, rfl, hp, at1, _, rfl, q, _, _, _, rfl, rfl, hq, at1, _, _, rfl, rfl, Sz.mul1 (Nat.le_refl _) (by simpa using b2), _, _, rfl, ?_, ?_, ?_⟩
    · have := x.den_pos
      have := y.den_pos
      exact Int.mul_pos (by omega) (by omega)
    · have := wide_lt (i := (x.den : Int)) (j := (y.den : Int)) (a := 64) (b := 64) (by simpa using b2) (by simpa using b4)
      exact Nat.lt_of_lt_of_le this (Nat.pow_le_pow_right (by decide) (by decide))
    · have e : ((x.den : Int) * (y.den : Int)).toNat = x.den * y.den := by rw [← Int.natCast_mul]; rfl
      rw [e, ← Rat.mul_mk]
      exact k
theorem ok_is_below (T : Th K mg) : FnOk P w K mg base CX0 1 T.f_is_below T.d_is_below ["one", "other"] (spLess K) := by
  refine T.F_is_below.ok sc_is_below (fun vs H Q E h => ?_) (fun cdv A outer s H vs Q E hr h => ?_)
  · obtain ⟨v, u, x, y, rfl, _⟩ := h
    rfl
  · obtain ⟨v, u, x, y, rfl, ⟨p, rfl, hp⟩, ⟨q, rfl, hq⟩, ⟨b1, b2⟩, ⟨b3, b4⟩, k⟩ := h
    refine ⟨_, (pss_one (ps_ret (pe_cmpR op_lt (pe_op op_mul (pe_ix ix_tup (pv 0) pe_int (fun _ _ => rfl)) (pe_ix ix_tup (pv 1) pe_int (fun _ _ => rfl))) (pe_op op_mul (pe_ix ix_tup (pv 1) pe_int (fun _ _ => rfl)) (pe_ix ix_tup (pv 0) pe_int (fun _ _ => rfl))) (nomark _)))), ?_⟩
    refine ⟨_, rfl, p, _, _, _, rfl, rfl, hp, at0, _, rfl, q, _, _, _, rfl, rfl, hq, at1, _, _, rfl, rfl, Sz.mul1 (Nat.le_refl _) b1, ?_⟩
    refine ⟨_, rfl, q, _, _, _, rfl, rfl, hq, at0, _, rfl, p, _, _, _, rfl, rfl, hp, at1, _, _, rfl, rfl, Sz.mul1 (Nat.le_refl _) b3, _, _, rfl, rfl, ?_⟩
    show Q (.bl (decide (x.num * (y.den : Int) < y.num * (x.den : Int)))) H
    rw [less_iff]
    exact k H (Same.refl H)
theorem ok__law_low (T : Th K mg) : FnOk P w K mg base CX0 1 T.f__law_low T.d__law_low ["above", "below"] spTerms := by
  refine T.F__law_low.ok sc__law_low (fun vs H Q E h => ?_) (fun cdv A outer s H vs Q E hr h => ?_)
  · obtain ⟨a, b, rfl, _⟩ := h
    rfl
  · obtain ⟨a, b, rfl, hb, hb2, k⟩ := h
    obtain ⟨b, rfl⟩ := Int.eq_ofNat_of_zero_le (Int.le_of_lt hb)
    have hb' : 0 < b := by omega
    refine ⟨_, (pss_cons (ps_par (i := 2) (j := 3) (by rfl) sc__law_low.nd rfl rfl (by decide) rfl rfl (pa_cons (pe_callB call_abs (by rfl) T.n_abs (by decide +kernel) (pa_cons (pv 0) pa_nil)) (pa_cons (pv 1) pa_nil)) (by rfl))
      (pss_cons (ps_while PassesOwn.never (pt_cmpR op_gt (pv 3) pe_int (nomark _))
        (pss_one (ps_par (i := 2) (j := 3) (by rfl) sc__law_low.nd rfl rfl (by decide) rfl rfl (pa_cons (pv 3) (pa_cons (pe_op op_modN (pv 2) (pv 3)) pa_nil)) (by rfl))))
      (pss_one (ps_ret (pe_tup (pa_cons (pe_op op_fdivW (pv 0) (pv 2)) (pa_cons (pe_op op_fdivW (pv 1) (pv 2)) pa_nil))))))), ?_⟩
    refine ⟨_, rfl, _, rfl, _, rfl, _, _, rfl, ?_⟩
    refine while_m (fun m σ H' => ∃ x y : Nat, σ = [some (.int a), some (.int b), some (.int x), some (.int y)] ∧ H' = H ∧ m = y ∧ x.gcd y = a.natAbs.gcd b ∧ (0 < x ∨ 0 < y)) b
      ⟨a.natAbs, b, by rw [abs_nat] <;> rfl, rfl, rfl, rfl, .inr hb'⟩ ?_
    rintro m σ H' ⟨x, y, rfl, rfl, e, hg, hp⟩
    refine ⟨_, rfl, _, _, rfl, rfl, _, rfl, ?_⟩
    by_cases hy : (0 : Int) < y
    · refine itD hy ⟨_, fun _ _ h => h, ?_⟩
      refine ⟨_, rfl, _, rfl, _, rfl, _, _, rfl, rfl, by omega, _, _, rfl, x % y, by rw [e]; exact Nat.mod_lt _ (by omega), y, x % y, ?_, rfl, rfl, ?_, .inl (by omega)⟩
      · show [some (V.int a), some (V.int (b : Int)), some (V.int (y : Int)), some (V.int ((x : Int).fmod (y : Int)))] = _
        rw [Int.fmod_eq_emod_of_nonneg _ (Int.natCast_nonneg y), ← Int.natCast_emod]
      · rw [← hg, Nat.gcd_comm y, ← Nat.gcd_rec, Nat.gcd_comm]
    · refine itDn hy ?_
      have hy0 : y = 0 := by omega
      subst hy0
      rw [Nat.gcd_zero_right] at hg
      subst hg
      have hx : 0 < a.natAbs.gcd b := Nat.gcd_pos_of_pos_right _ hb'
      have hd : CDivW 0 ((a.natAbs.gcd b : Nat) : Int) := wide_div (b := 8000) (by omega) (Nat.lt_of_le_of_lt (by simpa using Nat.gcd_le_right _ hb') (by simpa using hb2)) (by decide) (by decide)
      refine ⟨_, rfl, _, rfl, _, _, rfl, rfl, hd, _, rfl, _, rfl, _, _, rfl, rfl, hd, two_le, fun p hp => ?_⟩
      refine k _ p (Same.new hp) hp ?_
      rw [upd_same]
      show some (HO.tup [.int (a / _), .int ((b : Int) / _)]) = some (frO (mkRat a b))
      rw [frO, mk_num hb', mk_den hb']
theorem ok__law_add (T : Th K mg) : FnOk P w K mg base CX0 2 T.f__law_add T.d__law_add ["one", "other"] (sp2 K (· + ·)) := by
  have G__law_low : FnOk P w K mg base CX0 1 T.f__law_low T.d__law_low ["above", "below"] spTerms := ok__law_low T
  refine T.F__law_add.ok sc__law_add (fun vs H Q E h => ?_) (fun cdv A outer s H vs Q E hr h => ?_)
  · obtain ⟨v, u, x, y, rfl, _⟩ := h
    rfl
  · obtain ⟨v, u, x, y, rfl, ⟨p, rfl, hp⟩, ⟨q, rfl, hq⟩, ⟨b1, b2⟩, ⟨b3, b4⟩, k⟩ := h
    refine ⟨_, (pss_one (ps_ret (pe_call G__law_low (hr.mono (by decide)) rfl T.g__law_low T.F__law_low.kp T.b__law_low .nil pass0 (pa_cons (pe_op op_add (pe_op op_mul (pe_ix ix_tup (pv 0) pe_int (fun _ _ => rfl)) (pe_ix ix_tup (pv 1) pe_int (fun _ _ => rfl))) (pe_op op_mul (pe_ix ix_tup (pv 1) pe_int (fun _ _ => rfl)) (pe_ix ix_tup (pv 0) pe_int (fun _ _ => rfl)))) (pa_cons (pe_op op_mul (pe_ix ix_tup (pv 0) pe_int (fun _ _ => rfl)) (pe_ix ix_tup (pv 1) pe_int (fun _ _ => rfl))) pa_nil))))), ?_⟩
    refine ⟨_, rfl, p, _, _, _, rfl, rfl, hp, at0, _, rfl, q, _, _, _, rfl, rfl, hq, at1, _, _, rfl, rfl, Sz.mul1 (Nat.le_refl _) b1, _, rfl, q, _, _, _, rfl, rfl, hq, at0, _, rfl, p, _, _, _, rfl, rfl, hp, at1, _, _, rfl, rfl, Sz.mul1 (Nat.le_refl _) b3, _, _, rfl, rfl, ?_⟩
    refine ⟨_, rfl, p, _, _, _, rfl, rfl, hp, at1, _, rfl, q, _, _, _, rfl, rfl, hq, at1, _, _, rfl, rfl, Sz.mul1 (Nat.le_refl _) (by simpa using b2), _, _, rfl, ?_, ?_, ?_⟩
    · have := x.den_pos
      have := y.den_pos
      exact Int.mul_pos (by omega) (by omega)
    · have := wide_lt (i := (x.den : Int)) (j := (y.den : Int)) (a := 64) (b := 64) (by simpa using b2) (by simpa using b4)
      exact Nat.lt_of_lt_of_le this (Nat.pow_le_pow_right (by decide) (by decide))
    · have e : ((x.den : Int) * (y.den : Int)).toNat = x.den * y.den := by rw [← Int.natCast_mul]; rfl
      rw [e, ← Rat.add_mk]
      exact k
theorem ok__law_sub (T : Th K mg) : FnOk P w K mg base CX0 2 T.f__law_sub T.d__law_sub ["one", "other"] (sp2 K (· - ·)) := by
  have G__law_low : FnOk P w K mg base CX0 1 T.f__law_low T.d__law_low ["above", "below"] spTerms := ok__law_low T
  refine T.F__law_sub.ok sc__law_sub (fun vs H Q E h => ?_) (fun cdv A outer s H vs Q E hr h => ?_)
  · obtain ⟨v, u, x, y, rfl, _⟩ := h
    rfl
  · obtain ⟨v, u, x, y, rfl, ⟨p, rfl, hp⟩, ⟨q, rfl, hq⟩, ⟨b1, b2⟩, ⟨b3, b4⟩, k⟩ := h
    refine ⟨_, (pss_one (ps_ret (pe_call G__law_low (hr.mono (by decide)) rfl T.g__law_low T.F__law_low.kp T.b__law_low .nil pass0 (pa_cons (pe_op op_sub (pe_op op_mul (pe_ix ix_tup (pv 0) pe_int (fun _ _ => rfl)) (pe_ix ix_tup (pv 1) pe_int (fun _ _ => rfl))) (pe_op op_mul (pe_ix ix_tup (pv 1) pe_int (fun _ _ => rfl)) (pe_ix ix_tup (pv 0) pe_int (fun _ _ => rfl)))) (pa_cons (pe_op op_mul (pe_ix ix_tup (pv 0) pe_int (fun _ _ => rfl)) (pe_ix ix_tup (pv 1) pe_int (fun _ _ => rfl))) pa_nil))))), ?_⟩
    refine ⟨_, rfl, p, _, _, _, rfl, rfl, hp, at0, _, rfl, q, _, _, _, rfl, rfl, hq, at1, _, _, rfl, rfl, Sz.mul1 (Nat.le_refl _) b1, _, rfl, q, _, _, _, rfl, rfl, hq, at0, _, rfl, p, _, _, _, rfl, rfl, hp, at1, _, _, rfl, rfl, Sz.mul1 (Nat.le_refl _) b3, _, _, rfl, rfl, ?_⟩
    refine ⟨_, rfl, p, _, _, _, rfl, rfl, hp, at1, _, rfl, q, _, _, _, rfl, rfl, hq, at1, _, _, rfl, rfl, Sz.mul1 (Nat.le_refl _) (by simpa using b2), _, _, rfl, ?_, ?_, ?_⟩
    · have := x.den_pos
      have := y.den_pos
      exact Int.mul_pos (by omega) (by omega)
    · have := wide_lt (i := (x.den : Int)) (j := (y.den : Int)) (a := 64) (b := 64) (by simpa using b2) (by simpa using b4)
      exact Nat.lt_of_lt_of_le this (Nat.pow_le_pow_right (by decide) (by decide))
    · have e : ((x.den : Int) * (y.den : Int)).toNat = x.den * y.den := by rw [← Int.natCast_mul]; rfl
      rw [e, ← Rat.sub_mk]
      exact k
theorem ok__law_mul (T : Th K mg) : FnOk P w K mg base CX0 2 T.f__law_mul T.d__law_mul ["one", "other"] (sp2 K (· * ·)) := by
  have G__law_low : FnOk P w K mg base CX0 1 T.f__law_low T.d__law_low ["above", "below"] spTerms := ok__law_low T
  refine T.F__law_mul.ok sc__law_mul (fun vs H Q E h => ?_) (fun cdv A outer s H vs Q E hr h => ?_)
  · obtain ⟨v, u, x, y, rfl, _⟩ := h
    rfl
  · obtain ⟨v, u, x, y, rfl, ⟨p, rfl, hp⟩, ⟨q, rfl, hq⟩, ⟨b1, b2⟩, ⟨b3, b4⟩, k⟩ := h
    refine ⟨_, (pss_one (ps_ret (pe_call G__law_low (hr.mono (by decide)) rfl T.g__law_low T.F__law_low.kp T.b__law_low .nil pass0 (pa_cons (pe_op op_mul (pe_ix ix_tup (pv 0) pe_int (fun _ _ => rfl)) (pe_ix ix_tup (pv 1) pe_int (fun _ _ => rfl))) (pa_cons (pe_op op_mul (pe_ix ix_tup (pv 0) pe_int (fun _ _ => rfl)) (pe_ix ix_tup (pv 1) pe_int (fun _ _ => rfl))) pa_nil))))), ?_⟩
    refine ⟨_, rfl, p, _, _, _, rfl, rfl, hp, at0, _, rfl, q, _, _, _, rfl, rfl, hq, at0, _, _, rfl, rfl, Sz.mul1 (Nat.le_refl _) b1, ?_⟩
    refine ⟨_, rfl, p, _, _, _, rfl, rfl, hp, at1, _, rfl, q, _, _, _, rfl, rfl, hq, at1, _, _, rfl, rfl, Sz.mul1 (Nat.le_refl _) (by simpa using b2), _, _, rfl, ?_, ?_, ?_⟩
    · have := x.den_pos
      have := y.den_pos
      exact Int.mul_pos (by omega) (by omega)
    · have := wide_lt (i := (x.den : Int)) (j := (y.den : Int)) (a := 64) (b := 64) (by simpa using b2) (by simpa using b4)
      exact Nat.lt_of_lt_of_le this (Nat.pow_le_pow_right (by decide) (by decide))
    · have e : ((x.den : Int) * (y.den : Int)).toNat = x.den * y.den := by rw [← Int.natCast_mul]; rfl
      rw [e, ← Rat.mul_mk]
      exact k
theorem ok__law_less (T : Th K mg) : FnOk P w K mg base CX0 1 T.f__law_less T.d__law_less ["one", "other"] (spLess K) := by
  refine T.F__law_less.ok sc__law_less (fun vs H Q E h => ?_) (fun cdv A outer s H vs Q E hr h => ?_)
  · obtain ⟨v, u, x, y, rfl, _⟩ := h
    rfl
  · obtain ⟨v, u, x, y, rfl, ⟨p, rfl, hp⟩, ⟨q, rfl, hq⟩, ⟨b1, b2⟩, ⟨b3, b4⟩, k⟩ := h
    refine ⟨_, (pss_one (ps_ret (pe_cmpR op_lt (pe_op op_mul (pe_ix ix_tup (pv 0) pe_int (fun _ _ => rfl)) (pe_ix ix_tup (pv 1) pe_int (fun _ _ => rfl))) (pe_op op_mul (pe_ix ix_tup (pv 1) pe_int (fun _ _ => rfl)) (pe_ix ix_tup (pv 0) pe_int (fun _ _ => rfl))) (nomark _)))), ?_⟩
    refine ⟨_, rfl, p, _, _, _, rfl, rfl, hp, at0, _, rfl, q, _, _, _, rfl, rfl, hq, at1, _, _, rfl, rfl, Sz.mul1 (Nat.le_refl _) b1, ?_⟩
    refine ⟨_, rfl, q, _, _, _, rfl, rfl, hq, at0, _, rfl, p, _, _, _, rfl, rfl, hp, at1, _, _, rfl, rfl, Sz.mul1 (Nat.le_refl _) b3, _, _, rfl, rfl, ?_⟩
    show Q (.bl (decide (x.num * (y.den : Int) < y.num * (x.den : Int)))) H
    rw [less_iff]
    exact k H (Same.refl H)
end
end K79


set_option Elab.async false
set_option linter.all false
set_option maxRecDepth 100000
set_option maxHeartbeats 4000000
set_option pp.maxSteps 600
namespace Lk
open PySem L2
theorem tyx_sql {K : PySem.W.Frag} {H : Hp} {a : Addr} {xs : List V} (h : SqL K H a xs) : TyX K H (.ref a) (.type "list") := by
  rcases h with (h | ⟨o, h⟩) | ⟨o, its, n, h, c, _⟩
  · exact .base (.lst h)
  · exact .base (.frz h)
  · exact .kList h c
theorem SqL.same {K : PySem.W.Frag} {H H' : Hp} {a : Addr} {xs : List V} (e : Same H H') (h : SqL K H a xs) : SqL K H' a xs := e.seq h
/-- the pairs of a dict from texts to numbers -/
abbrev numK (S : List (Str × Int)) : List (Key × V) := S.map fun q => (Sum.inr q.1, V.int q.2)
/-- a stock, frozen -/
def Stk (H : Hp) (d : Addr) (S : List (Str × Int)) : Prop := ∃ o, H d = some (.frz o (.dK (numK S)))
/-- .. of a dict from texts to things at addresses -/
abbrev refK {α : Type} (W : List (Str × Addr × α)) : List (Key × V) := W.map fun q => (Sum.inr q.1, V.ref q.2.1)
/-- wishes, frozen; their lists are read -/
def Wis (K : PySem.W.Frag) (H : Hp) (d : Addr) (W : List (Str × Addr × List Str)) : Prop := (∃ o, H d = some (.frz o (.dK (refK W)))) ∧ ∀ q ∈ W, SqL K H q.2.1 (q.2.2.map V.str)
theorem Stk.same {H H' : Hp} {d : Addr} {S : List (Str × Int)} (e : Same H H') (h : Stk H d S) : Stk H' d S := by
  obtain ⟨o, h⟩ := h
  exact ⟨o, e _ _ h⟩
theorem Wis.same {K : PySem.W.Frag} {H H' : Hp} {d : Addr} {W : List (Str × Addr × List Str)} (e : Same H H') (h : Wis K H d W) : Wis K H' d W := by
  obtain ⟨⟨o, h⟩, k⟩ := h
  exact ⟨⟨o, e _ _ h⟩, fun q hq => e.seq (k q hq)⟩
theorem valV_map {α : Type} (f : α → V) : ∀ {S : List (Str × α)} {x : Str} {v : α}, (S.map (·.1)).Nodup → (x, v) ∈ S → valV (S.map fun q => ((Sum.inr q.1 : Key), f q.2)) (Sum.inr x) = some (f v)
  | [], x, v, _, h => nomatch h
  | (y, u) :: S, x, v, hn, h => by
    have hn : (y :: S.map (·.1)).Nodup := hn
    obtain ⟨n1, n2⟩ := List.nodup_cons.mp hn
    unfold valV
    rw [List.map_cons, List.find?_cons]
    by_cases e : y = x
    · subst e
      rw [decide_eq_true rfl]
      rcases List.mem_cons.mp h with h | h
      · cases h
        rfl
      · exact absurd (List.mem_map.mpr ⟨(y, v), h, rfl⟩) n1
    · rw [decide_eq_false (fun z => e (Sum.inr.inj z))]
      rcases List.mem_cons.mp h with h | h
      · cases h
        exact absurd rfl e
      · exact valV_map f n2 h
theorem valV_none {α : Type} (f : α → V) : ∀ {S : List (Str × α)} {x : Str}, ¬ x ∈ S.map (·.1) → valV (S.map fun q => ((Sum.inr q.1 : Key), f q.2)) (Sum.inr x) = none
  | [], x, _ => rfl
  | (y, u) :: S, x, h => by
    have h : ¬ x ∈ y :: S.map (·.1) := h
    unfold valV
    rw [List.map_cons, List.find?_cons, decide_eq_false (fun z => h ((show y = x from Sum.inr.inj z) ▸ List.mem_cons_self))]
    exact valV_none f (fun z => h (List.mem_cons_of_mem _ z))
theorem DGet.rd {H : Hp} {a : Addr} {kvs : List (Key × V)} {x : Str} (e : Rd H a (.dK kvs)) : DGet H a (.str x) (valV kvs (Sum.inr x)) := .inl ⟨kvs, Sum.inr x, e, rfl, rfl⟩
theorem frz_rd {H : Hp} {a : Addr} {u : HO} (h : ∃ o, H a = some (.frz o u)) : Rd H a u := .inr h
/-- the key of the i-th pair -/
theorem key_at {α : Type} {f : α → V} {S : List (Str × α)} {i : Nat} {k : Key} {v : V} (h : (S.map fun q => ((Sum.inr q.1 : Key), f q.2))[i]? = some (k, v)) : ∃ q, S[i]? = some q ∧ k = Sum.inr q.1 ∧ v = f q.2 := by
  rw [List.getElem?_map] at h
  rcases e : S[i]? with _ | q
  · rw [e] at h
    cases h
  · rw [e] at h
    cases h
    exact ⟨q, rfl, rfl, rfl⟩
end Lk
namespace K79
open PySem L2 Lk
def spCount : Sp := fun vs H Q _ => ∃ n : Int, vs = [.int n] ∧ 0 ≤ n ∧ ∀ H', Same H H' → Q (.bl true) H'
def spNames (K : PySem.W.Frag) : Sp := fun vs H Q _ => ∃ (a : Addr) (xs : List Str), vs = [.ref a] ∧ SqL K H a (xs.map V.str) ∧ (∀ x ∈ xs, NameOk x) ∧ xs.Nodup ∧ xs.length ≤ 60 ∧ ∀ H', Same H H' → Q (.bl true) H'
def StkOk (S : List (Str × Int)) : Prop := (∀ q ∈ S, NameOk q.1 ∧ 0 ≤ q.2) ∧ (S.map (·.1)).Nodup
def WisOk (W : List (Str × Addr × List Str)) : Prop := (∀ q ∈ W, NameOk q.1 ∧ (∀ x ∈ q.2.2, NameOk x) ∧ q.2.2.Nodup ∧ q.2.2.length ≤ 60) ∧ (W.map (·.1)).Nodup
def spStk : Sp := fun vs H Q _ => ∃ d S, vs = [.ref d] ∧ Stk H d S ∧ StkOk S ∧ ∀ H', Same H H' → Q (.bl true) H'
def spStkN : Sp := fun vs H Q _ => ∃ d S, vs = [.ref d] ∧ Stk H d S ∧ StkOk S ∧ ∀ H', Same H H' → Q .non H'
def spWis (K : PySem.W.Frag) : Sp := fun vs H Q _ => ∃ d W, vs = [.ref d] ∧ Wis K H d W ∧ WisOk W ∧ ∀ H', Same H H' → Q (.bl true) H'
def spWisN (K : PySem.W.Frag) : Sp := fun vs H Q _ => ∃ d W, vs = [.ref d] ∧ Wis K H d W ∧ WisOk W ∧ ∀ H', Same H H' → Q .non H'
def spAskN (K : PySem.W.Frag) : Sp := fun vs H Q _ => ∃ d c W S, vs = [.ref d, .ref c] ∧ Wis K H d W ∧ WisOk W ∧ Stk H c S ∧ StkOk S ∧ ∀ H', Same H H' → Q .non H'
section
variable {P : Program} {w : World} {K : PySem.W.Frag} {mg : Str → Option Value} {base : Heap}
theorem ok_is_count (T : Th K mg) : FnOk P w K mg base CX0 1 T.f_is_count T.d_is_count ["value"] spCount := by
  refine T.F_is_count.ok sc_is_count (fun vs H Q E h => ?_) (fun cdv A outer s H vs Q E hr h => ?_)
  · obtain ⟨n, rfl, _⟩ := h
    rfl
  · obtain ⟨n, rfl, hn, k⟩ := h
    refine ⟨_, (pss_one (ps_ret (pe_and (pe_callB call_isi (by rfl) T.n_isinstance (by decide +kernel) (pa_cons (pv 0) (pa_cons (pe_bltn (v := .ty "int") (u := .type "int") (by rfl) T.n_int (by decide +kernel) rfl) pa_nil))) (pe_and (pe_not (pe_callB call_isi (by rfl) T.n_isinstance (by decide +kernel) (pa_cons (pv 0) (pa_cons (pe_bltn (v := .ty "bool") (u := .type "bool") (by rfl) T.n_bool (by decide +kernel) rfl) pa_nil)))) (pe_one (pe_cmpR op_ge (pv 0) pe_int (nomark _))))))), ?_⟩
    refine ⟨_, rfl, _, _, _, _, true, rfl, .ty _, .base (.int _), kit_ty (by decide +kernel), true, rfl, iteT ?_⟩
    refine ⟨_, rfl, _, _, _, _, false, rfl, .ty _, .base (.int _), kit_ty (by decide +kernel), false, rfl, true, rfl, iteT ?_⟩
    refine ⟨_, rfl, _, _, rfl, rfl, ?_⟩
    show Q (.bl (decide (0 ≤ n))) H
    rw [decide_eq_true hn]
    exact k H (Same.refl H)
theorem ok_are_names (T : Th K mg) : FnOk P w K mg base CX0 2 T.f_are_names T.d_are_names ["value"] (spNames K) := by
  have G_is_name : FnOk P w K mg base CX0 1 T.f_is_name T.d_is_name ["value"] spIsName := ok_is_name T
  refine T.F_are_names.ok sc_are_names (fun vs H Q E h => ?_) (fun cdv A outer s H vs Q E hr h => ?_)
  · obtain ⟨a, xs, rfl, _⟩ := h
    rfl
  · obtain ⟨a, xs, rfl, hs, hx, hd, hl, k⟩ := h
    refine ⟨_, (pss_cons (ps_if (PW.pt (pw_or (pt_not (pt_val (pe_callB call_isi (by rfl) T.n_isinstance (by decide +kernel) (pa_cons (pv 0) (pa_cons (pe_bltn (v := .ty "list") (u := .type "list") (by rfl) T.n_list (by decide +kernel) rfl) pa_nil))))) (pw_or1 (pt_cmpR (op_neD hr.units) (pe_lc (own := [("one", 1)]) rfl sc_are_names.nd (pi_list (pv 0)) (blkOk_by (own := [("one", 1)]) (N := N_are_names) (sc := defScope s_are_names) (by decide +kernel)) (fun _ _ _ _ _ => pg_name (i := 1) sc_are_names.nd rfl (Or.inl rfl)) (fun _ _ _ _ _ => pts_one (pt_not (pt_val (pe_call G_is_name (hr.mono (by decide)) rfl T.g_is_name T.F_is_name.kp T.b_is_name .nil pass0 (pa_cons (pv 1) pa_nil))))) (fun _ _ _ _ _ => pv 1)) (pe_lst pa_nil) (nomark _)))))
        (pss_one (ps_ret pe_bl))
        pss_nil)
      (pss_one (ps_ret (pe_cmpR op_eq (pe_callB Lk.call_lenS (by rfl) T.n_len PySem.boot_len (pa_cons (pe_callTy (Lk.cr_setS rfl) (by rfl) T.n_set (by decide +kernel) (pa_cons (pv 0) pa_nil)) pa_nil)) (pe_callB call_len_seq (by rfl) T.n_len PySem.boot_len (pa_cons (pv 0) pa_nil)) (nomark _))))), ?_⟩
    refine ⟨_, rfl, _, _, _, _, true, rfl, .ty _, tyx_sql hs, kit_ty (by decide +kernel), true, rfl, iteF ?_⟩
    refine ⟨_, rfl, a, rfl, ⟨_, hs⟩, fun D hD => lc_it walk_list (fun i H' => Same H H' ∧ H' D = some (.lst [])) ⟨Same.new hD, upd_same⟩ (fun i H' _ h => h.1.seq hs) ?_ ?_⟩
    · rintro i v H1 H1' hi ⟨s1, e1⟩ ⟨rfl, hv⟩
      rw [List.getElem?_map] at hv
      obtain ⟨x, ex, rfl⟩ := Option.map_eq_some_iff.mp hv
      refine ⟨rfl, _, rfl, x, rfl, hx x (List.mem_of_getElem? ex), fun H2 s2 => ⟨true, rfl, iteF ⟨s1.trans s2, s2 _ _ e1⟩⟩⟩
    · rintro H1 ⟨s1, e1⟩
      refine ⟨by decide, fun p hp => ⟨.list [], .list [], .lst (SqL.of (by rw [upd_ne (ne_of_none e1 hp)]; exact e1)) .nil, .lst (SqL.of upd_same) .nil, rfl, rfl, ?_⟩⟩
      rw [eqv_nil]
      refine ⟨_, rfl, iteF ?_⟩
      have s2 := s1.trans (Same.new (o := .lst []) hp)
      refine ⟨_, rfl, a, xs, rfl, s2.seq hs, by omega, fun q hq => ⟨q, _, rfl, upd_same, _, rfl, a, _, rfl, .inl ((s2.trans (Same.new hq)).seq hs), rfl, ?_⟩⟩
      have e : (gath [] xs).length = (xs.map V.str).length := by rw [gath_nodup xs [] hd (fun _ _ z => nomatch z), List.length_map]; simp
      rw [e, decide_eq_true rfl]
      exact k _ (s2.trans (Same.new hq))
theorem ok_is_stock (T : Th K mg) : FnOk P w K mg base CX0 2 T.f_is_stock T.d_is_stock ["value"] spStk := by
  have G_is_name : FnOk P w K mg base CX0 1 T.f_is_name T.d_is_name ["value"] spIsName := ok_is_name T
  have G_is_count : FnOk P w K mg base CX0 1 T.f_is_count T.d_is_count ["value"] spCount := ok_is_count T
  refine T.F_is_stock.ok sc_is_stock (fun vs H Q E h => ?_) (fun cdv A outer s H vs Q E hr h => ?_)
  · obtain ⟨d, S, rfl, _⟩ := h
    rfl
  · obtain ⟨d, S, rfl, ⟨o, hd⟩, ⟨hS, hn⟩, k⟩ := h
    have hu := hu_of hr
    refine ⟨_, (pss_cons (ps_if (pt_not (pt_val (pe_callB call_isi (by rfl) T.n_isinstance (by decide +kernel) (pa_cons (pv 0) (pa_cons (pe_bltn (v := .ty "dict") (u := .type "dict") (by rfl) T.n_dict (by decide +kernel) rfl) pa_nil)))))
        (pss_one (ps_ret pe_bl))
        pss_nil)
      (pss_one (ps_ret (pe_cmpR (op_eqD hr.units) (pe_lc (own := [("kind", 1)]) rfl sc_is_stock.nd (pi_keys (pv 0)) (blkOk_by (own := [("kind", 1)]) (N := N_is_stock) (sc := defScope s_is_stock) (by decide +kernel)) (fun _ _ _ _ _ => pg_name (i := 1) sc_is_stock.nd rfl (Or.inl rfl)) (fun _ _ _ _ _ => pts_one (PW.pt (pw_or (pt_not (pt_val (pe_call G_is_name (hr.mono (by decide)) rfl T.g_is_name T.F_is_name.kp T.b_is_name .nil pass0 (pa_cons (pv 1) pa_nil)))) (pw_or1 (pt_not (pt_val (pe_call G_is_count (hr.mono (by decide)) rfl T.g_is_count T.F_is_count.kp T.b_is_count .nil pass0 (pa_cons (pe_dget hu (pv 0) (pv 1) (fun _ _ => rfl)) pa_nil)))))))) (fun _ _ _ _ _ => pv 1)) (pe_lst pa_nil) (nomark _))))), ?_⟩
    refine ⟨_, rfl, _, _, _, _, true, rfl, .ty _, .fDict hd, kit_ty (by decide +kernel), true, rfl, iteF ?_⟩
    refine ⟨_, rfl, d, o, rfl, .inl ⟨_, hd, fun D hD => lc_it walk_keys (fun i H' => Same H H' ∧ H' D = some (.lst [])) ⟨Same.new hD, upd_same⟩ (fun i H' _ h => h.1 _ _ hd) ?_ ?_⟩⟩
    · rintro i v H1 H1' hi ⟨s1, e1⟩ ⟨rfl, kk, v, hkv, rfl⟩
      obtain ⟨q, hq, rfl, rfl⟩ := key_at (f := fun n => V.int n) hkv
      have hm := List.mem_of_getElem? hq
      refine ⟨rfl, _, rfl, q.1, rfl, (hS q hm).1, fun H2 s2 => ⟨true, rfl, iteF ?_⟩⟩
      refine ⟨_, rfl, _, rfl, d, V.int q.2, rfl, ?_, q.2, rfl, (hS q hm).2, fun H3 s3 => ⟨true, rfl, iteF ⟨s1.trans (s2.trans s3), s3 _ _ (s2 _ _ e1)⟩⟩⟩
      have g := DGet.rd (x := q.1) (frz_rd ⟨o, s2 _ _ (s1 _ _ hd)⟩)
      rw [valV_map (fun n => V.int n) hn hm] at g
      exact g
    · rintro H1 ⟨s1, e1⟩
      refine ⟨by decide, fun p hp => ⟨.list [], .list [], .lst (SqL.of (by rw [upd_ne (ne_of_none e1 hp)]; exact e1)) .nil, .lst (SqL.of upd_same) .nil, rfl, rfl, ?_⟩⟩
      rw [eqv_nil]
      exact k _ (s1.trans (Same.new hp))
theorem ok_are_wishes (T : Th K mg) : FnOk P w K mg base CX0 3 T.f_are_wishes T.d_are_wishes ["value"] (spWis K) := by
  have G_is_name : FnOk P w K mg base CX0 1 T.f_is_name T.d_is_name ["value"] spIsName := ok_is_name T
  have G_are_names : FnOk P w K mg base CX0 2 T.f_are_names T.d_are_names ["value"] (spNames K) := ok_are_names T
  refine T.F_are_wishes.ok sc_are_wishes (fun vs H Q E h => ?_) (fun cdv A outer s H vs Q E hr h => ?_)
  · obtain ⟨d, S, rfl, _⟩ := h
    rfl
  · obtain ⟨d, S, rfl, hW, ⟨hS, hn⟩, k⟩ := h
    obtain ⟨⟨o, hd⟩, hL⟩ := id hW
    have hu := hu_of hr
    refine ⟨_, (pss_cons (ps_if (pt_not (pt_val (pe_callB call_isi (by rfl) T.n_isinstance (by decide +kernel) (pa_cons (pv 0) (pa_cons (pe_bltn (v := .ty "dict") (u := .type "dict") (by rfl) T.n_dict (by decide +kernel) rfl) pa_nil)))))
        (pss_one (ps_ret pe_bl))
        pss_nil)
      (pss_one (ps_ret (pe_cmpR (op_eqD hr.units) (pe_lc (own := [("name", 1)]) rfl sc_are_wishes.nd (pi_keys (pv 0)) (blkOk_by (own := [("name", 1)]) (N := N_are_wishes) (sc := defScope s_are_wishes) (by decide +kernel)) (fun _ _ _ _ _ => pg_name (i := 1) sc_are_wishes.nd rfl (Or.inl rfl)) (fun _ _ _ _ _ => pts_one (PW.pt (pw_or (pt_not (pt_val (pe_call G_is_name (hr.mono (by decide)) rfl T.g_is_name T.F_is_name.kp T.b_is_name .nil pass0 (pa_cons (pv 1) pa_nil)))) (pw_or1 (pt_not (pt_val (pe_call G_are_names (hr.mono (by decide)) rfl T.g_are_names T.F_are_names.kp T.b_are_names .nil pass0 (pa_cons (pe_dget hu (pv 0) (pv 1) (fun _ _ => rfl)) pa_nil)))))))) (fun _ _ _ _ _ => pv 1)) (pe_lst pa_nil) (nomark _))))), ?_⟩
    refine ⟨_, rfl, _, _, _, _, true, rfl, .ty _, .fDict hd, kit_ty (by decide +kernel), true, rfl, iteF ?_⟩
    refine ⟨_, rfl, d, o, rfl, .inl ⟨_, hd, fun D hD => lc_it walk_keys (fun i H' => Same H H' ∧ H' D = some (.lst [])) ⟨Same.new hD, upd_same⟩ (fun i H' _ h => h.1 _ _ hd) ?_ ?_⟩⟩
    · rintro i v H1 H1' hi ⟨s1, e1⟩ ⟨rfl, kk, v, hkv, rfl⟩
      obtain ⟨q, hq, rfl, rfl⟩ := key_at (f := fun (z : Addr × List Str) => V.ref z.1) hkv
      have hm := List.mem_of_getElem? hq
      obtain ⟨q1, q2, q3, q4⟩ := hS q hm
      refine ⟨rfl, _, rfl, q.1, rfl, q1, fun H2 s2 => ⟨true, rfl, iteF ?_⟩⟩
      refine ⟨_, rfl, _, rfl, d, V.ref q.2.1, rfl, ?_, q.2.1, q.2.2, rfl, (s1.trans s2).seq (hL q hm), q2, q3, q4, fun H3 s3 => ⟨true, rfl, iteF ⟨s1.trans (s2.trans s3), s3 _ _ (s2 _ _ e1)⟩⟩⟩
      have g := DGet.rd (x := q.1) (frz_rd ⟨o, s2 _ _ (s1 _ _ hd)⟩)
      rw [valV_map (fun (z : Addr × List Str) => V.ref z.1) hn hm] at g
      exact g
    · rintro H1 ⟨s1, e1⟩
      refine ⟨by decide, fun p hp => ⟨.list [], .list [], .lst (SqL.of (by rw [upd_ne (ne_of_none e1 hp)]; exact e1)) .nil, .lst (SqL.of upd_same) .nil, rfl, rfl, ?_⟩⟩
      rw [eqv_nil]
      exact k _ (s1.trans (Same.new hp))
theorem ok_check_stock (T : Th K mg) : FnOk P w K mg base CX0 3 T.f_check_stock T.d_check_stock ["value"] spStkN := by
  have G_is_stock : FnOk P w K mg base CX0 2 T.f_is_stock T.d_is_stock ["value"] spStk := ok_is_stock T
  refine T.F_check_stock.ok sc_check_stock (fun vs H Q E h => ?_) (fun cdv A outer s H vs Q E hr h => ?_)
  · obtain ⟨d, S, rfl, _⟩ := h
    rfl
  · obtain ⟨d, S, rfl, hS, ok, k⟩ := h
    refine ⟨_, (pss_one (ps_if (pt_not (pt_val (pe_call G_is_stock (hr.mono (by decide)) rfl T.g_is_stock T.F_is_stock.kp T.b_is_stock .nil pass0 (pa_cons (pv 0) pa_nil))))
        (pss_one (ps_never))
        pss_nil)), ?_⟩
    exact ⟨_, rfl, d, S, rfl, hS, ok, fun H1 s1 => ⟨true, rfl, iteF (k _ s1)⟩⟩
theorem ok_check_wishes (T : Th K mg) : FnOk P w K mg base CX0 4 T.f_check_wishes T.d_check_wishes ["value"] (spWisN K) := by
  have G_are_wishes : FnOk P w K mg base CX0 3 T.f_are_wishes T.d_are_wishes ["value"] (spWis K) := ok_are_wishes T
  refine T.F_check_wishes.ok sc_check_wishes (fun vs H Q E h => ?_) (fun cdv A outer s H vs Q E hr h => ?_)
  · obtain ⟨d, S, rfl, _⟩ := h
    rfl
  · obtain ⟨d, S, rfl, hS, ok, k⟩ := h
    refine ⟨_, (pss_one (ps_if (pt_not (pt_val (pe_call G_are_wishes (hr.mono (by decide)) rfl T.g_are_wishes T.F_are_wishes.kp T.b_are_wishes .nil pass0 (pa_cons (pv 0) pa_nil))))
        (pss_one (ps_never))
        pss_nil)), ?_⟩
    exact ⟨_, rfl, d, S, rfl, hS, ok, fun H1 s1 => ⟨true, rfl, iteF (k _ s1)⟩⟩
theorem ok_check_asked (T : Th K mg) : FnOk P w K mg base CX0 5 T.f_check_asked T.d_check_asked ["wishes", "stock"] (spAskN K) := by
  have G_check_wishes : FnOk P w K mg base CX0 4 T.f_check_wishes T.d_check_wishes ["value"] (spWisN K) := ok_check_wishes T
  have G_check_stock : FnOk P w K mg base CX0 3 T.f_check_stock T.d_check_stock ["value"] spStkN := ok_check_stock T
  refine T.F_check_asked.ok sc_check_asked (fun vs H Q E h => ?_) (fun cdv A outer s H vs Q E hr h => ?_)
  · obtain ⟨d, c, W, S, rfl, _⟩ := h
    rfl
  · obtain ⟨d, c, W, S, rfl, hW, okW, hS, okS, k⟩ := h
    refine ⟨_, (pss_cons (ps_expr (pe_call G_check_wishes (hr.mono (by decide)) rfl T.g_check_wishes T.F_check_wishes.kp T.b_check_wishes .nil pass0 (pa_cons (pv 0) pa_nil)))
      (pss_one (ps_expr (pe_call G_check_stock (hr.mono (by decide)) rfl T.g_check_stock T.F_check_stock.kp T.b_check_stock .nil pass0 (pa_cons (pv 1) pa_nil))))), ?_⟩
    exact ⟨_, rfl, d, W, rfl, hW, okW, fun H1 s1 => ⟨_, rfl, c, S, rfl, hS.same s1, okS, fun H2 s2 => k _ (s1.trans s2)⟩⟩
end
end K79


set_option Elab.async false
set_option linter.all false
set_option maxHeartbeats 4000000
/-! Eating: plain mathematics. -/
namespace Eat
open PySem
/-- the list of an asker -/
def wl (W : List (Str × List Str)) (n : Str) : List Str := ((W.find? fun q => decide (q.1 = n)).map (·.2)).getD []
structure S where
  left : Str → Rat
  hour : Rat
  got : Str → Str → Rat
def meal (left : Str → Rat) (l : List Str) : Option Str := l.find? fun k => decide (0 < left k)
section
variable (W : List (Str × List Str))
abbrev S.meal (s : S) (n : Str) : Option Str := Eat.meal s.left (wl W n)
def S.eat (s : S) (k : Str) : Nat := (W.map (·.1)).countP fun n => decide (s.meal W n = some k)
/-- what is eaten, of all who eat -/
def S.foods (s : S) : List Str := (W.map (·.1)).filterMap (s.meal W)
def least (m x : Rat) : Rat := if x < m then x else m
def S.step (s : S) : Rat := ((s.foods W).map fun k => s.left k / (s.eat W k : Rat)).foldl least (1 - s.hour)
def S.nxt (s : S) : S where
  left := fun k => s.left k - (s.eat W k : Rat) * s.step W
  hour := s.hour + s.step W
  got := fun n k => s.got n k + if n ∈ W.map (·.1) ∧ s.meal W n = some k then s.step W else 0
def S.done (s : S) : Prop := ¬ s.hour < 1 ∨ ∀ n ∈ W.map (·.1), s.meal W n = none
instance (s : S) : Decidable (s.done W) := by unfold S.done; infer_instance
/-- kinds that are there, and one more while there is time -/
def S.mu (ks : List Str) (s : S) : Nat := (ks.countP fun k => decide (0 < s.left k)) + if s.hour < 1 then 1 else 0
def run : Nat → S → S
  | 0, s => s
  | n + 1, s => if s.done W then s else run n (s.nxt W)
end
/-! ### the least of some -/
theorem least_le (m x : Rat) : least m x ≤ m ∧ least m x ≤ x ∧ (least m x = m ∨ least m x = x) := by
  unfold least
  split <;> grind
theorem fold_spec : ∀ (l : List Rat) (m : Rat), l.foldl least m ≤ m ∧ (∀ x ∈ l, l.foldl least m ≤ x) ∧ (l.foldl least m = m ∨ l.foldl least m ∈ l)
  | [], m => ⟨by show m ≤ m; grind, fun x h => (nomatch h), .inl rfl⟩
  | y :: l, m => by
    obtain ⟨h1, h2, h3⟩ := fold_spec l (least m y)
    obtain ⟨g1, g2, g3⟩ := least_le m y
    rw [List.foldl_cons]
    refine ⟨by grind, fun x hx => ?_, ?_⟩
    · rcases List.mem_cons.mp hx with e | e
      · subst e
        grind
      · exact h2 x e
    · rcases h3 with e | e
      · rcases g3 with g | g
        · exact .inl (e.trans g)
        · exact .inr (by rw [e, g]; exact List.mem_cons_self)
      · exact .inr (List.mem_cons_of_mem _ e)
/-- two rows of the same numbers have the same least one -/
theorem fold_same {l l' : List Rat} (m : Rat) (h : ∀ x, x ∈ l ↔ x ∈ l') : l.foldl least m = l'.foldl least m := by
  obtain ⟨a1, a2, a3⟩ := fold_spec l m
  obtain ⟨b1, b2, b3⟩ := fold_spec l' m
  have e1 : l.foldl least m ≤ l'.foldl least m := by
    rcases b3 with e | e
    · rw [e]
      exact a1
    · exact a2 _ ((h _).mpr e)
  have e2 : l'.foldl least m ≤ l.foldl least m := by
    rcases a3 with e | e
    · rw [e]
      exact b1
    · exact b2 _ ((h _).mp e)
  grind
section
variable {W : List (Str × List Str)} {s : S}
theorem mem_foods {k : Str} : k ∈ s.foods W ↔ ∃ n ∈ W.map (·.1), s.meal W n = some k := by
  unfold S.foods
  rw [List.mem_filterMap]
theorem meal_some {left : Str → Rat} {l : List Str} {k : Str} (h : meal left l = some k) : k ∈ l ∧ 0 < left k :=
  ⟨List.mem_of_find?_eq_some h, by simpa using List.find?_some h⟩
theorem meal_none {left : Str → Rat} {l : List Str} (h : meal left l = none) : ∀ k ∈ l, ¬ 0 < left k := fun k hk => by
  have q := List.find?_eq_none.mp h k hk
  simpa using q
theorem eat_pos {k : Str} : 0 < s.eat W k ↔ k ∈ s.foods W := by
  rw [mem_foods]
  unfold S.eat
  rw [List.countP_pos_iff]
  simp
theorem food_left {k : Str} (h : k ∈ s.foods W) : 0 < s.left k := by
  obtain ⟨n, _, e⟩ := mem_foods.mp h
  exact (meal_some e).2
/-- what holds all the while -/
structure Good (W : List (Str × List Str)) (st : Str → Rat) (s : S) : Prop where
  nn : ∀ k, 0 ≤ s.left k
  h0 : 0 ≤ s.hour
  h1 : s.hour ≤ 1
  g0 : ∀ n k, 0 ≤ s.got n k
  used : ∀ k, ((W.map (·.1)).map fun n => s.got n k).sum + s.left k = st k
  lef : ∀ k, s.left k ≤ st k
theorem div_pos {x : Rat} {n : Nat} (hx : 0 < x) (hn : 0 < n) : 0 < x / (n : Rat) := by
  rw [Rat.div_def]
  exact Rat.mul_pos hx (Rat.inv_pos.mpr (Rat.natCast_pos.mpr hn))
theorem step_spec (hh : s.hour < 1) : 0 < s.step W ∧ s.step W ≤ 1 - s.hour ∧ (∀ k ∈ s.foods W, s.step W ≤ s.left k / (s.eat W k : Rat)) ∧
    (s.step W = 1 - s.hour ∨ ∃ k ∈ s.foods W, s.step W = s.left k / (s.eat W k : Rat)) := by
  obtain ⟨a1, a2, a3⟩ := fold_spec ((s.foods W).map fun k => s.left k / (s.eat W k : Rat)) (1 - s.hour)
  have b2 : ∀ k ∈ s.foods W, s.step W ≤ s.left k / (s.eat W k : Rat) := fun k hk => a2 _ (List.mem_map.mpr ⟨k, hk, rfl⟩)
  have b3 : s.step W = 1 - s.hour ∨ ∃ k ∈ s.foods W, s.step W = s.left k / (s.eat W k : Rat) := by
    rcases a3 with e | e
    · exact .inl e
    · obtain ⟨k, hk, e⟩ := List.mem_map.mp e
      exact .inr ⟨k, hk, e.symm⟩
  refine ⟨?_, a1, b2, b3⟩
  rcases b3 with e | ⟨k, hk, e⟩
  · rw [e]
    grind
  · rw [e]
    exact div_pos (food_left hk) (eat_pos.mpr hk)
theorem div_mul {x : Rat} {n : Nat} (hn : 0 < n) : (n : Rat) * (x / (n : Rat)) = x := by
  rw [Rat.mul_comm]
  exact Rat.div_mul_cancel (by have := Rat.natCast_pos.mpr hn; grind)
theorem eat_step {k : Str} (hh : s.hour < 1) (nn : ∀ k, 0 ≤ s.left k) : 0 ≤ (s.eat W k : Rat) * s.step W ∧ (s.eat W k : Rat) * s.step W ≤ s.left k := by
  obtain ⟨p, _, b, _⟩ := step_spec (W := W) hh
  by_cases h : 0 < s.eat W k
  · have h1 := b k (eat_pos.mp h)
    have h2 := div_mul (x := s.left k) h
    have h3 : (0 : Rat) < (s.eat W k : Rat) := Rat.natCast_pos.mpr h
    have h4 : (s.eat W k : Rat) * s.step W ≤ (s.eat W k : Rat) * (s.left k / (s.eat W k : Rat)) := Rat.mul_le_mul_of_nonneg_left h1 (by grind)
    have h5 : 0 < (s.eat W k : Rat) * s.step W := Rat.mul_pos h3 p
    grind
  · have h0 : s.eat W k = 0 := by omega
    rw [h0]
    have := nn k
    show 0 ≤ (0 : Rat) * _ ∧ (0 : Rat) * _ ≤ _
    grind
theorem sum_if (c : Str → Bool) (t : Rat) (f : Str → Rat) : ∀ l : List Str, (l.map fun n => f n + if c n = true then t else 0).sum = (l.map f).sum + ((l.countP c : Nat) : Rat) * t
  | [] => by
    show (0 : Rat) = 0 + (0 : Rat) * t
    grind
  | n :: l => by
    have ih := sum_if c t f l
    rw [List.map_cons, List.sum_cons, ih, List.map_cons, List.sum_cons, List.countP_cons]
    by_cases h : c n = true
    · rw [if_pos h, if_pos h, Rat.natCast_add]
      show _ = _ + (_ + (1 : Rat)) * t
      grind
    · rw [if_neg h, if_neg h]
      show _ = _ + (((l.countP c + 0 : Nat)) : Rat) * t
      rw [Nat.add_zero]
      grind
theorem good_nxt {st : Str → Rat} (g : Good W st s) (hh : s.hour < 1) : Good W st (s.nxt W) := by
  obtain ⟨p, q, _, _⟩ := step_spec (W := W) hh
  refine ⟨fun k => ?_, ?_, ?_, fun n k => ?_, fun k => ?_, fun k => ?_⟩
  · have := (eat_step (W := W) (k := k) hh g.nn).2
    show 0 ≤ s.left k - _
    grind
  · have := g.h0
    show 0 ≤ s.hour + _
    grind
  · show s.hour + _ ≤ 1
    grind
  · have := g.g0 n k
    show 0 ≤ s.got n k + _
    split <;> grind
  · have e : ((W.map (·.1)).map fun n => (s.nxt W).got n k) = (W.map (·.1)).map fun n => s.got n k + if decide (s.meal W n = some k) = true then s.step W else 0 := by
      refine List.map_congr_left fun n hn => ?_
      show s.got n k + (if n ∈ W.map (·.1) ∧ s.meal W n = some k then s.step W else 0) = _
      by_cases h : s.meal W n = some k
      · rw [if_pos ⟨hn, h⟩, if_pos (by simp [h])]
      · rw [if_neg (fun z => h z.2), if_neg (by simp [h])]
    rw [e, sum_if]
    have := g.used k
    show _ + (s.eat W k : Rat) * s.step W + (s.left k - (s.eat W k : Rat) * s.step W) = st k
    grind
  · have := g.lef k
    have h := (eat_step (W := W) (k := k) hh g.nn).1
    show s.left k - _ ≤ st k
    grind
theorem countP_lt {p q : Str → Bool} : ∀ {l : List Str}, (∀ x ∈ l, q x = true → p x = true) → (∃ x ∈ l, p x = true ∧ q x = false) → l.countP q < l.countP p
  | [], _, ⟨x, hx, _⟩ => nomatch hx
  | y :: l, h, ⟨x, hx, h1, h2⟩ => by
    have hle : l.countP q ≤ l.countP p := by
      refine List.countP_mono_left fun z hz => h z (List.mem_cons_of_mem _ hz)
    rw [List.countP_cons, List.countP_cons]
    rcases List.mem_cons.mp hx with e | e
    · subst e
      rw [h1, h2]
      simp
      omega
    · have ih := countP_lt (fun z hz => h z (List.mem_cons_of_mem _ hz)) ⟨x, e, h1, h2⟩
      have hy := h y List.mem_cons_self
      cases e1 : q y
      · simp
        omega
      · rw [hy e1]
        simp
        omega
theorem mu_lt {st : Str → Rat} {ks : List Str} (g : Good W st s) (hk : ∀ k, 0 < st k → k ∈ ks) (h : ¬ s.done W) : (s.nxt W).mu ks < s.mu ks := by
  unfold S.done at h
  have hh : s.hour < 1 := by
    rcases Classical.em (s.hour < 1) with c | c
    · exact c
    · exact absurd (.inl c) h
  obtain ⟨p, q, b, e⟩ := step_spec (W := W) hh
  have low : ∀ k, (s.nxt W).left k ≤ s.left k := fun k => by
    have := (eat_step (W := W) (k := k) hh g.nn).1
    show s.left k - _ ≤ _
    grind
  have mono : ∀ k ∈ ks, decide (0 < (s.nxt W).left k) = true → decide (0 < s.left k) = true := fun k _ h => by
    have h := of_decide_eq_true h
    have := low k
    exact decide_eq_true (by grind)
  unfold S.mu
  rw [if_pos hh]
  rcases e with e | ⟨k, hf, e⟩
  · have h1 : ¬ (s.nxt W).hour < 1 := by
      show ¬ s.hour + s.step W < 1
      grind
    rw [if_neg h1]
    have := List.countP_mono_left mono
    omega
  · have z : (s.nxt W).left k = 0 := by
      show s.left k - (s.eat W k : Rat) * s.step W = 0
      have := div_mul (x := s.left k) (eat_pos.mpr hf)
      rw [e]
      grind
    have hp := food_left hf
    have hm : k ∈ ks := hk k (by have := g.lef k; grind)
    have := countP_lt mono ⟨k, hm, by simpa using hp, by rw [z]; simp⟩
    split <;> omega
/-! ### what comes at the end -/
theorem run_ge {st : Str → Rat} {ks : List Str} (hk : ∀ k, 0 < st k → k ∈ ks) : ∀ (n : Nat) (s : S), Good W st s → s.mu ks ≤ n → run W (n + 1) s = run W n s ∧ (run W n s).done W
  | 0, s, g, h => by
    have d : s.done W := Classical.byContradiction fun c => by have := mu_lt g hk c; omega
    refine ⟨?_, d⟩
    show (if s.done W then s else _) = s
    rw [if_pos d]
  | n + 1, s, g, h => by
    by_cases d : s.done W
    · refine ⟨?_, ?_⟩
      · show (if s.done W then s else _) = if s.done W then s else _
        rw [if_pos d, if_pos d]
      · show (if s.done W then s else _).done W
        rw [if_pos d]
        exact d
    · have hh : s.hour < 1 := Classical.byContradiction fun c => d (.inl c)
      have ih := run_ge hk n (s.nxt W) (good_nxt g hh) (by have := mu_lt g hk d; omega)
      refine ⟨?_, ?_⟩
      · show (if s.done W then s else run W (n + 1) (s.nxt W)) = if s.done W then s else run W n (s.nxt W)
        rw [if_neg d, if_neg d]
        exact ih.1
      · show (if s.done W then s else run W n (s.nxt W)).done W
        rw [if_neg d]
        exact ih.2
theorem run_eq {st : Str → Rat} {ks : List Str} (hk : ∀ k, 0 < st k → k ∈ ks) {n m : Nat} {s : S} (g : Good W st s) (hn : s.mu ks ≤ n) (h : n ≤ m) : run W m s = run W n s := by
  obtain ⟨d, rfl⟩ : ∃ d, m = n + d := ⟨m - n, by omega⟩
  induction d with
  | zero => rfl
  | succ d ih => rw [← Nat.add_assoc, (run_ge hk (n + d) s g (by omega)).1, ih (by omega)]
/-- the end, from anywhere on the way -/
def fin (W : List (Str × List Str)) (s : S) : S := run W 40 s
theorem fin_done {s : S} (h : s.done W) : fin W s = s := by
  show (if s.done W then s else _) = s
  rw [if_pos h]
theorem fin_nxt {st : Str → Rat} {ks : List Str} (hk : ∀ k, 0 < st k → k ∈ ks) (g : Good W st s) (hm : s.mu ks ≤ 30) (h : ¬ s.done W) : fin W (s.nxt W) = fin W s := by
  have hh : s.hour < 1 := Classical.byContradiction fun c => h (.inl c)
  have l := mu_lt g hk h
  have e : fin W s = run W 39 (s.nxt W) := by
    show (if s.done W then s else run W 39 (s.nxt W)) = _
    rw [if_neg h]
  rw [e]
  exact run_eq hk (good_nxt g hh) (by omega) (by decide)
end
end Eat


set_option Elab.async false
set_option linter.all false
set_option maxHeartbeats 4000000
namespace Eat
open PySem
/-! ### sizes -/
/-- x is so many parts of 60 ^ i -/
def Gr (i : Nat) (x : Rat) : Prop := ∃ z : Int, x * ((60 ^ i : Nat) : Rat) = (z : Rat)
theorem Gr.int (i : Nat) (n : Int) : Gr i (n : Rat) := ⟨n * (60 ^ i : Nat), by rw [Rat.intCast_mul]; rfl⟩
theorem Gr.add {i : Nat} {x y : Rat} (h : Gr i x) (g : Gr i y) : Gr i (x + y) := by
  obtain ⟨a, h⟩ := h
  obtain ⟨b, g⟩ := g
  exact ⟨a + b, by rw [Rat.intCast_add, ← h, ← g]; grind⟩
theorem Gr.sub {i : Nat} {x y : Rat} (h : Gr i x) (g : Gr i y) : Gr i (x - y) := by
  obtain ⟨a, h⟩ := h
  obtain ⟨b, g⟩ := g
  exact ⟨a - b, by rw [Rat.intCast_sub, ← h, ← g]; grind⟩
theorem Gr.mul {i : Nat} {x : Rat} (n : Nat) (h : Gr i x) : Gr i ((n : Rat) * x) := by
  obtain ⟨a, h⟩ := h
  refine ⟨(n : Int) * a, ?_⟩
  rw [Rat.intCast_mul, ← h, Rat.intCast_natCast]
  grind
theorem pow_cast (i : Nat) : ((60 ^ (i + 1) : Nat) : Rat) = ((60 ^ i : Nat) : Rat) * 60 := by
  rw [Nat.pow_succ, Rat.natCast_mul]
  rfl
theorem Gr.up {i : Nat} {x : Rat} (h : Gr i x) : Gr (i + 1) x := by
  obtain ⟨a, h⟩ := h
  refine ⟨a * 60, ?_⟩
  rw [pow_cast, Rat.intCast_mul, ← h]
  show x * (_ * 60) = x * _ * (60 : Rat)
  grind
theorem Gr.mono {i j : Nat} {x : Rat} (h : Gr i x) (e : i ≤ j) : Gr j x := by
  obtain ⟨d, rfl⟩ : ∃ d, j = i + d := ⟨j - i, by omega⟩
  induction d with
  | zero => exact h
  | succ d ih => exact (ih (by omega)).up
theorem Gr.div {i : Nat} {x : Rat} {n : Nat} (h : Gr i x) (h1 : 1 ≤ n) (h6 : n ≤ 6) : Gr (i + 1) (x / (n : Rat)) := by
  obtain ⟨a, h⟩ := h
  have key : ∀ c : Nat, n * c = 60 → Gr (i + 1) (x / (n : Rat)) := fun c hc => by
    refine ⟨a * c, ?_⟩
    have e1 := div_mul (x := x) (n := n) (by omega)
    have e2 : (n : Rat) * (c : Rat) = 60 := by rw [← Rat.natCast_mul, hc]; rfl
    rw [pow_cast, Rat.intCast_mul, ← h, Rat.intCast_natCast]
    grind
  have : n = 1 ∨ n = 2 ∨ n = 3 ∨ n = 4 ∨ n = 5 ∨ n = 6 := by omega
  rcases this with e | e | e | e | e | e <;> subst e
  · exact key 60 rfl
  · exact key 30 rfl
  · exact key 20 rfl
  · exact key 15 rfl
  · exact key 12 rfl
  · exact key 10 rfl
/-- both numbers of a fraction are below 2 ^ 64 -/
theorem Gr.sz {i : Nat} {x : Rat} (h : Gr i x) (hi : i ≤ 9) (h0 : 0 ≤ x) (h6 : x ≤ 30) : x.num.natAbs < 2 ^ 64 ∧ x.den < 2 ^ 64 := by
  have h9 : Gr 9 x := h.mono hi
  obtain ⟨z, hz⟩ := h9
  have hx : x = mkRat z (60 ^ 9) := by
    rw [Rat.mkRat_eq_div, ← hz]
    refine (Rat.mul_div_cancel ?_).symm
    decide
  have z0 : (0 : Rat) ≤ (z : Rat) := by rw [← hz]; exact Rat.mul_nonneg h0 (by decide)
  have z1 : (z : Rat) ≤ ((30 * 60 ^ 9 : Int) : Rat) := by
    rw [← hz]
    have : x * ((60 ^ 9 : Nat) : Rat) ≤ 30 * ((60 ^ 9 : Nat) : Rat) := Rat.mul_le_mul_of_nonneg_right h6 (by decide)
    have e : ((30 * 60 ^ 9 : Int) : Rat) = 30 * ((60 ^ 9 : Nat) : Rat) := by
      rw [Rat.intCast_mul]
      rfl
    rw [e]
    exact this
  have z0 : 0 ≤ z := Rat.intCast_nonneg.mp z0
  have z1 : z ≤ 30 * 60 ^ 9 := Rat.intCast_le_intCast.mp z1
  rw [hx, Rat.num_mkRat, Rat.den_mkRat, if_neg (by decide), if_neg (by decide)]
  refine ⟨?_, Nat.lt_of_le_of_lt (Nat.div_le_self _ _) (by decide)⟩
  have hb : z.natAbs ≤ 30 * 60 ^ 9 := by omega
  refine Nat.lt_of_le_of_lt ?_ (show 30 * 60 ^ 9 < 2 ^ 64 by decide)
  refine Nat.le_trans ?_ hb
  generalize hg : Nat.gcd (60 ^ 9) z.natAbs = g
  have : (z / (g : Int)).natAbs ≤ z.natAbs := by
    obtain ⟨m, rfl⟩ := Int.eq_ofNat_of_zero_le z0
    rw [← Int.natCast_ediv]
    exact Nat.div_le_self _ _
  exact this
section
variable {W : List (Str × List Str)} {s : S}
structure Fine (i : Nat) (s : S) : Prop where
  left : ∀ k, Gr i (s.left k)
  hour : Gr i s.hour
  got : ∀ n k, Gr i (s.got n k)
  small : ∀ n k, s.got n k ≤ s.hour
theorem eat_le (k : Str) : s.eat W k ≤ W.length := by
  unfold S.eat
  have := List.countP_le_length (p := fun n => decide (s.meal W n = some k)) (l := W.map (·.1))
  rwa [List.length_map] at this
theorem step_gr {i : Nat} (f : Fine i s) (h6 : W.length ≤ 6) (hh : s.hour < 1) : Gr (i + 1) (s.step W) := by
  obtain ⟨_, _, _, e⟩ := step_spec (W := W) hh
  rcases e with e | ⟨k, hk, e⟩
  · rw [e]
    exact ((Gr.int i 1).sub f.hour).up
  · rw [e]
    exact (f.left k).div (eat_pos.mpr hk) (Nat.le_trans (eat_le k) h6)
theorem fine_nxt {i : Nat} (f : Fine i s) (h6 : W.length ≤ 6) (hh : s.hour < 1) : Fine (i + 1) (s.nxt W) := by
  have g := step_gr f h6 hh
  obtain ⟨p, _, _, _⟩ := step_spec (W := W) hh
  refine ⟨fun k => (f.left k).up.sub (g.mul _), f.hour.up.add g, fun n k => ?_, fun n k => ?_⟩
  · show Gr (i + 1) (s.got n k + _)
    split
    · exact (f.got n k).up.add g
    · exact (f.got n k).up.add (Gr.int _ 0)
  · have := f.small n k
    show s.got n k + _ ≤ s.hour + _
    split <;> grind
/-! ### nobody would rather have another's -/
/-- what n has of the kinds of l -/
def S.up (s : S) (n : Str) (l : List Str) : Rat := (l.map (s.got n)).sum
theorem sum_one (c : Prop) [Decidable c] (o : Option Str) (t : Rat) (f : Str → Rat) : ∀ l : List Str, l.Nodup →
    (l.map fun k => f k + if c ∧ o = some k then t else 0).sum = (l.map f).sum + if c ∧ ∃ k ∈ l, o = some k then t else 0
  | [], _ => by
    rw [if_neg (fun z => by obtain ⟨_, k, hk, _⟩ := z; cases hk)]
    show (0 : Rat) = 0 + 0
    grind
  | x :: l, h => by
    obtain ⟨h1, h2⟩ := List.nodup_cons.mp h
    have ih := sum_one c o t f l h2
    rw [List.map_cons, List.sum_cons, ih, List.map_cons, List.sum_cons]
    by_cases e : c ∧ o = some x
    · have n1 : ¬ (c ∧ ∃ k ∈ l, o = some k) := fun ⟨_, k, hk, z⟩ => h1 (by rw [e.2] at z; cases z; exact hk)
      rw [if_pos e, if_neg n1, if_pos ⟨e.1, x, List.mem_cons_self, e.2⟩]
      grind
    · rw [if_neg e]
      by_cases q : c ∧ ∃ k ∈ l, o = some k
      · obtain ⟨q1, k, q2, q3⟩ := id q
        rw [if_pos q, if_pos ⟨q1, k, List.mem_cons_of_mem _ q2, q3⟩]
        grind
      · have n2 : ¬ (c ∧ ∃ k ∈ x :: l, o = some k) := fun ⟨q1, k, q2, q3⟩ => by
          rcases List.mem_cons.mp q2 with z | z
          · subst z
            exact e ⟨q1, q3⟩
          · exact q ⟨q1, k, z, q3⟩
        rw [if_neg q, if_neg n2]
        grind
theorem up_nxt {n : Str} {l : List Str} (h : l.Nodup) : (s.nxt W).up n l = s.up n l + if n ∈ W.map (·.1) ∧ ∃ k ∈ l, s.meal W n = some k then s.step W else 0 :=
  sum_one (n ∈ W.map (fun q : Str × List Str => q.1)) (s.meal W n) (s.step W) (s.got n) l h
structure Fair (W : List (Str × List Str)) (s : S) : Prop where
  own : ∀ n ∈ W.map (·.1), ∀ j, s.up n ((wl W n).take j) = s.hour ∨ ∀ k ∈ (wl W n).take j, s.left k = 0
  all : ∀ n ∈ W.map (·.1), ∀ j m, s.up m ((wl W n).take j) ≤ s.up n ((wl W n).take j) ∧ s.up m ((wl W n).take j) ≤ s.hour
theorem find_take {left : Str → Rat} : ∀ {l : List Str} {j : Nat} {x : Str}, x ∈ l.take j → 0 < left x → ∃ k ∈ l.take j, meal left l = some k
  | [], j, x, h, _ => by simp at h
  | y :: l, 0, x, h, _ => by simp at h
  | y :: l, j + 1, x, h, hx => by
    unfold meal
    rw [List.find?_cons]
    by_cases e : 0 < left y
    · rw [decide_eq_true e]
      exact ⟨y, List.mem_cons_self, rfl⟩
    · rw [decide_eq_false e]
      rcases List.mem_cons.mp h with z | z
      · subst z
        exact absurd hx e
      · obtain ⟨k, hk, q⟩ := find_take z hx
        exact ⟨k, List.mem_cons_of_mem _ hk, q⟩
theorem fair_nxt {st : Str → Rat} (nd : ∀ n ∈ W.map (·.1), (wl W n).Nodup) (g : Good W st s) (f : Fair W s) (hh : s.hour < 1) : Fair W (s.nxt W) := by
  obtain ⟨p, _, _, _⟩ := step_spec (W := W) hh
  have ndt : ∀ n ∈ W.map (·.1), ∀ j, ((wl W n).take j).Nodup := fun n hn j => (nd n hn).sublist (List.take_sublist _ _)
  refine ⟨fun n hn j => ?_, fun n hn j m => ?_⟩
  · rw [up_nxt (ndt n hn j)]
    by_cases c : ∃ x ∈ (wl W n).take j, 0 < s.left x
    · obtain ⟨x, hx, hp⟩ := c
      obtain ⟨k, hk, e⟩ := find_take hx hp
      left
      rw [if_pos ⟨hn, k, hk, e⟩]
      rcases f.own n hn j with q | q
      · rw [q]
        rfl
      · have := q x hx
        grind
    · right
      intro k hk
      have h0 : s.left k = 0 := by
        have := g.nn k
        have : ¬ 0 < s.left k := fun z => c ⟨k, hk, z⟩
        grind
      have := (eat_step (W := W) (k := k) hh g.nn)
      show s.left k - _ = 0
      grind
  · obtain ⟨a1, a2⟩ := f.all n hn j m
    rw [up_nxt (ndt n hn j), up_nxt (ndt n hn j)]
    show _ ∧ _ ≤ s.hour + s.step W
    refine ⟨?_, ?_⟩
    · by_cases c : ∃ x ∈ (wl W n).take j, 0 < s.left x
      · obtain ⟨x, hx, hp⟩ := c
        obtain ⟨k, hk, e⟩ := find_take hx hp
        have e1 : (if n ∈ W.map (fun q : Str × List Str => q.1) ∧ ∃ k ∈ (wl W n).take j, s.meal W n = some k then s.step W else 0) = s.step W := if_pos ⟨hn, k, hk, e⟩
        rw [e1]
        split <;> grind
      · have off : ∀ i : Str, ¬ (i ∈ W.map (·.1) ∧ ∃ k ∈ (wl W n).take j, s.meal W i = some k) := fun i ⟨_, k, hk, e⟩ => c ⟨k, hk, (meal_some e).2⟩
        rw [if_neg (off m), if_neg (off n)]
        grind
    · split <;> grind
end
end Eat


set_option Elab.async false
set_option linter.all false
set_option maxHeartbeats 4000000
namespace Eat
open PySem
section
variable {W : List (Str × List Str)} {s : S} {st : Str → Rat} {ks : List Str}
def Own (W : List (Str × List Str)) (s : S) : Prop := ∀ n k, ¬ k ∈ wl W n → s.got n k = 0
theorem own_nxt (o : Own W s) : Own W (s.nxt W) := fun n k hk => by
  show s.got n k + _ = 0
  rw [o n k hk, if_neg (fun z => hk (meal_some z.2).1)]
  grind
structure All (W : List (Str × List Str)) (st : Str → Rat) (s : S) (i : Nat) : Prop where
  good : Good W st s
  fair : Fair W s
  fine : Fine i s
  own : Own W s
theorem run_all (hk : ∀ k, 0 < st k → k ∈ ks) (nd : ∀ n ∈ W.map (·.1), (wl W n).Nodup) (h6 : W.length ≤ 6) : ∀ (n : Nat) (s : S) (i : Nat), All W st s i → i + s.mu ks ≤ 8 → ∃ i', i' ≤ 8 ∧ All W st (run W n s) i'
  | 0, s, i, a, h => ⟨i, by omega, a⟩
  | n + 1, s, i, a, h => by
    show ∃ i', i' ≤ 8 ∧ All W st (if s.done W then s else run W n (s.nxt W)) i'
    by_cases c : s.done W
    · rw [if_pos c]
      exact ⟨i, by omega, a⟩
    · rw [if_neg c]
      have hh : s.hour < 1 := Classical.byContradiction fun z => c (.inl z)
      have l := mu_lt a.good hk c
      exact run_all hk nd h6 n (s.nxt W) (i + 1) ⟨good_nxt a.good hh, fair_nxt nd a.good a.fair hh, fine_nxt a.fine h6 hh, own_nxt a.own⟩ (by omega)
theorem gr_sum {i : Nat} {f : Str → Rat} : ∀ l : List Str, (∀ n ∈ l, Gr i (f n)) → Gr i (l.map f).sum
  | [], _ => Gr.int i 0
  | x :: l, h => by
    rw [List.map_cons, List.sum_cons]
    exact (h x List.mem_cons_self).add (gr_sum l fun n hn => h n (List.mem_cons_of_mem _ hn))
theorem sum_nn {f : Str → Rat} : ∀ l : List Str, (∀ n ∈ l, 0 ≤ f n) → 0 ≤ (l.map f).sum
  | [], _ => by show (0 : Rat) ≤ 0; decide
  | x :: l, h => by
    rw [List.map_cons, List.sum_cons]
    have := h x List.mem_cons_self
    have := sum_nn l fun n hn => h n (List.mem_cons_of_mem _ hn)
    grind
theorem sum_app {f : Str → Rat} (a b : List Str) : ((a ++ b).map f).sum = (a.map f).sum + (b.map f).sum := by
  induction a with
  | nil =>
    show _ = 0 + _
    rw [List.nil_append]
    grind
  | cons x a ih =>
    rw [List.cons_append, List.map_cons, List.sum_cons, ih, List.map_cons, List.sum_cons]
    grind
theorem sum_take {f : Str → Rat} (l : List Str) (h : ∀ n ∈ l, 0 ≤ f n) (j : Nat) : 0 ≤ ((l.take j).map f).sum ∧ ((l.take j).map f).sum ≤ (l.map f).sum := by
  have e : (l.map f).sum = ((l.take j).map f).sum + ((l.drop j).map f).sum := by rw [← sum_app, List.take_append_drop]
  have a := sum_nn (f := f) (l.take j) fun n hn => h n (List.mem_of_mem_take hn)
  have b := sum_nn (f := f) (l.drop j) fun n hn => h n (List.mem_of_mem_drop hn)
  exact ⟨a, by grind⟩
theorem sum_perm {f : Str → Rat} {a b : List Str} (p : a.Perm b) : (a.map f).sum = (b.map f).sum := by
  induction p with
  | nil => rfl
  | cons x _ ih => rw [List.map_cons, List.sum_cons, ih, List.map_cons, List.sum_cons]
  | swap x y l =>
    simp only [List.map_cons, List.sum_cons]
    grind
  | trans _ _ h1 h2 => exact h1.trans h2
theorem sum_filter {f : Str → Rat} (p : Str → Bool) : ∀ l : List Str, (∀ n ∈ l, p n = false → f n = 0) → ((l.filter p).map f).sum = (l.map f).sum
  | [], _ => rfl
  | x :: l, h => by
    have ih := sum_filter p l fun n hn => h n (List.mem_cons_of_mem _ hn)
    rw [List.filter_cons]
    by_cases c : p x = true
    · rw [if_pos c, List.map_cons, List.sum_cons, ih, List.map_cons, List.sum_cons]
    · rw [if_neg c, ih, List.map_cons, List.sum_cons, h x List.mem_cons_self (by simpa using c)]
      grind
/-- the sum over those with something is the sum over all -/
theorem sum_keys {f : Str → Rat} {R l : List Str} (nR : R.Nodup) (nl : l.Nodup) (h1 : ∀ k ∈ R, k ∈ l) (h2 : ∀ k ∈ l, ¬ k ∈ R → f k = 0) : (R.map f).sum = (l.map f).sum := by
  have p : R.Perm (l.filter fun k => decide (k ∈ R)) := by
    refine (List.perm_ext_iff_of_nodup nR (nl.sublist List.filter_sublist)).mpr fun k => ?_
    rw [List.mem_filter, decide_eq_true_iff]
    exact ⟨fun h => ⟨h1 k h, h⟩, fun h => h.2⟩
  rw [sum_perm p, sum_filter]
  intro n hn hp
  exact h2 n hn (by simpa using hp)
end
end Eat


set_option Elab.async false
set_option linter.all false
set_option maxRecDepth 100000
set_option maxHeartbeats 4000000
set_option pp.maxSteps 600
namespace Lk
open PySem L2
/-- the pairs of a dict keyed by texts -/
abbrev tK (L : List (Str × V)) : List (Key × V) := L.map fun q => (Sum.inr q.1, q.2)
theorem tK_val {L : List (Str × V)} {x : Str} {v : V} (hn : (L.map (·.1)).Nodup) (h : (x, v) ∈ L) : valV (tK L) (Sum.inr x) = some v := valV_map (fun v => v) hn h
theorem tK_none {L : List (Str × V)} {x : Str} (h : ¬ x ∈ L.map (·.1)) : valV (tK L) (Sum.inr x) = none := valV_none (fun v => v) h
theorem tK_new {L : List (Str × V)} {x : Str} (v : V) (h : ¬ x ∈ L.map (·.1)) : putK (tK L) (Sum.inr x) v = tK (L ++ [(x, v)]) := by
  rw [putK_new v (tK_none h)]
  show _ = List.map _ (L ++ [(x, v)])
  rw [List.map_append]
  rfl
/-- a key's value is changed -/
def put1 (L : List (Str × V)) (x : Str) (v : V) : List (Str × V) := L.map fun q => if q.1 = x then (q.1, v) else q
theorem put1_keys (L : List (Str × V)) (x : Str) (v : V) : (put1 L x v).map (·.1) = L.map (·.1) := by
  unfold put1
  rw [List.map_map]
  refine List.map_congr_left fun q _ => ?_
  show (if q.1 = x then (q.1, v) else q).1 = q.1
  split <;> rfl
theorem put1_mem {L : List (Str × V)} {x y : Str} {v u : V} (hn : (L.map (·.1)).Nodup) (h : (y, u) ∈ put1 L x v) : (y = x ∧ u = v) ∨ (y ≠ x ∧ (y, u) ∈ L) := by
  obtain ⟨q, hq, e⟩ := List.mem_map.mp h
  by_cases c : q.1 = x
  · rw [if_pos c] at e
    cases e
    exact .inl ⟨c, rfl⟩
  · rw [if_neg c] at e
    cases e
    exact .inr ⟨c, hq⟩
theorem tK_old {L : List (Str × V)} {x : Str} (v : V) (h : x ∈ L.map (·.1)) : putK (tK L) (Sum.inr x) v = tK (put1 L x v) := by
  unfold putK
  rw [if_pos]
  · unfold put1
    rw [List.map_map]
    show _ = List.map _ (List.map _ L)
    rw [List.map_map]
    refine List.map_congr_left fun q _ => ?_
    show (if (Sum.inr q.1 : Key) = Sum.inr x then ((Sum.inr q.1 : Key), v) else ((Sum.inr q.1 : Key), q.2)) = (Sum.inr (if q.1 = x then (q.1, v) else q).1, (if q.1 = x then (q.1, v) else q).2)
    by_cases c : q.1 = x
    · rw [if_pos c, if_pos (by rw [c])]
    · rw [if_neg c, if_neg (fun z => c (Sum.inr.inj z))]
  · obtain ⟨q, hq, e⟩ := List.mem_map.mp h
    exact List.any_eq_true.mpr ⟨(Sum.inr q.1, q.2), List.mem_map.mpr ⟨q, hq, rfl⟩, by simp [e]⟩
/-- a dict comprehension over whatever is walked -/
theorem dc_it {J : It} {n : Nat} {G : Hp → Prop} {Y : Nat → Hp → V → Hp → Prop} (w : Walk J n G Y) {g : TG} {tt : TT} {tk tv : TE} {vs : List Nat} {σ : L2.St} {H1 : Hp} {D : Addr} {Qd : Hp → Prop} (Pv : Nat → Hp → Prop) (h0 : Pv 0 (upd H1 D (.dK []))) (hG : ∀ i H, i ≤ n → Pv i H → G H)
    (hs : ∀ i x H H', i < n → Pv i H → Y i H x H' → g x (wipe σ vs) H' fun σ2 H2 => wipe σ2 vs = wipe σ vs ∧ tt σ2 H2 fun b H3 =>
      if b = true then tk σ2 H3 fun y H4 => tv σ2 H4 fun z H5 => ∃ kvs k, y = kV k ∧ H5 D = some (.dK kvs) ∧ kvs.length < sizeLine ∧ Pv (i + 1) (upd H5 D (.dK (putK kvs k z))) else Pv (i + 1) H3) (hd : ∀ H, Pv n H → Qd H) :
    ∃ W : Nat → Nat → Hp → Prop, (∃ m, W 0 m (upd H1 D (.dK []))) ∧ ∀ i m H, W i m H →
      (J.stop i H ∧ Qd H) ∨ (J.go i H ∧ ∃ Nx : Hp → Prop, (∀ H', Nx H' → ∃ m', m' < m ∧ W (i + 1) m' H') ∧ ∀ x H', J.yld i H x H' → g x (wipe σ vs) H' fun σ2 H2 => wipe σ2 vs = wipe σ vs ∧ tt σ2 H2 fun b H3 =>
        if b = true then tk σ2 H3 fun y H4 => tv σ2 H4 fun z H5 => ∃ kvs k, y = kV k ∧ H5 D = some (.dK kvs) ∧ kvs.length < sizeLine ∧ Nx (upd H5 D (.dK (putK kvs k z))) else Nx H3) := by
  refine ⟨fun i m H => m = n - i ∧ i ≤ n ∧ Pv i H, ⟨n, rfl, Nat.zero_le _, h0⟩, ?_⟩
  rintro i m H ⟨rfl, hi, p⟩
  rcases Nat.lt_or_ge i n with c | c
  · exact .inr ⟨w.goes i H c (hG i H hi p), Pv (i + 1), fun H' p' => ⟨n - (i + 1), by omega, rfl, c, p'⟩, fun x H' y => hs i x H H' c p (w.yields i H x H' c (hG i H hi p) y)⟩
  · obtain rfl : i = n := by omega
    exact .inl ⟨w.stops H (hG i H hi p), hd H p⟩
theorem getT_perm {L : List (Str × V)} {ys : List Str} {f : Str → V} (hn : (L.map (·.1)).Nodup) (hp : ys.Perm (L.map (·.1))) (hf : ∀ q ∈ L, f q.1 = q.2) : (ys.map fun y => (y, f y)).Perm L := by
  have h := hp.map fun y => (y, f y)
  rw [List.map_map] at h
  have e : L.map ((fun y => (y, f y)) ∘ fun q => q.1) = L := by
    have : ∀ q ∈ L, ((fun y => (y, f y)) ∘ fun (q : Str × V) => q.1) q = q := fun q hq => by
      show (q.1, f q.1) = q
      rw [hf q hq]
    exact (List.map_congr_left this).trans (List.map_id _)
  rw [e] at h
  exact h
/-- what is left of the kinds, in a dict of fractions -/
structure Lef (K : PySem.W.Frag) (H : Hp) (L : List (Str × V)) (f : Str → Rat) : Prop where
  nd : (L.map (·.1)).Nodup
  fr : ∀ q ∈ L, Fr K H q.2 (f q.1)
  off : ∀ k, ¬ k ∈ L.map (·.1) → f k = 0
  sz : ∀ k, Sz 64 (f k)
theorem Lef.same {K : PySem.W.Frag} {H H' : Hp} {L : List (Str × V)} {f : Str → Rat} (e : Same H H') (h : Lef K H L f) : Lef K H' L f := ⟨h.nd, fun q hq => (h.fr q hq).same e, h.off, h.sz⟩
def optV : Option Str → V
  | none => .non
  | some k => .str k
theorem fr01 {K : PySem.W.Frag} {H : Hp} {p : Addr} (h : H p = some (.tup [.int 0, .int 1])) : Fr K H (.ref p) 0 := ⟨p, rfl, SqT.of h⟩
theorem fr11 {K : PySem.W.Frag} {H : Hp} {p : Addr} (h : H p = some (.tup [.int 1, .int 1])) : Fr K H (.ref p) 1 := ⟨p, rfl, SqT.of h⟩
theorem frN1 {K : PySem.W.Frag} {H : Hp} {p : Addr} {n : Int} (h : H p = some (.tup [.int n, .int 1])) : Fr K H (.ref p) (n : Rat) := ⟨p, rfl, SqT.of h⟩
theorem fr1N {K : PySem.W.Frag} {H : Hp} {p : Addr} {n : Nat} (hn : 0 < n) (h : H p = some (.tup [.int 1, .int (n : Int)])) : Fr K H (.ref p) (1 / (n : Rat)) := by
  refine ⟨p, rfl, ?_⟩
  have e : (1 / (n : Rat)) = mkRat 1 n := by
    rw [Rat.mkRat_eq_div]
    rfl
  rw [e, Rat.num_mkRat, Rat.den_mkRat, if_neg (by omega), if_neg (by omega)]
  have g : Nat.gcd n (Int.natAbs 1) = 1 := by simp
  rw [g]
  simp only [Nat.div_one]
  exact SqT.of h
theorem dp_strs {K : PySem.W.Frag} {H : Hp} : ∀ ys : List Str, DpAll K H (ys.map V.str) (ys.map PyData.str)
  | [] => .nil
  | y :: ys => .cons (.str y) (dp_strs ys)
theorem name_ok {x : Str} (h : ∀ c ∈ x.cps.toList, c ∈ ("abcdefghijklmnopqrstuvwxyz" : Str).cps.toList) : PyData.strOk x = true := by
  unfold PyData.strOk
  rw [← Array.all_toList, List.all_eq_true]
  intro c hc
  have q : ∀ c ∈ ("abcdefghijklmnopqrstuvwxyz" : Str).cps.toList, c < 0x110000 := by decide +kernel
  exact decide_eq_true (q c (h c hc))
theorem strs_lay : ∀ {ys : List Str}, (∀ y ∈ ys, ∀ c ∈ y.cps.toList, c ∈ ("abcdefghijklmnopqrstuvwxyz" : Str).cps.toList) → PyData.canLayAll0 (ys.map PyData.str) = true ∧ PyData.depthAll (ys.map PyData.str) = 0
  | [], _ => ⟨rfl, rfl⟩
  | y :: ys, h => by
    obtain ⟨h1, h2⟩ := strs_lay (ys := ys) fun z hz => h z (List.mem_cons_of_mem _ hz)
    refine ⟨?_, ?_⟩
    · show (PyData.canLay0 (.str y) && PyData.canLayAll0 (ys.map PyData.str)) = true
      rw [h1, Bool.and_true]
      exact name_ok (h y List.mem_cons_self)
    · show max (PyData.depth (.str y)) (PyData.depthAll (ys.map PyData.str)) = 0
      rw [h2]
      rfl
theorem strs_shaped {ys : List Str} (h : ∀ y ∈ ys, ∀ c ∈ y.cps.toList, c ∈ ("abcdefghijklmnopqrstuvwxyz" : Str).cps.toList) : SeqAt.shaped (.list (ys.map PyData.str)) = true := by
  obtain ⟨h1, h2⟩ := strs_lay h
  show (PyData.canLayAll0 (ys.map PyData.str) && decide (PyData.depthAll (ys.map PyData.str) + 1 ≤ 64)) = true
  rw [h1, h2]
  rfl
theorem sz0 : Sz 64 0 := ⟨by show 0 < 2 ^ 64; decide, by show 1 < 2 ^ 64; decide⟩
theorem sz1 : Sz 64 1 := ⟨by show 1 < 2 ^ 64; decide, by show 1 < 2 ^ 64; decide⟩
/-- the value that get hands back, a fraction -/
theorem lef_get {K : PySem.W.Frag} {H : Hp} {L : List (Str × V)} {f : Str → Rat} {k : Str} {z : V} (h : Lef K H L f) (hz : Fr K H z 0) : Fr K H ((valV (tK L) (Sum.inr k)).getD z) (f k) := by
  by_cases c : k ∈ L.map (·.1)
  · obtain ⟨q, hq, e⟩ := List.mem_map.mp c
    subst e
    rw [tK_val h.nd (show (q.1, q.2) ∈ L from hq)]
    exact h.fr q hq
  · rw [tK_none c, h.off k c]
    exact hz
end Lk
namespace K79
open PySem L2 Lk Eat
def spLeastOf (K : PySem.W.Frag) : Sp := fun vs H Q _ => ∃ (a : Addr) (xs : List V) (m : Rat) (l : List Rat), vs = [.ref a] ∧ SqL K H a xs ∧ Paired (Fr K H) xs (m :: l) ∧ (∀ q ∈ m :: l, Sz 64 q) ∧ ∀ H' v, Same H H' → Fr K H' v (l.foldl least m) → Q v H'
def spInOrder (K : PySem.W.Frag) : Sp := fun vs H Q _ => ∃ (a : Addr) (L : List (Str × V)), vs = [.ref a] ∧ Rd H a (.dK (tK L)) ∧ (L.map (·.1)).Nodup ∧ L.length < 64 ∧ ∀ H' p L', Same H H' → H p = none → H' p = some (.dK (tK L')) → L'.Perm L → Q (.ref p) H'
def spMeal (K : PySem.W.Frag) : Sp := fun vs H Q _ => ∃ (d c a : Addr) (W : List (Str × Addr × List Str)) (n : Str) (l : List Str) (L : List (Str × V)) (f : Str → Rat), vs = [.ref d, .ref c, .str n] ∧ Wis K H d W ∧ (W.map (·.1)).Nodup ∧ (n, a, l) ∈ W ∧ Rd H c (.dK (tK L)) ∧ Lef K H L f ∧
  l.length ≤ 60 ∧ (∀ x ∈ l, NameOk x) ∧ ∀ H', Same H H' → Q (optV (meal f l)) H'
section
variable {P : Program} {w : World} {K : PySem.W.Frag} {mg : Str → Option Value} {base : Heap}
theorem ok_least_of (T : Th K mg) : FnOk P w K mg base CX0 2 T.f_least_of T.d_least_of ["some"] (spLeastOf K) := by
  have G_is_below : FnOk P w K mg base CX0 1 T.f_is_below T.d_is_below ["one", "other"] (spLess K) := ok_is_below T
  refine T.F_least_of.ok sc_least_of (fun vs H Q E h => ?_) (fun cdv A outer s H vs Q E hr h => ?_)
  · obtain ⟨a, xs, m, l, rfl, _⟩ := h
    rfl
  · obtain ⟨a, xs, m, l, rfl, hs, hp, hz, k⟩ := h
    refine ⟨_, (pss_cons (ps_set (i := 1) sc_least_of.nd rfl (Or.inl rfl) (pe_ix ix_list (pv 0) pe_int (fun _ _ => rfl)))
      (pss_cons (ps_for PassesOwn.never rfl (pi_list (pv 0)) (pg_name (i := 2) sc_least_of.nd rfl (Or.inl rfl))
        (pss_one (ps_set (i := 1) sc_least_of.nd rfl (Or.inl rfl) (pe_ifExp (pt_val (pe_call G_is_below (hr.mono (by decide)) rfl T.g_is_below T.F_is_below.kp T.b_is_below .nil pass0 (pa_cons (pv 2) (pa_cons (pv 1) pa_nil)))) (pv 2) (pv 1)))))
      (pss_one (ps_ret (pv 1))))), ?_⟩
    have get : ∀ {i : Nat} {x : V}, xs[i]? = some x → ∃ q, (m :: l)[i]? = some q ∧ Fr K H x q := fun {i x} h => LiI.paired_get hp h
    obtain ⟨x0, xs', rfl⟩ : ∃ x0 xs', xs = x0 :: xs' := by
      cases hp with
      | cons h t => exact ⟨_, _, rfl⟩
    have hlen : (x0 :: xs').length = (m :: l).length := Paired.length hp
    obtain ⟨q0, e0, f0⟩ := get (i := 0) rfl
    cases e0
    refine ⟨_, rfl, a, _, _, _, rfl, rfl, hs, at_of (j := 0) rfl rfl, ?_⟩
    refine ⟨_, rfl, a, rfl, ⟨_, hs⟩, for_it (walk_list (xs := x0 :: xs')) (fun i σ H' => ∃ (v : V) (o : Option V), σ = [some (.ref a), some v, o] ∧ Same H H' ∧ Fr K H v (((m :: l).take i).foldl least m) ∧ Sz 64 (((m :: l).take i).foldl least m)) ⟨x0, none, rfl, Same.refl H, f0, hz m List.mem_cons_self⟩ (fun i σ H' _ h => ?_) ?_ ?_⟩
    · obtain ⟨_, _, _, s1, _⟩ := h
      exact s1.seq hs
    · rintro i x σ H1 H1' hi ⟨v, o, rfl, s1, fv, zv⟩ ⟨rfl, hx⟩
      obtain ⟨q, eq, fq⟩ := get hx
      have et : ((m :: l).take (i + 1)).foldl least m = least (((m :: l).take i).foldl least m) q := by
        rw [List.take_add_one, eq]
        show (List.take i (m :: l) ++ [q]).foldl least m = _
        rw [List.foldl_append]
        rfl
      have zq := hz q (List.mem_of_getElem? eq)
      refine ⟨_, rfl, _, rfl, _, _, q, _, rfl, fq.same s1, fv.same s1, zq, zv, fun H2 s2 => ⟨_, rfl, ?_⟩⟩
      by_cases c : q < ((m :: l).take i).foldl least m
      · rw [decide_eq_true c]
        refine iteT ⟨_, rfl, x, _, rfl, s1.trans s2, ?_⟩
        rw [et, show least (((m :: l).take i).foldl least m) q = q from if_pos c]
        exact ⟨fq, zq⟩
      · rw [decide_eq_false c]
        refine iteF ⟨_, rfl, v, _, rfl, s1.trans s2, ?_⟩
        rw [et, show least (((m :: l).take i).foldl least m) q = ((m :: l).take i).foldl least m from if_neg c]
        exact ⟨fv, zv⟩
    · rintro σ H1 ⟨v, o, rfl, s1, fv, _⟩
      refine ⟨_, rfl, k H1 v s1 ?_⟩
      rw [hlen, List.take_length] at fv
      have e : (m :: l).foldl least m = l.foldl least m := by
        rw [List.foldl_cons]
        have : least m m = m := by unfold least; split <;> rfl
        rw [this]
      rw [e] at fv
      exact fv.same s1
theorem ok_in_order (T : Th K mg) : FnOk P w K mg base CX0 1 T.f_in_order T.d_in_order ["row"] (spInOrder K) := by
  refine T.F_in_order.ok sc_in_order (fun vs H Q E h => ?_) (fun cdv A outer s H vs Q E hr h => ?_)
  · obtain ⟨a, L, rfl, _⟩ := h
    rfl
  · obtain ⟨a, L, rfl, hd, hn, h64, k⟩ := h
    have hu := hu_of hr
    refine ⟨_, (pss_one (ps_ret (pe_dc (own := [("kind", 1)]) rfl sc_in_order.nd (pi_list (pe_callB (call_sortedD rfl) (by rfl) T.n_sorted (by decide +kernel) (pa_cons (pv 0) pa_nil))) (blkOk_by (own := [("kind", 1)]) (N := N_in_order) (sc := defScope s_in_order) (by decide +kernel)) (fun _ _ _ _ _ => pg_name (i := 1) sc_in_order.nd rfl (Or.inl rfl)) (fun _ _ _ _ _ => pts_nil) (fun _ _ _ _ _ => pv 1) (fun _ _ _ _ _ => pe_dget hu (pv 0) (pv 1) (fun _ _ => rfl))))), ?_⟩
    refine ⟨_, rfl, a, tK L, L.map (·.1), rfl, hd, by rw [List.map_map, List.map_map]; rfl, by rw [List.length_map]; exact h64, fun ys p hp hsrt hpn => ⟨p, rfl, ⟨_, SqL.of upd_same⟩, fun D hD => ?_⟩⟩
    have ndy : ys.Nodup := hp.nodup_iff.mpr hn
    have hsz : L.length < sizeLine := Nat.lt_of_lt_of_le h64 (by decide)
    let f : Str → V := fun x => (valV (tK L) (Sum.inr x)).getD .non
    have ff : ∀ q ∈ L, f q.1 = q.2 := fun q hq => by
      show (valV (tK L) (Sum.inr q.1)).getD .non = q.2
      rw [tK_val hn (show (q.1, q.2) ∈ L from hq)]
      rfl
    have s0 := Same.new (o := .lst (ys.map V.str)) hpn
    have hpD : p ≠ D := ne_of_none upd_same hD
    have rdm : ∀ {H1 : Hp}, Same H H1 → Rd H1 a (.dK (tK L)) := fun {H1} s1 => by
      rcases hd with h | ⟨o, h⟩
      · exact .inl (s1 _ _ h)
      · exact .inr ⟨o, s1 _ _ h⟩
    refine dc_it (walk_list (xs := ys.map V.str)) (fun i H' => Same (upd H p (.lst (ys.map V.str))) H' ∧ H' D = some (.dK (tK ((ys.take i).map fun y => (y, f y))))) ⟨Same.new hD, upd_same⟩ (fun i H' _ h => SqL.of (h.1 _ _ upd_same)) ?_ ?_
    · rintro i v H1 H1' hi ⟨s1, e1⟩ ⟨rfl, hv⟩
      rw [List.getElem?_map] at hv
      obtain ⟨x, ex, rfl⟩ := Option.map_eq_some_iff.mp hv
      have hx : x ∈ L.map (·.1) := hp.mem_iff.mp (List.mem_of_getElem? ex)
      obtain ⟨q, hq, rfl⟩ := List.mem_map.mp hx
      refine ⟨rfl, _, rfl, _, rfl, _, rfl, a, q.2, rfl, ?_, tK ((ys.take i).map fun y => (y, f y)), Sum.inr q.1, rfl, e1, ?_, ?_, ?_⟩
      · have g := DGet.rd (x := q.1) (rdm (s0.trans s1))
        rw [tK_val hn (show (q.1, q.2) ∈ L from hq)] at g
        exact g
      · rw [List.length_map, List.length_map]
        refine Nat.lt_of_le_of_lt (List.length_take_le' i ys) ?_
        rw [hp.length_eq, List.length_map]
        exact hsz
      · exact Same.mut s1 hD
      · rw [upd_same]
        have nin : ¬ q.1 ∈ ((ys.take i).map fun y => (y, f y)).map (·.1) := by
          rw [List.map_map]
          intro z
          have z' : q.1 ∈ ys.take i := by simpa [Function.comp_def] using z
          obtain ⟨j, hj, ej⟩ := List.mem_iff_getElem?.mp z' |>.imp fun j h => (⟨(List.getElem?_eq_some_iff.mp h).1, h⟩ : j < (ys.take i).length ∧ _)
          rw [List.getElem?_take_of_lt (by rw [List.length_take] at hj; omega)] at ej
          have := nd_ix ndy ej ex
          rw [List.length_take] at hj
          omega
        rw [tK_new q.2 nin, List.take_add_one, ex]
        simp only [Option.toList_some, List.map_append, List.map_cons, List.map_nil, ff q hq]
    · rintro H1 ⟨s1, e1⟩
      rw [List.length_map, List.take_length] at e1
      exact k H1 D _ (s0.trans s1) (s0.free hD) e1 (getT_perm hn hp ff)
theorem ok_meal_of (T : Th K mg) : FnOk P w K mg base CX0 2 T.f_meal_of T.d_meal_of ["wishes", "left", "name"] (spMeal K) := by
  have G_is_below : FnOk P w K mg base CX0 1 T.f_is_below T.d_is_below ["one", "other"] (spLess K) := ok_is_below T
  refine T.F_meal_of.ok sc_meal_of (fun vs H Q E h => ?_) (fun cdv A outer s H vs Q E hr h => ?_)
  · obtain ⟨d, c, a, W, n, l, L, f, rfl, _⟩ := h
    rfl
  · obtain ⟨d, c, a, W, n, l, L, f, rfl, ⟨⟨o, hd⟩, hW⟩, hn, hm, hc, hf, hl, hnm, k⟩ := h
    have hu := hu_of hr
    have rdm : ∀ {H1 : Hp}, Same H H1 → Rd H1 c (.dK (tK L)) := fun {H1} s1 => by
      rcases hc with h | ⟨o, h⟩
      · exact .inl (s1 _ _ h)
      · exact .inr ⟨o, s1 _ _ h⟩
    have hs : SqL K H a (l.map V.str) := hW _ hm
    have g0 := DGet.rd (x := n) (frz_rd ⟨o, hd⟩)
    rw [valV_map (fun (z : Addr × List Str) => V.ref z.1) hn hm] at g0
    refine ⟨_, (pss_cons (ps_setLc (i := 3) (own := [("kind", 4)]) rfl sc_meal_of.nd rfl rfl (sw_true rfl rfl rfl (by decide +kernel)) (pi_list (pe_dget hu (pv 0) (pv 2) (fun _ _ => rfl))) (blkOk_by (own := [("kind", 4)]) (N := N_meal_of) (sc := defScope s_meal_of) (by decide +kernel)) (fun _ _ _ _ _ => pg_name (i := 4) sc_meal_of.nd rfl (Or.inl rfl)) (fun _ _ _ _ _ => pts_one (pt_val (pe_call G_is_below (hr.mono (by decide)) rfl T.g_is_below T.F_is_below.kp T.b_is_below .nil pass0 (pa_cons (pe_tup (pa_cons pe_int (pa_cons pe_int pa_nil))) (pa_cons (pe_dget2 hu (pv 1) (pv 4) (pe_tup (pa_cons pe_int (pa_cons pe_int pa_nil))) ⟨rfl, rfl, rfl, rfl⟩) pa_nil))))) (fun _ _ _ _ _ => pv 4))
      (pss_one (ps_ret (pe_ifExp (pt_cmpR (op_neD hr.units) (pv 3) (pe_lst pa_nil) (nomark _)) (pe_ix ix_list (pv 3) pe_int (fun _ _ => rfl)) pe_non)))), ?_⟩
    refine ⟨_, rfl, _, rfl, d, V.ref a, rfl, g0, a, rfl, ⟨_, hs⟩, fun D hD => lc_it (walk_list (xs := l.map V.str)) (fun i H' => Same H H' ∧ H' D = some (.lst (((l.take i).filter fun k => decide (0 < f k)).map V.str))) ⟨Same.new hD, upd_same⟩ (fun i H' _ h => h.1.seq hs) ?_ ?_⟩
    · rintro i v H1 H1' hi ⟨s1, e1⟩ ⟨rfl, hv⟩
      rw [List.getElem?_map] at hv
      obtain ⟨x, ex, rfl⟩ := Option.map_eq_some_iff.mp hv
      refine ⟨rfl, two_le, fun p hp => ⟨_, rfl, c, rfl, .inl ⟨_, rdm (s1.trans (Same.new hp))⟩, _, rfl, two_le, fun q hq => ?_⟩⟩
      · have s2 := s1.trans (Same.new (o := .tup [.int 0, .int 1]) hp)
        have s3 := s2.trans (Same.new (o := .tup [.int 0, .int 1]) hq)
        refine ⟨_, DGet.rd (rdm s3), ?_⟩
        have f0 : Fr K (upd (upd H1' p (.tup [.int 0, .int 1])) q (.tup [.int 0, .int 1])) (.ref p) 0 := (fr01 upd_same).same (Same.new hq)
        have f1 : Fr K (upd (upd H1' p (.tup [.int 0, .int 1])) q (.tup [.int 0, .int 1])) (.ref q) 0 := fr01 upd_same
        have fx := lef_get (k := x) (hf.same s3) f1
        refine ⟨_, _, 0, f x, rfl, f0, fx, sz0, hf.sz x, fun H2 s4 => ⟨_, rfl, ?_⟩⟩
        have e2 : H2 D = some (.lst (((l.take i).filter fun k => decide (0 < f k)).map V.str)) := s4 _ _ (Same.new hq _ _ (Same.new hp _ _ e1))
        have et : (l.take (i + 1)).filter (fun k => decide (0 < f k)) = (l.take i).filter (fun k => decide (0 < f k)) ++ if decide (0 < f x) = true then [x] else [] := by
          rw [List.take_add_one, ex]
          simp only [Option.toList_some, List.filter_append, List.filter_cons, List.filter_nil]
        by_cases cx : 0 < f x
        · rw [decide_eq_true cx]
          refine iteT ⟨_, rfl, _, e2, ?_, ?_, ?_⟩
          · rw [List.length_map]
            have h1 := List.length_filter_le (fun k => decide (0 < f k)) (l.take i)
            have h2 := List.length_take_le' i l
            exact Nat.lt_of_le_of_lt (Nat.le_trans h1 (Nat.le_trans h2 hl)) (by decide)
          · exact Same.mut (s3.trans s4) hD
          · rw [upd_same, et, if_pos (decide_eq_true cx), List.map_append]
            rfl
        · rw [decide_eq_false cx]
          refine iteF ⟨s3.trans s4, ?_⟩
          rw [e2, et, if_neg (by simp [cx]), List.append_nil]
    · rintro H1 ⟨s1, e1⟩
      rw [List.length_map, List.take_length] at e1
      refine ⟨_, rfl, by decide, fun p hp => ?_⟩
      have s2 := s1.trans (Same.new (o := .lst []) hp)
      have e2 : (upd H1 p (.lst [])) D = some (.lst ((l.filter fun k => decide (0 < f k)).map V.str)) := by rw [upd_ne (ne_of_none e1 hp)]; exact e1
      have em : meal f l = (l.filter fun k => decide (0 < f k)).head? := by
        unfold meal
        rw [List.head?_filter]
      cases hl2 : l.filter fun k => decide (0 < f k) with
      | nil =>
        rw [hl2] at e2 em
        refine ⟨.list [], .list [], .lst (SqL.of e2) .nil, .lst (SqL.of upd_same) .nil, rfl, rfl, ?_⟩
        rw [eqv_nil]
        refine ⟨_, rfl, iteF ?_⟩
        have q := k _ s2
        rw [em] at q
        exact q
      | cons x r =>
        rw [hl2] at e2 em
        refine ⟨.list ((x :: r).map PyData.str), .list [], .lst (SqL.of e2) (dp_strs _), .lst (SqL.of upd_same) .nil, strs_shaped fun y hy => (hnm y ?_).2.2, rfl, ?_⟩
        · have hy2 : y ∈ l.filter fun k => decide (0 < f k) := by rw [hl2]; exact hy
          exact (List.mem_filter.mp hy2).1
        · rw [show PyData.eqv (.list ((x :: r).map PyData.str)) (.list []) = false from rfl]
          refine ⟨_, rfl, iteT ?_⟩
          refine ⟨_, rfl, D, _, _, _, rfl, rfl, SqL.of e2, at_of (j := 0) rfl rfl, ?_⟩
          have q := k _ s2
          rw [em] at q
          exact q
end
end K79


set_option Elab.async false
set_option linter.all false
set_option maxRecDepth 100000
set_option maxHeartbeats 4000000
set_option pp.maxSteps 600
namespace Lk
open PySem L2
def rLenQ (K : PySem.W.Frag) : List V → Hp → VK → Prop := fun xs H Q => ∃ p ys, xs = [V.ref p] ∧ (SqL K H p ys ∨ SqT K H p ys) ∧ Q (.int ys.length) H
theorem call_lenQ {X : Cx} {K : PySem.W.Frag} (h : X.K = K := by rfl) : CallR X (.builtin "len") (rLenQ K) := by
  subst h
  exact call_len_seq
/-- all stays but the dicts that may be written -/
def SamD (H H' : Hp) : Prop := ∀ b u, H b = some u → (∀ k, u ≠ .dK k) → H' b = some u
theorem SamD.refl (H : Hp) : SamD H H := fun _ _ h _ => h
theorem SamD.of {H H' : Hp} (e : Same H H') : SamD H H' := fun b u h _ => e b u h
theorem SamD.trans {H H1 H2 : Hp} (a : SamD H H1) (b : SamD H1 H2) : SamD H H2 := fun c u h n => b c u (a c u h n) n
theorem SamD.put {H H' : Hp} {a : Addr} {k k' : List (Key × V)} (e : SamD H H') (ha : H' a = some (.dK k)) : SamD H (upd H' a (.dK k')) := fun b u h n => by
  have q := e b u h n
  have ne : b ≠ a := fun z => by
    subst z
    rw [ha] at q
    cases q
    exact n _ rfl
  rw [upd_ne ne]
  exact q
theorem SamD.putA {H H' : Hp} {a : Addr} {k : List (Key × V)} {o : HO} (e : SamD H H') (ha : H' a = some (.dK k)) : SamD H (upd H' a o) := fun b u h n => by
  have q := e b u h n
  have ne : b ≠ a := fun z => by
    subst z
    rw [ha] at q
    cases q
    exact n _ rfl
  rw [upd_ne ne]
  exact q
theorem SamD.put1 {H : Hp} {a : Addr} {k k' : List (Key × V)} (ha : H a = some (.dK k)) : SamD H (upd H a (.dK k')) := (SamD.refl H).put ha
section
variable {K : PySem.W.Frag} {H H' : Hp}
theorem SamD.tup (e : SamD H H') {p : Addr} {xs : List V} (h : SqT K H p xs) : SqT K H' p xs := by
  rcases h with (h | ⟨o, h⟩) | h
  · exact .inl (.inl (e _ _ h fun k z => nomatch z))
  · exact .inl (.inr ⟨o, e _ _ h fun k z => nomatch z⟩)
  · exact .inr h
theorem SamD.seq (e : SamD H H') {p : Addr} {xs : List V} (h : SqL K H p xs) : SqL K H' p xs := by
  rcases h with (h | ⟨o, h⟩) | h
  · exact .inl (.inl (e _ _ h fun k z => nomatch z))
  · exact .inl (.inr ⟨o, e _ _ h fun k z => nomatch z⟩)
  · exact .inr h
theorem SamD.fr (e : SamD H H') {v : V} {q : Rat} (h : Fr K H v q) : Fr K H' v q := by
  obtain ⟨p, rfl, h⟩ := h
  exact ⟨p, rfl, e.tup h⟩
theorem SamD.frz (e : SamD H H') {p : Addr} {o : Obj} {u : HO} (h : H p = some (.frz o u)) : H' p = some (.frz o u) := e _ _ h fun k z => nomatch z
theorem Fr.updL {D : Addr} {xs ys : List V} (e : H D = some (.lst xs)) {v : V} {q : Rat} (h : Fr K H v q) : Fr K (upd H D (.lst ys)) v q := by
  obtain ⟨p, rfl, h⟩ := h
  refine ⟨p, rfl, ?_⟩
  rcases h with (h | ⟨o, h⟩) | h
  · refine .inl (.inl ?_)
    rw [upd_ne (fun z => by subst z; rw [e] at h; cases h)]
    exact h
  · refine .inl (.inr ⟨o, ?_⟩)
    rw [upd_ne (fun z => by subst z; rw [e] at h; cases h)]
    exact h
  · exact .inr h
theorem Lef.samD (e : SamD H H') {L : List (Str × V)} {f : Str → Rat} (h : Lef K H L f) : Lef K H' L f := ⟨h.nd, fun q hq => e.fr (h.fr q hq), h.off, h.sz⟩
/-- the function is changed at a kind -/
def chF (f : Str → Rat) (k : Str) (y : Rat) : Str → Rat := fun x => if x = k then y else f x
theorem Lef.add {L : List (Str × V)} {f : Str → Rat} {k : Str} {v : V} {y : Rat} (h : Lef K H L f) (hv : Fr K H v y) (hz : Sz 64 y) (hk : ¬ k ∈ L.map (·.1)) : Lef K H (L ++ [(k, v)]) (chF f k y) := by
  refine ⟨?_, fun q hq => ?_, fun x hx => ?_, fun x => ?_⟩
  · rw [List.map_append]
    exact List.nodup_append.mpr ⟨h.nd, List.nodup_cons.mpr ⟨(fun z => nomatch z), List.nodup_nil⟩, fun a ha b hb e => hk (by
      rcases List.mem_cons.mp hb with z | z
      · rw [← show b = k from z, ← e]; exact ha
      · cases z)⟩
  · rcases List.mem_append.mp hq with q1 | q1
    · have ne : q.1 ≠ k := fun z => hk (z ▸ List.mem_map.mpr ⟨q, q1, rfl⟩)
      unfold chF
      rw [if_neg ne]
      exact h.fr q q1
    · rcases List.mem_cons.mp q1 with z | z
      · subst z
        unfold chF
        rw [if_pos rfl]
        exact hv
      · cases z
  · rw [List.map_append] at hx
    have n1 : x ≠ k := fun z => hx (by rw [z]; exact List.mem_append.mpr (.inr List.mem_cons_self))
    unfold chF
    rw [if_neg n1]
    exact h.off x fun z => hx (List.mem_append.mpr (.inl z))
  · unfold chF
    split
    · exact hz
    · exact h.sz x
theorem Lef.old {L : List (Str × V)} {f : Str → Rat} {k : Str} {v : V} {y : Rat} (h : Lef K H L f) (hv : Fr K H v y) (hz : Sz 64 y) (hk : k ∈ L.map (·.1)) : Lef K H (put1 L k v) (chF f k y) := by
  refine ⟨by rw [put1_keys]; exact h.nd, fun q hq => ?_, fun x hx => ?_, fun x => ?_⟩
  · obtain ⟨y1, u⟩ := q
    rcases put1_mem h.nd hq with ⟨rfl, rfl⟩ | ⟨ne, q1⟩
    · unfold chF
      rw [if_pos rfl]
      exact hv
    · unfold chF
      rw [if_neg ne]
      exact h.fr _ q1
  · rw [put1_keys] at hx
    have n1 : x ≠ k := fun z => hx (by rw [z]; exact hk)
    unfold chF
    rw [if_neg n1]
    exact h.off x hx
  · unfold chF
    split
    · exact hz
    · exact h.sz x
theorem Lef.perm {L L' : List (Str × V)} {f : Str → Rat} (h : Lef K H L f) (p : L'.Perm L) : Lef K H L' f := by
  have pk := p.map (·.1)
  exact ⟨pk.nodup_iff.mpr h.nd, fun q hq => h.fr q (p.mem_iff.mp hq), fun k hk => h.off k fun z => hk (pk.mem_iff.mpr z), h.sz⟩
theorem sub_len {ks ys : List Str} (nd : ys.Nodup) (h : ∀ k ∈ ys, k ∈ ks) : ys.length ≤ ks.length := List.Nodup.length_le_of_subset nd fun {a} ha => h a ha
theorem Lef.get {L : List (Str × V)} {f : Str → Rat} {a : Addr} {k : Str} (h : Lef K H L f) (ha : H a = some (.dK (tK L))) (hk : k ∈ L.map (·.1)) : ∃ v, DGet H a (.str k) (some v) ∧ Fr K H v (f k) := by
  obtain ⟨⟨k, v⟩, hq, rfl⟩ := List.mem_map.mp hk
  refine ⟨v, ?_, h.fr _ hq⟩
  have g := DGet.rd (x := k) (.inl ha)
  rw [tK_val h.nd hq] at g
  exact g
/-- a row of shares: its kinds are those that it has something of -/
def Row (K : PySem.W.Frag) (H : Hp) (a : Addr) (ks : List Str) (f : Str → Rat) : Prop := ∃ R : List (Str × V), H a = some (.dK (tK R)) ∧ Lef K H R f ∧ ∀ k ∈ R.map (·.1), 0 < f k ∧ k ∈ ks
theorem Row.samD {a : Addr} {ks : List Str} {f : Str → Rat} (e : SamD H H') (ha : H' a = H a) (h : Row K H a ks f) : Row K H' a ks f := by
  obtain ⟨R, h1, h2, h3⟩ := h
  exact ⟨R, ha.trans h1, h2.samD e, h3⟩
theorem Row.same {a : Addr} {ks : List Str} {f : Str → Rat} (e : Same H H') (h : Row K H a ks f) : Row K H' a ks f := by
  obtain ⟨R, h1, h2, h3⟩ := h
  exact ⟨R, e _ _ h1, h2.same e, h3⟩
theorem Row.nil {a : Addr} {ks : List Str} (h : H a = some (.dK [])) : Row K H a ks fun _ => 0 := ⟨[], h, ⟨List.nodup_nil, (fun q z => nomatch z), fun _ _ => rfl, fun _ => sz0⟩, fun k z => nomatch z⟩
theorem Row.get {a : Addr} {ks : List Str} {f : Str → Rat} {k : Str} {z : V} (h : Row K H a ks f) (hz : Fr K H z 0) : ∃ o, DGet H a (.str k) o ∧ Fr K H (o.getD z) (f k) := by
  obtain ⟨R, h1, h2, h3⟩ := h
  exact ⟨_, DGet.rd (.inl h1), lef_get h2 hz⟩
theorem Row.put {a : Addr} {ks : List Str} {f : Str → Rat} {k : Str} {v : V} {y : Rat} (h : Row K H a ks f) (hv : Fr K H v y) (hy : 0 < y) (hz : Sz 64 y) (hk : k ∈ ks) (hl : ks.length < 1000) :
    ∃ H', DPut H a (.str k) v H' ∧ SamD H H' ∧ (∀ b, b ≠ a → H' b = H b) ∧ Row K H' a ks (chF f k y) := by
  obtain ⟨R, h1, h2, h3⟩ := h
  have hs : R.length < sizeLine := by
    have := sub_len h2.nd fun k hk => (h3 k hk).2
    rw [List.length_map] at this
    exact Nat.lt_trans (Nat.lt_of_le_of_lt this hl) (by decide)
  refine ⟨_, .inl ⟨_, Sum.inr k, h1, rfl, by rw [List.length_map]; exact hs, rfl⟩, SamD.put1 h1, fun b hb => upd_ne hb, ?_⟩
  have pos : ∀ x, (x = k ∨ x ∈ R.map (·.1)) → 0 < chF f k y x ∧ x ∈ ks := fun x hx => by
    unfold chF
    by_cases c : x = k
    · rw [if_pos c, c]
      exact ⟨hy, hk⟩
    · rw [if_neg c]
      exact h3 x (hx.resolve_left c)
  by_cases c : k ∈ R.map (·.1)
  · refine ⟨put1 R k v, by rw [upd_same, tK_old v c], (h2.old hv hz c).samD (SamD.put1 h1), fun x hx => pos x ?_⟩
    rw [put1_keys] at hx
    exact .inr hx
  · refine ⟨R ++ [(k, v)], by rw [upd_same, tK_new v c], (h2.add hv hz c).samD (SamD.put1 h1), fun x hx => pos x ?_⟩
    rw [List.map_append] at hx
    rcases List.mem_append.mp hx with z | z
    · exact .inr z
    · rcases List.mem_cons.mp z with z | z
      · exact .inl z
      · cases z
/-- the rows of shares of the names of M -/
structure Shs (K : PySem.W.Frag) (H : Hp) (M : List (Str × Addr)) (ks : List Str) (g : Str → Str → Rat) : Prop where
  nd : (M.map (·.1)).Nodup
  ad : (M.map (·.2)).Nodup
  row : ∀ q ∈ M, Row K H q.2 ks (g q.1)
abbrev mK (M : List (Str × Addr)) : List (Str × V) := M.map fun q => (q.1, V.ref q.2)
theorem mK_keys (M : List (Str × Addr)) : (mK M).map (·.1) = M.map (·.1) := by rw [List.map_map]; rfl
theorem Shs.same {M : List (Str × Addr)} {ks : List Str} {g : Str → Str → Rat} (e : Same H H') (h : Shs K H M ks g) : Shs K H' M ks g := ⟨h.nd, h.ad, fun q hq => (h.row q hq).same e⟩
theorem Shs.samD {M : List (Str × Addr)} {ks : List Str} {g : Str → Str → Rat} (e : SamD H H') (hM : ∀ q ∈ M, H' q.2 = H q.2) (h : Shs K H M ks g) : Shs K H' M ks g := ⟨h.nd, h.ad, fun q hq => (h.row q hq).samD e (hM q hq)⟩
theorem Shs.congr {M : List (Str × Addr)} {ks : List Str} {g g' : Str → Str → Rat} (e : ∀ n ∈ M.map (·.1), g n = g' n) (h : Shs K H M ks g) : Shs K H M ks g' := ⟨h.nd, h.ad, fun q hq => by rw [← e q.1 (List.mem_map.mpr ⟨q, hq, rfl⟩)]; exact h.row q hq⟩
theorem ad_ne {M : List (Str × Addr)} (hn : (M.map (·.2)).Nodup) {q r : Str × Addr} (hq : q ∈ M) (hr : r ∈ M) (e : q.2 = r.2) : q = r := by
  induction M with
  | nil => cases hq
  | cons z M ih =>
    have hn : (z.2 :: M.map (·.2)).Nodup := hn
    obtain ⟨n1, n2⟩ := List.nodup_cons.mp hn
    rcases List.mem_cons.mp hq with h1 | h1 <;> rcases List.mem_cons.mp hr with h2 | h2
    · rw [h1, h2]
    · subst h1
      exact absurd (List.mem_map.mpr ⟨r, h2, e.symm⟩) n1
    · subst h2
      exact absurd (List.mem_map.mpr ⟨q, h1, e⟩) n1
    · exact ih n2 h1 h2
theorem nm_ne {M : List (Str × Addr)} (hn : (M.map (·.1)).Nodup) {q r : Str × Addr} (hq : q ∈ M) (hr : r ∈ M) (e : q.1 = r.1) : q = r := by
  induction M with
  | nil => cases hq
  | cons z M ih =>
    have hn : (z.1 :: M.map (·.1)).Nodup := hn
    obtain ⟨n1, n2⟩ := List.nodup_cons.mp hn
    rcases List.mem_cons.mp hq with h1 | h1 <;> rcases List.mem_cons.mp hr with h2 | h2
    · rw [h1, h2]
    · subst h1
      exact absurd (List.mem_map.mpr ⟨r, h2, e.symm⟩) n1
    · subst h2
      exact absurd (List.mem_map.mpr ⟨q, h1, e⟩) n1
    · exact ih n2 h1 h2
def putG (g : Str → Str → Rat) (n k : Str) (y : Rat) : Str → Str → Rat := fun m => if m = n then chF (g m) k y else g m
theorem Shs.put {M : List (Str × Addr)} {ks : List Str} {g : Str → Str → Rat} {q : Str × Addr} {k : Str} {v : V} {y : Rat} (h : Shs K H M ks g) (hq : q ∈ M) (hv : Fr K H v y) (hy : 0 < y) (hz : Sz 64 y) (hk : k ∈ ks) (hl : ks.length < 1000) :
    ∃ H', DPut H q.2 (.str k) v H' ∧ SamD H H' ∧ (∀ b, b ≠ q.2 → H' b = H b) ∧ Shs K H' M ks (putG g q.1 k y) := by
  obtain ⟨H', h1, h2, h3, h4⟩ := (h.row q hq).put hv hy hz hk hl
  refine ⟨H', h1, h2, h3, h.nd, h.ad, fun r hr => ?_⟩
  unfold putG
  by_cases c : r.1 = q.1
  · rw [if_pos c]
    have := nm_ne h.nd hr hq c
    subst this
    exact h4
  · rw [if_neg c]
    exact (h.row r hr).samD h2 (h3 _ fun z => c (by rw [ad_ne h.ad hr hq z]))
theorem mK_get {M : List (Str × Addr)} {p : Addr} {q : Str × Addr} (hp : Rd H p (.dK (tK (mK M)))) (hn : (M.map (·.1)).Nodup) (hq : q ∈ M) : DGet H p (.str q.1) (some (.ref q.2)) := by
  have g := DGet.rd (x := q.1) hp
  rw [tK_val (by rw [mK_keys]; exact hn) (show (q.1, V.ref q.2) ∈ mK M from List.mem_map.mpr ⟨q, hq, rfl⟩)] at g
  exact g
/-- one row more, its place in the dict at D -/
theorem Shs.snoc {M : List (Str × Addr)} {ks : List Str} {g : Str → Str → Rat} {D a : Addr} {x : Str} {H2 : Hp} (h : Shs K H M ks g) (hD : H D = some (.dK (tK (mK M)))) (hM : ∀ q ∈ M, q.2 ≠ D) (nin : ¬ x ∈ M.map (·.1)) (s : Same H H2) (ha : H a = none) (hr : Row K H2 a ks (g x)) :
    (upd H2 D (.dK (putK (tK (mK M)) (Sum.inr x) (.ref a)))) D = some (.dK (tK (mK (M ++ [(x, a)])))) ∧ Shs K (upd H2 D (.dK (putK (tK (mK M)) (Sum.inr x) (.ref a)))) (M ++ [(x, a)]) ks g ∧ a ≠ D := by
  have naD : a ≠ D := (ne_of_none hD ha).symm
  have sd : SamD H2 (upd H2 D (.dK (putK (tK (mK M)) (Sum.inr x) (.ref a)))) := SamD.put1 (s _ _ hD)
  refine ⟨?_, ⟨?_, ?_, fun q hq => ?_⟩, naD⟩
  · rw [upd_same, tK_new _ (by rw [mK_keys]; exact nin)]
    show some (HO.dK (tK (mK M ++ [(x, V.ref a)]))) = _
    rw [show mK (M ++ [(x, a)]) = mK M ++ [(x, V.ref a)] from List.map_append]
  · rw [List.map_append]
    exact List.nodup_append.mpr ⟨h.nd, List.nodup_cons.mpr ⟨(fun z => nomatch z), List.nodup_nil⟩, fun u hu b hb e => nin (by
      rcases List.mem_cons.mp hb with z | z
      · rw [← show b = x from z, ← e]; exact hu
      · cases z)⟩
  · rw [List.map_append]
    refine List.nodup_append.mpr ⟨h.ad, List.nodup_cons.mpr ⟨(fun z => nomatch z), List.nodup_nil⟩, fun u hu b hb e => ?_⟩
    rcases List.mem_cons.mp hb with z | z
    · obtain ⟨q, hq, e2⟩ := List.mem_map.mp hu
      obtain ⟨R, h1, _⟩ := h.row q hq
      rw [e2, e, show b = a from z, ha] at h1
      cases h1
    · cases z
  · rcases List.mem_append.mp hq with q1 | q1
    · exact ((h.row q q1).same s).samD sd (upd_ne (hM q q1))
    · rcases List.mem_cons.mp q1 with z | z
      · subst z
        exact hr.samD sd (upd_ne naD)
      · cases z
theorem mK_len {M : List (Str × Addr)} {ns : List Str} {i : Nat} (h : M.map (·.1) = ns.take i) (hn : ns.length < 1000) : (tK (mK M)).length < sizeLine := by
  have e : M.length = (ns.take i).length := by rw [← h, List.length_map]
  rw [List.length_map, List.length_map, e]
  exact Nat.lt_of_le_of_lt (List.length_take_le' i ns) (Nat.lt_trans hn (by decide))
theorem take_nin {ns : List Str} {i : Nat} {x : Str} (nd : ns.Nodup) (ex : ns[i]? = some x) : ¬ x ∈ ns.take i := fun z' => by
  obtain ⟨j, hj, ej⟩ := List.mem_iff_getElem?.mp z' |>.imp fun j h => (⟨(List.getElem?_eq_some_iff.mp h).1, h⟩ : j < (ns.take i).length ∧ _)
  rw [List.getElem?_take_of_lt (by rw [List.length_take] at hj; omega)] at ej
  have := nd_ix nd ej ex
  rw [List.length_take] at hj
  omega
theorem take_next {α : Type} {ns : List α} {i : Nat} {x : α} (ex : ns[i]? = some x) : ns.take (i + 1) = ns.take i ++ [x] := by rw [List.take_add_one, ex]; rfl
end
end Lk


set_option Elab.async false
set_option linter.all false
set_option maxRecDepth 100000
set_option maxHeartbeats 4000000
set_option pp.maxSteps 600
namespace Lk
open PySem L2 Eat
def amt (S : List (Str × Int)) (k : Str) : Rat := (((S.find? fun q => decide (q.1 = k)).map (·.2)).getD 0 : Int)
def st0 (S : List (Str × Int)) : Eat.S := ⟨amt S, 0, fun _ _ => 0⟩
abbrev Wl (W : List (Str × Addr × List Str)) : List (Str × List Str) := W.map fun q => (q.1, q.2.2)
theorem Wl_names (W : List (Str × Addr × List Str)) : (Wl W).map (·.1) = W.map (·.1) := by rw [List.map_map]; rfl
theorem find_mem {α : Type} : ∀ {S : List (Str × α)} {k : Str} {n : α}, (S.map (·.1)).Nodup → (k, n) ∈ S → S.find? (fun q => decide (q.1 = k)) = some (k, n)
  | [], k, n, _, h => nomatch h
  | (y, u) :: S, k, n, hn, h => by
    have hn : (y :: S.map (·.1)).Nodup := hn
    obtain ⟨n1, n2⟩ := List.nodup_cons.mp hn
    rw [List.find?_cons]
    by_cases e : y = k
    · subst e
      rw [decide_eq_true rfl]
      rcases List.mem_cons.mp h with h | h
      · cases h
        rfl
      · exact absurd (List.mem_map.mpr ⟨(y, n), h, rfl⟩) n1
    · rw [decide_eq_false e]
      rcases List.mem_cons.mp h with h | h
      · cases h
        exact absurd rfl e
      · exact find_mem n2 h
theorem find_none {α : Type} {S : List (Str × α)} {k : Str} (h : ¬ k ∈ S.map (·.1)) : S.find? (fun q => decide (q.1 = k)) = none :=
  List.find?_eq_none.mpr fun q hq => by
    simp only [decide_eq_true_eq]
    exact fun e => h (List.mem_map.mpr ⟨q, hq, e⟩)
theorem amt_mem {S : List (Str × Int)} {k : Str} {n : Int} (hn : (S.map (·.1)).Nodup) (h : (k, n) ∈ S) : amt S k = (n : Rat) := by
  unfold amt
  rw [find_mem hn h]
  rfl
theorem amt_off {S : List (Str × Int)} {k : Str} (h : ¬ k ∈ S.map (·.1)) : amt S k = 0 := by
  unfold amt
  rw [find_none h]
  rfl
theorem amt_int (S : List (Str × Int)) (k : Str) : ∃ n : Int, amt S k = (n : Rat) ∧ (n = 0 ∨ (k, n) ∈ S) := by
  unfold amt
  cases e : S.find? fun q => decide (q.1 = k) with
  | none => exact ⟨0, rfl, .inl rfl⟩
  | some q =>
    have h1 := List.find?_some e
    have h2 := List.mem_of_find?_eq_some e
    simp only [decide_eq_true_eq] at h1
    subst h1
    exact ⟨q.2, rfl, .inr h2⟩
theorem wl_mem {W : List (Str × Addr × List Str)} {n : Str} {a : Addr} {l : List Str} (hn : (W.map (·.1)).Nodup) (h : (n, a, l) ∈ W) : wl (Wl W) n = l := by
  unfold wl
  rw [find_mem (by rw [Wl_names]; exact hn) (show (n, l) ∈ Wl W from List.mem_map.mpr ⟨_, h, rfl⟩)]
  rfl
/-- what the stock and the wishes are like -/
structure Few (W : List (Str × Addr × List Str)) (S : List (Str × Int)) : Prop where
  six : W.length ≤ 6
  seven : S.length ≤ 7
  cnt : ∀ q ∈ S, 0 ≤ q.2 ∧ q.2 ≤ 30
  nS : (S.map (·.1)).Nodup
  nW : (W.map (·.1)).Nodup
section
variable {W : List (Str × Addr × List Str)} {S : List (Str × Int)}
theorem Few.amt0 (h : Few W S) (k : Str) : 0 ≤ amt S k ∧ amt S k ≤ 30 := by
  obtain ⟨n, e, c⟩ := amt_int S k
  rw [e]
  have : 0 ≤ n ∧ n ≤ 30 := by
    rcases c with c | c
    · omega
    · exact h.cnt _ c
  exact ⟨Rat.intCast_nonneg.mpr this.1, show (n : Rat) ≤ ((30 : Int) : Rat) from Rat.intCast_le_intCast.mpr this.2⟩
theorem Few.key (h : Few W S) (k : Str) (hk : 0 < amt S k) : k ∈ S.map (·.1) := Classical.byContradiction fun c => by
  rw [amt_off c] at hk
  exact absurd hk (by decide)
theorem sum_zero : ∀ l : List Str, (l.map fun _ => (0 : Rat)).sum = 0
  | [] => rfl
  | x :: l => by
    rw [List.map_cons, List.sum_cons, sum_zero l]
    grind
theorem Few.good (h : Few W S) : Good (Wl W) (amt S) (st0 S) := ⟨fun k => (h.amt0 k).1, by show (0 : Rat) ≤ 0; decide, by show (0 : Rat) ≤ 1; decide, fun _ _ => by show (0 : Rat) ≤ 0; decide, fun k => by
  show (((Wl W).map (·.1)).map fun _ => (0 : Rat)).sum + amt S k = amt S k
  rw [sum_zero]
  grind, fun k => by show amt S k ≤ amt S k; grind⟩
theorem Few.fine (h : Few W S) : Fine 0 (st0 S) := ⟨fun k => by
  obtain ⟨n, e, _⟩ := amt_int S k
  show Gr 0 (amt S k)
  rw [e]
  exact Gr.int 0 n, Gr.int 0 0, fun _ _ => Gr.int 0 0, fun _ _ => by show (0 : Rat) ≤ 0; decide⟩
theorem Few.mu (h : Few W S) : 0 + (st0 S).mu (S.map (·.1)) ≤ 8 := by
  unfold Eat.S.mu
  have h1 := List.countP_le_length (p := fun k => decide (0 < (st0 S).left k)) (l := S.map (·.1))
  rw [List.length_map] at h1
  have h2 := h.seven
  split <;> omega
/-- the sizes -/
structure Szs (W : List (Str × Addr × List Str)) (s : Eat.S) : Prop where
  left : ∀ k, Sz 64 (s.left k)
  got : ∀ n k, Sz 64 (s.got n k)
  hour : Sz 64 (1 - s.hour)
theorem Few.szs (h : Few W S) {i : Nat} {s : Eat.S} (g : Good (Wl W) (amt S) s) (f : Fine i s) (hi : i ≤ 9) : Szs W s := by
  refine ⟨fun k => (f.left k).sz hi (g.nn k) ?_, fun n k => (f.got n k).sz hi (g.g0 n k) ?_, ((Gr.int i 1).sub f.hour).sz hi ?_ ?_⟩
  · have := g.lef k
    have := (h.amt0 k).2
    grind
  · have := f.small n k
    have := g.h1
    grind
  · have := g.h1
    show (0 : Rat) ≤ ((1 : Int) : Rat) - s.hour
    have e : ((1 : Int) : Rat) = 1 := rfl
    rw [e]
    grind
  · have := g.h0
    show ((1 : Int) : Rat) - s.hour ≤ 30
    have e : ((1 : Int) : Rat) = 1 := rfl
    rw [e]
    grind
theorem Few.six' (h : Few W S) : (Wl W).length ≤ 6 := by rw [List.length_map]; exact h.six
theorem Few.step (h : Few W S) {i : Nat} {s : Eat.S} (g : Good (Wl W) (amt S) s) (f : Fine i s) (hi : i ≤ 8) (hh : s.hour < 1) : 0 < s.step (Wl W) ∧ Sz 64 (s.step (Wl W)) ∧ (∀ k, Sz 64 ((s.eat (Wl W) k : Rat) * s.step (Wl W))) := by
  obtain ⟨p, q, _, _⟩ := step_spec (W := Wl W) hh
  have gs := step_gr f h.six' hh
  refine ⟨p, gs.sz (by omega) (by grind) ?_, fun k => (gs.mul _).sz (by omega) ?_ ?_⟩
  · have := g.h0
    grind
  · exact (eat_step hh g.nn).1
  · have := (eat_step (W := Wl W) (k := k) hh g.nn).2
    have := g.lef k
    have := (h.amt0 k).2
    grind
theorem one_div (x : Rat) (n : Nat) : x * (1 / (n : Rat)) = x / (n : Rat) := by
  rw [Rat.div_def, Rat.div_def, Rat.one_mul]
theorem div_le {x : Rat} {n : Nat} (hx : 0 ≤ x) (hn : 1 ≤ n) : 0 ≤ x / (n : Rat) ∧ x / (n : Rat) ≤ x := by
  have e := div_mul (x := x) (n := n) (by omega)
  have hn0 : (0 : Rat) < (n : Rat) := Rat.natCast_pos.mpr (by omega)
  have hn1 : (1 : Rat) ≤ (n : Rat) := by
    have : ((1 : Nat) : Rat) ≤ (n : Rat) := Rat.natCast_le_natCast.mpr hn
    exact this
  have p : 0 ≤ x / (n : Rat) := by
    rw [Rat.div_def]
    exact Rat.mul_nonneg hx (by have := Rat.inv_pos.mpr hn0; grind)
  refine ⟨p, ?_⟩
  have := Rat.mul_le_mul_of_nonneg_right hn1 p
  grind
theorem Few.part (h : Few W S) {i : Nat} {s : Eat.S} (g : Good (Wl W) (amt S) s) (f : Fine i s) (hi : i ≤ 8) {k : Str} (hk : 0 < s.eat (Wl W) k) : Sz 64 (1 / (s.eat (Wl W) k : Rat)) ∧ Sz 64 (s.left k * (1 / (s.eat (Wl W) k : Rat))) := by
  have h6 := Nat.le_trans (eat_le (W := Wl W) (s := s) k) h.six'
  constructor
  · have a := ((Gr.int 0 1).div hk h6)
    have b := div_le (x := 1) (by decide) hk
    refine a.sz (by omega) b.1 ?_
    have := b.2
    show (1 : Rat) / _ ≤ 30
    grind
  · rw [one_div]
    have b := div_le (g.nn k) hk
    refine ((f.left k).div hk h6).sz (by omega) b.1 ?_
    have := b.2
    have := g.lef k
    have := (h.amt0 k).2
    grind
theorem step_fold {s : Eat.S} {W : List (Str × List Str)} {zs : List Str} (hz : ∀ k, k ∈ zs ↔ k ∈ s.foods W) : (zs.map fun k => s.left k * (1 / (s.eat W k : Rat))).foldl least (1 - s.hour) = s.step W := by
  unfold Eat.S.step
  refine fold_same _ fun x => ?_
  simp only [List.mem_map, one_div]
  constructor
  · rintro ⟨k, hk, rfl⟩
    exact ⟨k, (hz k).mp hk, rfl⟩
  · rintro ⟨k, hk, rfl⟩
    exact ⟨k, (hz k).mpr hk, rfl⟩
end
end Lk


set_option Elab.async false
set_option linter.all false
set_option maxRecDepth 100000
set_option maxHeartbeats 4000000
set_option pp.maxSteps 900
namespace K79
open PySem L2 Lk Eat
def spEaten (K : PySem.W.Frag) : Sp := fun vs H Q _ => ∃ (d c : Addr) (W : List (Str × Addr × List Str)) (S : List (Str × Int)), vs = [.ref d, .ref c] ∧ Wis K H d W ∧ WisOk W ∧ Stk H c S ∧ StkOk S ∧ Few W S ∧
  ∀ H' p M, Same H H' → H p = none → (∀ q ∈ M, H q.2 = none ∧ q.2 ≠ p) → (M.map (·.1)).Perm (W.map (·.1)) → H' p = some (.dK (tK (mK M))) → Shs K H' M (S.map (·.1)) (fin (Wl W) (st0 S)).got → Q (.ref p) H'
/-- what holds at the head of the loop of eaten_shares -/
structure EInv (K : PySem.W.Frag) (W : List (Str × Addr × List Str)) (S : List (Str × Int)) (H0 H' : Hp) (fD lD : Addr) (M : List (Str × Addr)) (ys : List Str) (v6 : V) (st : Eat.S) (i : Nat) (L : List (Str × V)) : Prop where
  s0 : Same H0 H'
  fD : H' fD = some (.dK (tK (mK M)))
  lD : H' lD = some (.dK (tK L))
  ky : L.map (·.1) = ys
  lf : Lef K H' L st.left
  v6 : Fr K H' v6 (1 - st.hour)
  sh : Shs K H' M (S.map (·.1)) st.got
  gd : Good (Wl W) (amt S) st
  fn : Fine i st
  im : i + st.mu (S.map (·.1)) ≤ 8
  fi : fin (Wl W) st = fin (Wl W) (st0 S)
theorem seq_while {c : TT} {tb u : TS} {D0 : Ends} {σ : L2.St} {H : Hp} (W : Nat → L2.St → Hp → Prop) (End : L2.St → Hp → Prop) (m0 : Nat) (h0 : W m0 σ H) (he : ∀ σ H, End σ H → u D0 σ H)
    (hs : (∀ σ H, End σ H → u D0 σ H) → ∀ m σ H, W m σ H → c σ H fun b H1 => if b = true then ∃ N : L2.St → Hp → Prop, (∀ σ' H', N σ' H' → ∃ m', m' < m ∧ W m' σ' H') ∧ tb { D0 with nx := N, ct := N, bk := u D0 } σ H1 else u D0 σ H1) : tSeq (tWhile c tb) u D0 σ H := ⟨W, ⟨m0, h0⟩, hs he⟩
def gotUp (W : List (Str × List Str)) (st : Eat.S) (ns : List Str) : Str → Str → Rat := fun n k => st.got n k + if n ∈ ns ∧ st.meal W n = some k then st.step W else 0
theorem gotUp_none {W : List (Str × List Str)} {st : Eat.S} {ns : List Str} {n : Str} (h : st.meal W n = none) : gotUp W st (ns ++ [n]) = gotUp W st ns := by
  funext m k
  unfold gotUp
  by_cases c : st.meal W m = some k
  · have ne : m ≠ n := fun z => by rw [z, h] at c; cases c
    simp only [List.mem_append, List.mem_singleton, ne, or_false]
  · rw [if_neg (fun z => c z.2), if_neg (fun z => c z.2)]
theorem gotUp_at {W : List (Str × List Str)} {st : Eat.S} {ns : List Str} {n k : Str} (hn : ¬ n ∈ ns) : gotUp W st ns n k = st.got n k := by
  unfold gotUp
  rw [if_neg (fun z => hn z.1)]
  grind
theorem gotUp_some {W : List (Str × List Str)} {st : Eat.S} {ns : List Str} {n k : Str} (hn : ¬ n ∈ ns) (h : st.meal W n = some k) : putG (gotUp W st ns) n k (st.got n k + st.step W) = gotUp W st (ns ++ [n]) := by
  funext m x
  unfold putG chF
  by_cases c : m = n
  · subst c
    rw [if_pos rfl]
    by_cases e : x = k
    · subst e
      rw [if_pos rfl]
      unfold gotUp
      rw [if_pos ⟨by simp, h⟩]
    · rw [if_neg e]
      unfold gotUp
      rw [if_neg (fun z => hn z.1), if_neg (fun z => e (by have := z.2; rw [h] at this; cases this; rfl))]
  · rw [if_neg c]
    unfold gotUp
    simp only [List.mem_append, List.mem_singleton, c, or_false]
theorem gotUp_all {W : List (Str × List Str)} {st : Eat.S} {ns : List Str} (h : ∀ n, n ∈ ns ↔ n ∈ W.map (·.1)) : gotUp W st ns = (st.nxt W).got := by
  funext n k
  unfold gotUp
  show _ = st.got n k + if n ∈ W.map (·.1) ∧ st.meal W n = some k then st.step W else 0
  simp only [h]
def leftDn (W : List (Str × List Str)) (st : Eat.S) (ks : List Str) : Str → Rat := fun k => if k ∈ ks then st.left k - (st.eat W k : Rat) * st.step W else st.left k
theorem leftDn_some {W : List (Str × List Str)} {st : Eat.S} {ks : List Str} {k : Str} : chF (leftDn W st ks) k (st.left k - (st.eat W k : Rat) * st.step W) = leftDn W st (ks ++ [k]) := by
  funext x
  unfold chF
  by_cases c : x = k
  · subst c
    rw [if_pos rfl]
    unfold leftDn
    rw [if_pos (by simp)]
  · rw [if_neg c]
    unfold leftDn
    simp only [List.mem_append, List.mem_singleton, c, or_false]
theorem leftDn_all {W : List (Str × List Str)} {st : Eat.S} {ks : List Str} (h : ∀ k, k ∈ ks ↔ k ∈ st.foods W) : leftDn W st ks = (st.nxt W).left := by
  funext k
  unfold leftDn
  show _ = st.left k - (st.eat W k : Rat) * st.step W
  by_cases c : k ∈ ks
  · rw [if_pos c]
  · rw [if_neg c]
    have e : st.eat W k = 0 := Nat.eq_zero_of_not_pos fun z => c ((h k).mpr (eat_pos.mp z))
    rw [e]
    show _ = _ - (0 : Rat) * _
    grind
section
variable {P : Program} {w : World} {K : PySem.W.Frag} {mg : Str → Option Value} {base : Heap}
theorem ok_eaten_shares (T : Th K mg) : FnOk P w K mg base CX0 6 T.f_eaten_shares T.d_eaten_shares ["wishes", "stock"] (spEaten K) := by
  have G_check_asked : FnOk P w K mg base CX0 5 T.f_check_asked T.d_check_asked ["wishes", "stock"] (spAskN K) := ok_check_asked T
  have G_is_below : FnOk P w K mg base CX0 1 T.f_is_below T.d_is_below ["one", "other"] (spLess K) := ok_is_below T
  have G_meal_of : FnOk P w K mg base CX0 2 T.f_meal_of T.d_meal_of ["wishes", "left", "name"] (spMeal K) := ok_meal_of T
  have G_least_of : FnOk P w K mg base CX0 2 T.f_least_of T.d_least_of ["some"] (spLeastOf K) := ok_least_of T
  have G_plus : FnOk P w K mg base CX0 2 T.f_plus T.d_plus ["one", "other"] (sp2 K (· + ·)) := ok_plus T
  have G_minus : FnOk P w K mg base CX0 2 T.f_minus T.d_minus ["one", "other"] (sp2 K (· - ·)) := ok_minus T
  have G_times : FnOk P w K mg base CX0 2 T.f_times T.d_times ["one", "other"] (sp2 K (· * ·)) := ok_times T
  have G_in_order : FnOk P w K mg base CX0 1 T.f_in_order T.d_in_order ["row"] (spInOrder K) := ok_in_order T
  refine T.F_eaten_shares.ok sc_eaten_shares (fun vs H Q E h => ?_) (fun cdv A outer s H vs Q E hr h => ?_)
  · obtain ⟨d, c, W, S, rfl, _⟩ := h
    rfl
  · obtain ⟨d, c, W, S, rfl, hW, okW, hS, okS, few, kk⟩ := h
    have hu := hu_of hr
    refine ⟨_, (pss_cons (ps_expr (pe_call G_check_asked (hr.mono (by decide)) rfl T.g_check_asked T.F_check_asked.kp T.b_check_asked .nil pass0 (pa_cons (pv 0) (pa_cons (pv 1) pa_nil))))
      (pss_cons (ps_set (i := 3) sc_eaten_shares.nd rfl (Or.inr rfl) (pe_dc (own := [("name", 2)]) rfl sc_eaten_shares.nd (pi_list (pe_callB (call_sortedD rfl) (by rfl) T.n_sorted (by decide +kernel) (pa_cons (pv 0) pa_nil))) (blkOk_by (own := [("name", 2)]) (N := N_eaten_shares) (sc := defScope s_eaten_shares) (by decide +kernel)) (fun _ _ _ _ _ => pg_name (i := 2) sc_eaten_shares.nd rfl (Or.inl rfl)) (fun _ _ _ _ _ => pts_nil) (fun _ _ _ _ _ => pv 2) (fun _ _ _ _ _ => pe_dnewK)))
      (pss_cons (ps_asg (pe_tup (pa_cons (pe_dc (own := [("kind", 4)]) rfl sc_eaten_shares.nd (pi_list (pe_callB (call_sortedD rfl) (by rfl) T.n_sorted (by decide +kernel) (pa_cons (pv 1) pa_nil))) (blkOk_by (own := [("kind", 4)]) (N := N_eaten_shares) (sc := defScope s_eaten_shares) (by decide +kernel)) (fun _ _ _ _ _ => pg_name (i := 4) sc_eaten_shares.nd rfl (Or.inl rfl)) (fun _ _ _ _ _ => pts_nil) (fun _ _ _ _ _ => pv 4) (fun _ _ _ _ _ => pe_tup (pa_cons (pe_dget hu (pv 1) (pv 4) (fun _ _ => rfl)) (pa_cons pe_int pa_nil)))) (pa_cons (pe_tup (pa_cons pe_int (pa_cons pe_int pa_nil))) pa_nil))) (pg_tup rfl (pgs_cons (pg_name (i := 5) sc_eaten_shares.nd rfl (Or.inr rfl)) (pgs_cons (pg_name (i := 6) sc_eaten_shares.nd rfl (Or.inl rfl)) pgs_nil))))
      (pss_cons (ps_while PassesOwn.never (pt_val (pe_call G_is_below (hr.mono (by decide)) rfl T.g_is_below T.F_is_below.kp T.b_is_below .nil pass0 (pa_cons (pe_tup (pa_cons pe_int (pa_cons pe_int pa_nil))) (pa_cons (pv 6) pa_nil))))
        (pss_cons (ps_set (i := 7) sc_eaten_shares.nd rfl (Or.inr rfl) (pe_dc (own := [("name", 2)]) rfl sc_eaten_shares.nd (pi_list (pe_callB (call_sortedD rfl) (by rfl) T.n_sorted (by decide +kernel) (pa_cons (pv 0) pa_nil))) (blkOk_by (own := [("name", 2)]) (N := N_eaten_shares) (sc := defScope s_eaten_shares) (by decide +kernel)) (fun _ _ _ _ _ => pg_name (i := 2) sc_eaten_shares.nd rfl (Or.inl rfl)) (fun _ _ _ _ _ => pts_nil) (fun _ _ _ _ _ => pv 2) (fun _ _ _ _ _ => pe_call G_meal_of (hr.mono (by decide)) rfl T.g_meal_of T.F_meal_of.kp T.b_meal_of .nil pass0 (pa_cons (pv 0) (pa_cons (pv 5) (pa_cons (pv 2) pa_nil))))))
        (pss_cons (Lk.ps_frz (ps_set (i := 8) sc_eaten_shares.nd rfl (Or.inl rfl) (pe_callB (Lk.cr_sortedSetS rfl) (by rfl) T.n_sorted (by decide +kernel) (pa_cons (pe_callTy (Lk.cr_setS rfl) (by rfl) T.n_set (by decide +kernel) (pa_cons (pe_lc (own := [("name", 2)]) rfl sc_eaten_shares.nd (pi_keys (pv 7)) (blkOk_by (own := [("name", 2)]) (N := N_eaten_shares) (sc := defScope s_eaten_shares) (by decide +kernel)) (fun _ _ _ _ _ => pg_name (i := 2) sc_eaten_shares.nd rfl (Or.inl rfl)) (fun _ _ _ _ _ => pts_one (pt_cmpR op_notN (pe_dget hu (pv 7) (pv 2) (fun _ _ => rfl)) pe_non (nomark _))) (fun _ _ _ _ _ => pe_dget hu (pv 7) (pv 2) (fun _ _ => rfl))) pa_nil)) pa_nil))))
        (pss_cons (ps_if (pt_cmpR (op_eqD hr.units) (pv 8) (pe_lst pa_nil) (nomark _))
          (pss_one (ps_break))
          pss_nil)
        (pss_cons (ps_set (i := 9) sc_eaten_shares.nd rfl (Or.inr rfl) (pe_dc (own := [("kind", 4)]) rfl sc_eaten_shares.nd (pi_list (pv 8)) (blkOk_by (own := [("kind", 4)]) (N := N_eaten_shares) (sc := defScope s_eaten_shares) (by decide +kernel)) (fun _ _ _ _ _ => pg_name (i := 4) sc_eaten_shares.nd rfl (Or.inr rfl)) (fun _ _ _ _ _ => pts_nil) (fun _ _ _ _ _ => pv 4) (fun _ _ _ _ _ => pe_callB (Lk.call_lenQ (K := K)) (by rfl) T.n_len PySem.boot_len (pa_cons (pe_lc (own := [("name", 2)]) rfl sc_eaten_shares.nd (pi_keys (pv 7)) (blkOk_by (own := [("name", 2)]) (N := N_eaten_shares) (sc := { kind := .function, names := [(".0", .local), ("kind", .cell), ("len", .globalImplicit), ("meals", .cell)], isGenerator := false, isCoroutine := false }) (by decide +kernel)) (fun _ _ _ _ _ => pg_name (i := 2) sc_eaten_shares.nd rfl (Or.inl rfl)) (fun _ _ _ _ _ => pts_one (pt_cmpR op_eq (pe_dget hu (pv 7) (pv 2) (fun _ _ => rfl)) (pv 4) (nomark _))) (fun _ _ _ _ _ => pv 2)) pa_nil))))
        (pss_cons (ps_set (i := 10) sc_eaten_shares.nd rfl (Or.inl rfl) (pe_call G_least_of (hr.mono (by decide)) rfl T.g_least_of T.F_least_of.kp T.b_least_of .nil pass0 (pa_cons (pe_op op_cat (pe_lst (pa_cons (pv 6) pa_nil)) (pe_lc (own := [("kind", 4)]) rfl sc_eaten_shares.nd (pi_list (pv 8)) (blkOk_by (own := [("kind", 4)]) (N := N_eaten_shares) (sc := defScope s_eaten_shares) (by decide +kernel)) (fun _ _ _ _ _ => pg_name (i := 4) sc_eaten_shares.nd rfl (Or.inl rfl)) (fun _ _ _ _ _ => pts_nil) (fun _ _ _ _ _ => pe_call G_times (hr.mono (by decide)) rfl T.g_times T.F_times.kp T.b_times .nil pass0 (pa_cons (pe_dget hu (pv 5) (pv 4) (fun _ _ => rfl)) (pa_cons (pe_tup (pa_cons pe_int (pa_cons (pe_dget hu (pv 9) (pv 4) (fun _ _ => rfl)) pa_nil))) pa_nil))))) pa_nil)))
        (pss_cons (ps_for PassesOwn.never rfl (pi_keys (pv 7)) (pg_name (i := 2) sc_eaten_shares.nd rfl (Or.inl rfl))
          (pss_one (ps_if (pt_cmpR op_notN (pe_dget hu (pv 7) (pv 2) (fun _ _ => rfl)) pe_non (nomark _))
            (pss_one (ps_dput hu (pe_dget hu (pv 3) (pv 2) (fun _ _ => rfl)) (pe_dget hu (pv 7) (pv 2) (fun _ _ => rfl)) (pe_call G_plus (hr.mono (by decide)) rfl T.g_plus T.F_plus.kp T.b_plus .nil pass0 (pa_cons (pe_dget2 hu (pe_dget hu (pv 3) (pv 2) (fun _ _ => rfl)) (pe_dget hu (pv 7) (pv 2) (fun _ _ => rfl)) (pe_tup (pa_cons pe_int (pa_cons pe_int pa_nil))) ⟨rfl, rfl, rfl, rfl⟩) (pa_cons (pv 10) pa_nil))) rfl))
            pss_nil)))
        (pss_cons (ps_for PassesOwn.never rfl (pi_list (pv 8)) (pg_name (i := 4) sc_eaten_shares.nd rfl (Or.inl rfl))
          (pss_one (ps_dput hu (pv 5) (pv 4) (pe_call G_minus (hr.mono (by decide)) rfl T.g_minus T.F_minus.kp T.b_minus .nil pass0 (pa_cons (pe_dget hu (pv 5) (pv 4) (fun _ _ => rfl)) (pa_cons (pe_call G_times (hr.mono (by decide)) rfl T.g_times T.F_times.kp T.b_times .nil pass0 (pa_cons (pv 10) (pa_cons (pe_tup (pa_cons (pe_dget hu (pv 9) (pv 4) (fun _ _ => rfl)) (pa_cons pe_int pa_nil))) pa_nil))) pa_nil))) rfl)))
        (pss_one (ps_set (i := 6) sc_eaten_shares.nd rfl (Or.inl rfl) (pe_call G_minus (hr.mono (by decide)) rfl T.g_minus T.F_minus.kp T.b_minus .nil pass0 (pa_cons (pv 6) (pa_cons (pv 10) pa_nil)))))))))))))
      (pss_one (Lk.ps_frz (ps_ret (pe_dc (own := [("name", 2)]) rfl sc_eaten_shares.nd (pi_keys (pv 3)) (blkOk_by (own := [("name", 2)]) (N := N_eaten_shares) (sc := defScope s_eaten_shares) (by decide +kernel)) (fun _ _ _ _ _ => pg_name (i := 2) sc_eaten_shares.nd rfl (Or.inl rfl)) (fun _ _ _ _ _ => pts_nil) (fun _ _ _ _ _ => pv 2) (fun _ _ _ _ _ => pe_call G_in_order (hr.mono (by decide)) rfl T.g_in_order T.F_in_order.kp T.b_in_order .nil pass0 (pa_cons (pe_dget hu (pv 3) (pv 2) (fun _ _ => rfl)) pa_nil)))))))))), ?_⟩
    refine ⟨_, rfl, _, rfl, d, c, W, S, rfl, hW, okW, hS, okS, fun H0 s0 => ?_⟩
    have hW0 := hW.same s0
    have hS0 := hS.same s0
    obtain ⟨od, hd⟩ := hW0.1
    obtain ⟨oc, hc⟩ := hS0
    refine ⟨_, rfl, d, refK W, W.map (·.1), rfl, .inr ⟨od, hd⟩, by rw [List.map_map, List.map_map]; rfl, by rw [List.length_map]; exact Nat.lt_of_le_of_lt few.six (by decide), fun ns p1 hns _ hp1 => ⟨p1, rfl, ⟨_, SqL.of upd_same⟩, fun fD hfD => ?_⟩⟩
    have lnn : ns.length < 1000 := by rw [hns.length_eq, List.length_map]; exact Nat.lt_of_le_of_lt few.six (by decide)
    have ndn : ns.Nodup := hns.nodup_iff.mpr few.nW
    have hfD0 : H0 fD = none := (Same.new hp1).free hfD
    have nfD : fD ≠ p1 := (ne_of_none upd_same hfD).symm
    refine dc_it (walk_list (xs := ns.map V.str)) (fun i H' => Same (upd H0 p1 (.lst (ns.map V.str))) H' ∧ ∃ M : List (Str × Addr), M.map (·.1) = ns.take i ∧ H' fD = some (.dK (tK (mK M))) ∧ (∀ q ∈ M, H0 q.2 = none ∧ q.2 ≠ fD) ∧ Shs K H' M (S.map (·.1)) fun _ _ => 0)
      ⟨Same.new hfD, [], rfl, upd_same, (fun q z => nomatch z), List.nodup_nil, List.nodup_nil, fun q z => nomatch z⟩ (fun i H' _ h => SqL.of (h.1 _ _ upd_same)) ?_ ?_
    · rintro i v H1 H1' hi ⟨s1, M, hM, e1, hMf, sh⟩ ⟨rfl, hv⟩
      rw [List.getElem?_map] at hv
      obtain ⟨x, ex, rfl⟩ := Option.map_eq_some_iff.mp hv
      have nin : ¬ x ∈ M.map (·.1) := by
        rw [hM]
        exact take_nin ndn ex
      refine ⟨rfl, _, rfl, fun a ha => ⟨tK (mK M), Sum.inr x, rfl, ?_⟩⟩
      have s2 := Same.new (o := HO.dK []) ha
      have a0 : H0 a = none := (Same.new hp1).free (s1.free ha)
      obtain ⟨g1, g2, g3⟩ := sh.snoc e1 (fun q hq => (hMf q hq).2) nin s2 ha (Row.nil upd_same)
      refine ⟨s2 _ _ e1, mK_len hM lnn, Same.mut (s1.trans s2) hfD, M ++ [(x, a)], by rw [List.map_append, hM, take_next ex]; rfl, g1, fun q hq => ?_, g2⟩
      rcases List.mem_append.mp hq with q1 | q1
      · exact hMf q q1
      · rcases List.mem_cons.mp q1 with z | z
        · subst z
          exact ⟨a0, g3⟩
        · cases z
    · rintro H1 ⟨s1, M, hM, e1, hMf, sh⟩
      rw [List.length_map, List.take_length] at hM
      have t1 : Same H0 H1 := (Same.new hp1).trans s1
      have hc1 := t1 _ _ hc
      refine ⟨_, rfl, c, numK S, S.map (·.1), rfl, .inr ⟨oc, hc1⟩, by rw [List.map_map, List.map_map]; rfl, by rw [List.length_map]; exact Nat.lt_of_le_of_lt few.seven (by decide), fun ys p2 hys _ hp2 => ⟨p2, rfl, ⟨_, SqL.of upd_same⟩, fun lD hlD => ?_⟩⟩
      have ndy : ys.Nodup := hys.nodup_iff.mpr few.nS
      have lny : ys.length < 1000 := by rw [hys.length_eq, List.length_map]; exact Nat.lt_of_le_of_lt few.seven (by decide)
      have yS : ∀ x, x ∈ ys ↔ x ∈ S.map (·.1) := fun x => hys.mem_iff
      have s2 := Same.new (o := .lst (ys.map V.str)) hp2
      have u1 := t1.trans s2
      have lD0 : H0 lD = none := u1.free hlD
      refine dc_it (walk_list (xs := ys.map V.str)) (fun i H' => Same (upd H1 p2 (.lst (ys.map V.str))) H' ∧ ∃ L : List (Str × V), L.map (·.1) = ys.take i ∧ H' lD = some (.dK (tK L)) ∧ ∀ q ∈ L, Fr K H' q.2 (amt S q.1))
        ⟨Same.new hlD, [], rfl, upd_same, fun q z => nomatch z⟩ (fun i H' _ h => SqL.of (h.1 _ _ upd_same)) ?_ ?_
      · rintro i v H2 H2' hi ⟨s3, L, hL, e2, hf⟩ ⟨rfl, hv⟩
        rw [List.getElem?_map] at hv
        obtain ⟨x, ex, rfl⟩ := Option.map_eq_some_iff.mp hv
        have nin : ¬ x ∈ L.map (·.1) := by
          rw [hL]
          exact take_nin ndy ex
        obtain ⟨⟨x1, n⟩, hq, rfl⟩ := List.mem_map.mp ((yS x).mp (List.mem_of_getElem? ex))
        have g := DGet.rd (x := x1) (frz_rd ⟨oc, s3 _ _ (s2 _ _ hc1)⟩)
        rw [valV_map (fun n => V.int n) few.nS hq] at g
        refine ⟨rfl, _, rfl, _, rfl, _, rfl, c, .int n, rfl, g, two_le, fun a ha => ⟨tK L, Sum.inr x1, rfl, ?_⟩⟩
        have s4 := Same.new (o := HO.tup [.int n, .int 1]) ha
        have sd : SamD H2' (upd (upd H2' a (.tup [.int n, .int 1])) lD (.dK (putK (tK L) (Sum.inr x1) (.ref a)))) := (SamD.of s4).put (s4 _ _ e2)
        have na : lD ≠ a := ne_of_none e2 ha
        refine ⟨s4 _ _ e2, ?_, Same.mut (s3.trans s4) hlD, L ++ [(x1, .ref a)], by rw [List.map_append, hL, take_next ex]; rfl, by rw [upd_same, tK_new _ nin], fun q hq2 => ?_⟩
        · have e : L.length = (ys.take i).length := by rw [← hL, List.length_map]
          rw [List.length_map, e]
          exact Nat.lt_of_le_of_lt (List.length_take_le' i ys) (Nat.lt_trans lny (by decide))
        · rcases List.mem_append.mp hq2 with q1 | q1
          · exact sd.fr (hf q q1)
          · rcases List.mem_cons.mp q1 with z | z
            · subst z
              show Fr K _ (V.ref a) (amt S x1)
              rw [amt_mem few.nS hq]
              refine frN1 ?_
              rw [upd_ne na.symm, upd_same]
            · cases z
      · rintro H2 ⟨s3, L, hL, e2, hf⟩
        rw [List.length_map, List.take_length] at hL
        have t2 : Same H0 H2 := u1.trans s3
        have z0 := few.szs few.good few.fine (by decide)
        have lf : Lef K H2 L (amt S) := ⟨by rw [hL]; exact ndy, hf, fun x hx => amt_off fun z => hx (by rw [hL]; exact (yS x).mpr z), z0.left⟩
        refine ⟨two_le, fun p3 hp3 => ⟨two_le, fun p4 hp4 => ⟨p4, _, rfl, SqT.of upd_same, rfl, _, _, rfl, _, _, rfl, rfl, ?_⟩⟩⟩
        have s4 := (Same.new (o := .tup [.int 1, .int 1]) hp3).trans (Same.new (o := .tup [.ref lD, .ref p3]) hp4)
        have e1' := s4 _ _ (s3 _ _ (s2 _ _ e1))
        refine seq_while (fun m σ H' => ∃ (st : Eat.S) (i : Nat) (L : List (Str × V)) (v6 : V) (o2 o4 o7 o8 o9 o10 : Option V), σ = [some (.ref d), some (.ref c), o2, some (.ref fD), o4, some (.ref lD), some v6, o7, o8, o9, o10] ∧ m = st.mu (S.map (·.1)) ∧ EInv K W S H0 H' fD lD M ys v6 st i L)
          (fun σ H' => ∃ (st : Eat.S) (i : Nat) (L : List (Str × V)) (v6 : V) (o2 o4 o7 o8 o9 o10 : Option V), σ = [some (.ref d), some (.ref c), o2, some (.ref fD), o4, some (.ref lD), some v6, o7, o8, o9, o10] ∧ st.done (Wl W) ∧ EInv K W S H0 H' fD lD M ys v6 st i L)
          _ ⟨st0 S, 0, L, .ref p3, none, none, none, none, none, none, rfl, rfl, t2.trans s4, e1', s4 _ _ e2, hL, lf.same s4, ?_, (sh.same (s2.trans s3)).same s4, few.good, few.fine, few.mu, rfl⟩ ?_ ?_
        · have f1 : Fr K (upd (upd H2 p3 (.tup [.int 1, .int 1])) p4 (.tup [.ref lD, .ref p3])) (.ref p3) 1 := (fr11 upd_same).same (Same.new hp4)
          have e : (1 : Rat) - (st0 S).hour = 1 := by show (1 : Rat) - 0 = 1; grind
          rw [e]
          exact f1
        · rintro σ H3 ⟨st, i, L, v6, o2, o4, o7, o8, o9, o10, rfl, hdone, I⟩
          obtain ⟨i1, i2, i3, i4, i5, i6, i7, i8, i9, i10, i11⟩ := I
          refine ⟨fD, _, i2, trivial, fun oF => ?_⟩
          have sF : SamD H3 (upd H3 fD (.frz oF (.dK (tK (mK M))))) := (SamD.refl H3).putA i2
          have shF := i7.samD sF (fun q hq => upd_ne (hMf q hq).2)
          have tF : Same H0 (upd H3 fD (.frz oF (.dK (tK (mK M))))) := Same.mut i1 hfD0
          generalize hHf : upd H3 fD (.frz oF (.dK (tK (mK M)))) = Hf at shF tF ⊢
          have eF : Hf fD = some (.frz oF (.dK (tK (mK M)))) := by rw [← hHf, upd_same]
          refine ⟨_, rfl, fD, oF, rfl, .inl ⟨_, eF, fun D hD => dc_it walk_keys (fun i H' => Same Hf H' ∧ ∃ M' : List (Str × Addr), M'.map (·.1) = ns.take i ∧ H' D = some (.dK (tK (mK M'))) ∧ (∀ q ∈ M', Hf q.2 = none ∧ q.2 ≠ D) ∧ Shs K H' M' (S.map (·.1)) st.got)
            ⟨Same.new hD, [], rfl, upd_same, (fun q z => nomatch z), List.nodup_nil, List.nodup_nil, fun q z => nomatch z⟩ (fun i H' _ h => h.1 _ _ eF) ?_ ?_⟩⟩
          · rintro i v H4 H4' hi ⟨s5, M', hM', e4, hMf', sh'⟩ ⟨rfl, kk, vv, hkv, rfl⟩
            obtain ⟨q, hq, rfl, rfl⟩ := key_at (f := fun v => v) hkv
            rw [List.getElem?_map] at hq
            obtain ⟨⟨n, a⟩, hqa, rfl⟩ := Option.map_eq_some_iff.mp hq
            have ma := List.mem_of_getElem? hqa
            have en : ns[i]? = some n := by rw [← hM, List.getElem?_map, hqa]; rfl
            have nin : ¬ n ∈ M'.map (·.1) := by
              rw [hM']
              exact take_nin ndn en
            have g := mK_get (.inr ⟨oF, s5 _ _ eF⟩) shF.nd ma
            obtain ⟨R, r1, r2, r3⟩ := shF.row _ ma
            have rl : R.length < 64 := by
              have := sub_len r2.nd fun k hk => (r3 k hk).2
              rw [List.length_map, List.length_map] at this
              exact Nat.lt_of_le_of_lt this (Nat.lt_of_le_of_lt few.seven (by decide))
            refine ⟨rfl, _, rfl, _, rfl, _, rfl, fD, .ref a, rfl, g, a, R, rfl, .inl (s5 _ _ r1), r2.nd, rl, fun H5 p R' s6 hp e5 pe => ⟨tK (mK M'), Sum.inr n, rfl, ?_⟩⟩
            have rw' : Row K H5 p (S.map (·.1)) (st.got n) := ⟨R', e5, (r2.same (s5.trans s6)).perm pe, fun k hk => r3 k ((pe.map (·.1)).mem_iff.mp hk)⟩
            obtain ⟨g1, g2, g3⟩ := sh'.snoc e4 (fun q hq => (hMf' q hq).2) nin s6 hp rw'
            refine ⟨s6 _ _ e4, mK_len hM' lnn, Same.mut (s5.trans s6) hD, M' ++ [(n, p)], by rw [List.map_append, hM', take_next en]; rfl, g1, fun q hq => ?_, g2⟩
            rcases List.mem_append.mp hq with q1 | q1
            · exact hMf' q q1
            · rcases List.mem_cons.mp q1 with z | z
              · subst z
                exact ⟨s5.free hp, g3⟩
              · cases z
          · rintro H4 ⟨s5, M', hM', e4, hMf', sh'⟩
            rw [List.length_map, List.length_map, show M.length = ns.length by rw [← hM, List.length_map], List.take_length] at hM'
            have sH : Same H Hf := s0.trans tF
            refine kk H4 D M' (sH.trans s5) (sH.free hD) (fun q hq => ⟨sH.free (hMf' q hq).1, (hMf' q hq).2⟩) (by rw [hM']; exact hns) e4 ?_
            rw [← i11, fin_done hdone]
            exact sh'
        · rintro he m σ H3 ⟨st, i, L, v6, o2, o4, o7, o8, o9, o10, rfl, rfl, I⟩
          obtain ⟨i1, i2, i3, i4, i5, i6, i7, i8, i9, i10, i11⟩ := I
          have zz := few.szs i8 i9 (by omega)
          refine ⟨two_le, fun p hp => ⟨_, rfl, .ref p, v6, 0, 1 - st.hour, rfl, fr01 upd_same, i6.same (Same.new hp), sz0, zz.hour, fun Ha sA0 => ⟨_, rfl, ?_⟩⟩⟩
          have sA : Same H3 Ha := (Same.new hp).trans sA0
          by_cases hh : st.hour < 1
          case neg =>
            rw [decide_eq_false (by grind)]
            refine iteF (he _ _ ⟨st, i, L, v6, o2, o4, o7, o8, o9, o10, rfl, .inl hh, i1.trans sA, sA _ _ i2, sA _ _ i3, i4, i5.same sA, i6.same sA, i7.same sA, i8, i9, i10, i11⟩)
          case pos =>
          have i8' : i ≤ 7 := by
            have : 0 < st.mu (S.map (·.1)) := by
              unfold Eat.S.mu
              rw [if_pos hh]
              omega
            omega
          obtain ⟨st0', st1, st2⟩ := few.step i8 i9 (by omega) hh
          rw [decide_eq_true (by grind)]
          refine iteT ⟨_, fun _ _ h => h, ?_⟩
          have sA' : Same H0 Ha := i1.trans sA
          refine ⟨_, rfl, d, refK W, W.map (·.1), rfl, .inr ⟨od, sA' _ _ hd⟩, by rw [List.map_map, List.map_map]; rfl, by rw [List.length_map]; exact Nat.lt_of_le_of_lt few.six (by decide), fun ms p3 hms _ hp3 => ⟨p3, rfl, ⟨_, SqL.of upd_same⟩, fun mD hmD => ?_⟩⟩
          have ndm : ms.Nodup := hms.nodup_iff.mpr few.nW
          have lnm : ms.length < 1000 := by rw [hms.length_eq, List.length_map]; exact Nat.lt_of_le_of_lt few.six (by decide)
          have sp3 : Same Ha (upd Ha p3 (.lst (ms.map V.str))) := Same.new hp3
          have mk1 : ∀ j, ((ms.take j).map fun y => (y, optV (st.meal (Wl W) y))).map (·.1) = ms.take j := fun j => by rw [List.map_map]; exact List.map_id _
          refine dc_it (walk_list (xs := ms.map V.str)) (fun j H' => Same (upd Ha p3 (.lst (ms.map V.str))) H' ∧ H' mD = some (.dK (tK ((ms.take j).map fun y => (y, optV (st.meal (Wl W) y)))))) ⟨Same.new hmD, upd_same⟩ (fun j H' _ h => SqL.of (h.1 _ _ upd_same)) ?_ ?_
          · rintro j v H4 H4' hj ⟨s5, e5⟩ ⟨rfl, hv⟩
            rw [List.getElem?_map] at hv
            obtain ⟨x, ex, rfl⟩ := Option.map_eq_some_iff.mp hv
            obtain ⟨⟨x1, a, l⟩, hq, rfl⟩ := List.mem_map.mp (hms.mem_iff.mp (List.mem_of_getElem? ex))
            have sB : Same Ha H4' := sp3.trans s5
            obtain ⟨q1, q2, q3, q4⟩ := okW.1 _ hq
            refine ⟨rfl, _, rfl, _, rfl, _, rfl, _, rfl, d, lD, a, W, x1, l, L, st.left, rfl, hW0.same (sA'.trans sB), few.nW, hq, .inl (sB _ _ (sA _ _ i3)), i5.same (sA.trans sB), q4, q2, fun H5 s6 => ⟨tK _, Sum.inr x1, rfl, s6 _ _ e5, ?_, Same.mut (s5.trans s6) hmD, ?_⟩⟩
            · rw [List.length_map, List.length_map]
              exact Nat.lt_of_le_of_lt (List.length_take_le' j ms) (Nat.lt_trans lnm (by decide))
            · rw [upd_same, tK_new _ (by rw [mk1]; exact take_nin ndm ex), take_next ex, List.map_append]
              have e : Eat.meal st.left l = st.meal (Wl W) x1 := by
                show _ = Eat.meal st.left (wl (Wl W) x1)
                rw [wl_mem few.nW hq]
              rw [e]
              rfl
          · rintro Hb ⟨s5, e5⟩
            rw [List.length_map, List.take_length] at e5
            refine ⟨mD, _, e5, trivial, fun om => ?_⟩
            have hm3 : H3 mD = none := (sA.trans sp3).free hmD
            have sC : Same H3 (upd Hb mD (.frz om (.dK (tK (ms.map fun y => (y, optV (st.meal (Wl W) y))))))) := Same.mut (sA.trans (sp3.trans s5)) hm3
            have eM0 : (upd Hb mD (.frz om (.dK (tK (ms.map fun y => (y, optV (st.meal (Wl W) y))))))) mD = some (.frz om (.dK (tK (ms.map fun y => (y, optV (st.meal (Wl W) y)))))) := upd_same
            generalize upd Hb mD (.frz om (.dK (tK (ms.map fun y => (y, optV (st.meal (Wl W) y)))))) = Hc at sC eM0 ⊢
            have mget : ∀ {H' : Hp} {x : Str}, H' mD = some (.frz om (.dK (tK (ms.map fun y => (y, optV (st.meal (Wl W) y)))))) → x ∈ ms → DGet H' mD (.str x) (some (optV (st.meal (Wl W) x))) := fun {H' x} e hx => by
              have g := DGet.rd (x := x) (frz_rd ⟨om, e⟩)
              rw [tK_val (by have := mk1 ms.length; rw [List.take_length] at this; rw [this]; exact ndm) (show (x, optV (st.meal (Wl W) x)) ∈ _ from List.mem_map.mpr ⟨x, hx, rfl⟩)] at g
              exact g
            have key_m : ∀ {j : Nat} {kk' : Key} {vv : V}, (tK (ms.map fun y => (y, optV (st.meal (Wl W) y))))[j]? = some (kk', vv) → ∃ x, ms[j]? = some x ∧ kk' = Sum.inr x := fun {j kk' vv} h => by
              obtain ⟨q, hq, rfl, rfl⟩ := key_at (f := fun v => v) h
              rw [List.getElem?_map] at hq
              obtain ⟨x, hx, rfl⟩ := Option.map_eq_some_iff.mp hq
              exact ⟨x, hx, rfl⟩
            have len_m : (tK (ms.map fun y => (y, optV (st.meal (Wl W) y)))).length = ms.length := by rw [List.length_map, List.length_map]
            refine ⟨_, rfl, mD, om, rfl, .inl ⟨_, eM0, fun D hD => lc_it walk_keys (fun j H' => Same Hc H' ∧ H' D = some (.lst (((ms.take j).filterMap (st.meal (Wl W))).map V.str))) ⟨Same.new hD, upd_same⟩ (fun j H' _ h => h.1 _ _ eM0) ?_ ?_⟩⟩
            · rintro j v H4 H4' hj ⟨s6, e6⟩ ⟨rfl, kk', vv, hkv, rfl⟩
              obtain ⟨x, ex, rfl⟩ := key_m hkv
              have mx := List.mem_of_getElem? ex
              have g := mget (s6 _ _ eM0) mx
              refine ⟨rfl, _, rfl, _, rfl, mD, _, rfl, g, rfl, _, rfl, ?_⟩
              rw [take_next ex, List.filterMap_append]
              cases hm : st.meal (Wl W) x with
              | none =>
                refine iteF ⟨s6, ?_⟩
                rw [List.filterMap_cons, hm, List.filterMap_nil, List.append_nil]
                exact e6
              | some k =>
                rw [hm] at g
                refine iteT ⟨_, rfl, _, rfl, mD, _, rfl, g, _, e6, ?_, Same.mut s6 hD, ?_⟩
                · rw [List.length_map]
                  refine Nat.lt_of_le_of_lt (List.length_filterMap_le _ _) (Nat.lt_of_le_of_lt (List.length_take_le' j ms) (Nat.lt_trans lnm (by decide)))
                · rw [upd_same, List.filterMap_cons, hm, List.filterMap_nil, List.map_append]
                  rfl
            · rintro Hd ⟨s6, e6⟩
              rw [len_m, List.take_length] at e6
              have lz : (ms.filterMap (st.meal (Wl W))).length ≤ 6 := by
                refine Nat.le_trans (List.length_filterMap_le _ _) ?_
                rw [hms.length_eq, List.length_map]
                exact few.six
              generalize (cxOf CX0 P w K mg base N_eaten_shares "eaten_shares" (defScope s_eaten_shares) T.f_eaten_shares cdv A outer s H E).nox.w = w'
              refine ⟨D, ms.filterMap (st.meal (Wl W)), rfl, SqL.of e6, by omega, fun q hq => ⟨q, _, rfl, upd_same, ?_, fun ks p5 hks _ hp5 => ?_⟩⟩
              · have := gath_len (ms.filterMap (st.meal (Wl W))) []
                simp only [List.length_nil] at this
                omega
              have ndk : ks.Nodup := hks.nodup_iff.mpr (gath_nd _ _ List.nodup_nil)
              have lks : ks.length ≤ 6 := by
                have := gath_len (ms.filterMap (st.meal (Wl W))) []
                simp only [List.length_nil] at this
                rw [hks.length_eq]
                omega
              have mks : ∀ k, k ∈ ks ↔ k ∈ st.foods (Wl W) := fun k => by
                rw [hks.mem_iff, gath_mem]
                show k ∈ [] ∨ k ∈ ms.filterMap (st.meal (Wl W)) ↔ k ∈ ((Wl W).map (·.1)).filterMap (st.meal (Wl W))
                rw [Wl_names, List.mem_filterMap, List.mem_filterMap]
                constructor
                · rintro (z | ⟨n, hn, e⟩)
                  · cases z
                  · exact ⟨n, hms.mem_iff.mp hn, e⟩
                · rintro ⟨n, hn, e⟩
                  exact .inr ⟨n, hms.mem_iff.mpr hn, e⟩
              have nks : ∀ k ∈ ks, NameOk k := fun k hk => by
                obtain ⟨n, hn, e⟩ := mem_foods.mp ((mks k).mp hk)
                have h1 := (meal_some e).1
                rw [Wl_names] at hn
                obtain ⟨⟨n1, a, l⟩, hq, rfl⟩ := List.mem_map.mp hn
                rw [wl_mem few.nW hq] at h1
                exact (okW.1 _ hq).2.1 k h1
              have kS : ∀ k ∈ ks, k ∈ ys ∧ k ∈ S.map (·.1) := fun k hk => by
                have h1 := food_left ((mks k).mp hk)
                have h2 : k ∈ ys := Classical.byContradiction fun c => by
                  rw [i5.off k (by rw [i4]; exact c)] at h1
                  exact absurd h1 (by decide)
                exact ⟨h2, (yS k).mp h2⟩
              have sE : Same Hc (upd (upd Hd q (SetSO w' q (gath [] (ms.filterMap (st.meal (Wl W)))))) p5 (.lst (ks.map V.str))) := s6.trans ((Same.new hq).trans (Same.new hp5))
              have eK0 : (upd (upd Hd q (SetSO w' q (gath [] (ms.filterMap (st.meal (Wl W)))))) p5 (.lst (ks.map V.str))) p5 = some (.lst (ks.map V.str)) := upd_same
              refine ⟨_, rfl, by decide, fun p6 hp6 => ?_⟩
              have sE2 := sE.trans (Same.new (o := .lst []) hp6)
              have eK : (upd (upd (upd Hd q (SetSO w' q (gath [] (ms.filterMap (st.meal (Wl W)))))) p5 (.lst (ks.map V.str))) p6 (.lst [])) p5 = some (.lst (ks.map V.str)) := Same.new hp6 _ _ eK0
              have eN : (upd (upd (upd Hd q (SetSO w' q (gath [] (ms.filterMap (st.meal (Wl W)))))) p5 (.lst (ks.map V.str))) p6 (.lst [])) p6 = some (.lst []) := upd_same
              have goal2 := sE2
              generalize upd (upd (upd Hd q (SetSO w' q (gath [] (ms.filterMap (st.meal (Wl W)))))) p5 (.lst (ks.map V.str))) p6 (.lst []) = He at sE2 eK eN ⊢
              have sH : Same H3 He := sC.trans sE2
              refine ⟨.list (ks.map PyData.str), .list [], .lst (SqL.of eK) (dp_strs _), .lst (SqL.of eN) .nil, strs_shaped (fun y hy => (nks y hy).2.2), rfl, ?_⟩
              cases hk : ks with
              | nil =>
                rw [show PyData.eqv (.list (List.map PyData.str [])) (.list []) = true from eqv_nil]
                refine ⟨_, rfl, iteT (he _ _ ⟨st, i, L, v6, _, o4, _, _, o9, o10, rfl, .inr fun n hn => ?_, i1.trans sH, sH _ _ i2, sH _ _ i3, i4, i5.same sH, i6.same sH, i7.same sH, i8, i9, i10, i11⟩)⟩
                cases e : st.meal (Wl W) n with
                | none => rfl
                | some k =>
                  have := (mks k).mpr (mem_foods.mpr ⟨n, hn, e⟩)
                  rw [hk] at this
                  cases this
              | cons k0 kr =>
                rw [show PyData.eqv (.list (List.map PyData.str (k0 :: kr))) (.list []) = false from rfl]
                refine ⟨_, rfl, iteF ?_⟩
                have eM : He mD = some (.frz om (.dK (tK (ms.map fun y => (y, optV (st.meal (Wl W) y)))))) := sE2 _ _ eM0
                have eat_len : ∀ x, (((ms.filter fun n => decide (st.meal (Wl W) n = some x)).map V.str).length : Int) = ((st.eat (Wl W) x : Nat) : Int) := fun x => by
                  rw [List.length_map, ← List.countP_eq_length_filter, hms.countP_eq]
                  unfold Eat.S.eat
                  rw [Wl_names]
                have ek1 : ∀ j, ((ks.take j).map fun k => (k, V.int ((st.eat (Wl W) k : Nat) : Int))).map (·.1) = ks.take j := fun j => by rw [List.map_map]; exact List.map_id _
                refine ⟨_, rfl, p5, rfl, ⟨_, SqL.of eK⟩, fun eD heD => dc_it (walk_list (xs := ks.map V.str)) (fun j H' => Same He H' ∧ H' eD = some (.dK (tK ((ks.take j).map fun k => (k, V.int ((st.eat (Wl W) k : Nat) : Int)))))) ⟨Same.new heD, upd_same⟩ (fun j H' _ h => SqL.of (h.1 _ _ eK)) ?_ ?_⟩
                · rintro j v H4 H4' hj ⟨s7, e7⟩ ⟨rfl, hv⟩
                  rw [List.getElem?_map] at hv
                  obtain ⟨x, ex, rfl⟩ := Option.map_eq_some_iff.mp hv
                  have eM4 := s7 _ _ eM
                  refine ⟨rfl, _, rfl, _, rfl, mD, om, rfl, .inl ⟨_, eM4, fun D2 hD2 => lc_it walk_keys (fun jj H' => Same H4' H' ∧ H' D2 = some (.lst (((ms.take jj).filter fun n => decide (st.meal (Wl W) n = some x)).map V.str))) ⟨Same.new hD2, upd_same⟩ (fun jj H' _ h => h.1 _ _ eM4) ?_ ?_⟩⟩
                  · rintro jj v H5 H5' hjj ⟨s8, e8⟩ ⟨rfl, kk', vv, hkv, rfl⟩
                    obtain ⟨n, en, rfl⟩ := key_m hkv
                    have g := mget (s8 _ _ eM4) (List.mem_of_getElem? en)
                    refine ⟨rfl, _, rfl, _, rfl, mD, _, rfl, g, _, rfl, ?_, _, rfl, ?_⟩
                    · cases st.meal (Wl W) n <;> rfl
                    · have eb : decide (optV (st.meal (Wl W) n) = V.str x) = decide (st.meal (Wl W) n = some x) := decide_eq_decide.mpr (by cases st.meal (Wl W) n <;> simp [optV])
                      rw [take_next en, List.filter_append]
                      by_cases c : st.meal (Wl W) n = some x
                      · rw [eb, decide_eq_true c]
                        refine iteT ⟨_, rfl, _, e8, ?_, Same.mut s8 hD2, ?_⟩
                        · rw [List.length_map]
                          exact Nat.lt_of_le_of_lt (List.length_filter_le _ _) (Nat.lt_of_le_of_lt (List.length_take_le' jj ms) (Nat.lt_trans lnm (by decide)))
                        · rw [upd_same, List.filter_cons, if_pos (by simp [c]), List.filter_nil, List.map_append]
                          rfl
                      · rw [eb, decide_eq_false c]
                        refine iteF ⟨s8, ?_⟩
                        rw [List.filter_cons, if_neg (by simp [c]), List.filter_nil, List.append_nil]
                        exact e8
                  · rintro H5 ⟨s8, e8⟩
                    rw [len_m, List.take_length] at e8
                    refine ⟨D2, _, rfl, .inl (SqL.of e8), tK _, Sum.inr x, rfl, s8 _ _ e7, ?_, Same.mut (s7.trans s8) heD, ?_⟩
                    · rw [List.length_map, List.length_map]
                      exact Nat.lt_of_le_of_lt (List.length_take_le' j ks) (Nat.lt_of_le_of_lt lks (by decide))
                    · rw [upd_same, tK_new _ (by rw [ek1]; exact take_nin ndk ex), take_next ex, List.map_append, eat_len]
                      rfl
                · rintro Hf ⟨s7, e7⟩
                  rw [List.length_map, List.take_length] at e7
                  have eget : ∀ {H' : Hp} {x : Str}, H' eD = some (.dK (tK (ks.map fun k => (k, V.int ((st.eat (Wl W) k : Nat) : Int))))) → x ∈ ks → DGet H' eD (.str x) (some (.int ((st.eat (Wl W) x : Nat) : Int))) := fun {H' x} e hx => by
                    have g := DGet.rd (x := x) (.inl e)
                    rw [tK_val (by have := ek1 ks.length; rw [List.take_length] at this; rw [this]; exact ndk) (show (x, V.int ((st.eat (Wl W) x : Nat) : Int)) ∈ _ from List.mem_map.mpr ⟨x, hx, rfl⟩)] at g
                    exact g
                  have sI := sH.trans s7
                  have eKf := s7 _ _ eK
                  refine ⟨_, rfl, (show 1 ≤ sizeLine by decide), fun p7 hp7 => ⟨_, rfl, p5, rfl, ⟨_, SqL.of (Same.new hp7 _ _ eKf)⟩, fun D3 hD3 => lc_it (walk_list (xs := ks.map V.str)) (fun j H' => Same (upd Hf p7 (.lst [v6])) H' ∧ ∃ xs, H' D3 = some (.lst xs) ∧ Paired (Fr K H') xs ((ks.take j).map fun k => st.left k * (1 / (st.eat (Wl W) k : Rat))))
                    ⟨Same.new hD3, [], upd_same, .nil⟩ (fun j H' _ h => SqL.of (h.1 _ _ (Same.new hp7 _ _ eKf))) ?_ ?_⟩⟩
                  · rintro j v H4 H4' hj ⟨s8, xs, e8, pr⟩ ⟨rfl, hv⟩
                    rw [List.getElem?_map] at hv
                    obtain ⟨x, ex, rfl⟩ := Option.map_eq_some_iff.mp hv
                    have mx := List.mem_of_getElem? ex
                    have sJ : Same Hf H4' := (Same.new hp7).trans s8
                    have sJ3 := sI.trans sJ
                    obtain ⟨vl, gl, fl⟩ := (i5.same sJ3).get (sJ3 _ _ i3) (by rw [i4]; exact (kS x mx).1)
                    have ge := eget (sJ _ _ e7) mx
                    have hpos : 0 < st.eat (Wl W) x := eat_pos.mpr ((mks x).mp mx)
                    obtain ⟨z1, z2⟩ := few.part i8 i9 (by omega) hpos
                    refine ⟨rfl, _, rfl, _, rfl, lD, vl, rfl, gl, _, rfl, _, rfl, eD, _, rfl, ge, two_le, fun q hq => ⟨vl, .ref q, st.left x, 1 / (st.eat (Wl W) x : Rat), rfl, fl.same (Same.new hq), fr1N hpos upd_same, zz.left x, z1, fun H7 r s9 hr e9 => ?_⟩⟩
                    have sK : Same H4' H7 := (Same.new hq).trans s9
                    refine ⟨xs, sK _ _ e8, ?_, Same.mut (s8.trans sK) hD3, xs ++ [.ref r], upd_same, ?_⟩
                    · rw [Paired.length pr, List.length_map]
                      exact Nat.lt_of_le_of_lt (List.length_take_le' j ks) (Nat.lt_of_le_of_lt lks (by decide))
                    · rw [take_next ex, List.map_append]
                      have eD3 := sK _ _ e8
                      exact Paired.snoc (Paired.mapP pr fun a b h => Fr.updL eD3 (h.same sK)) (Fr.updL eD3 (Fr.of e9))
                  · rintro Hg ⟨s8, xs, e8, pr⟩
                    rw [List.length_map, List.take_length] at pr
                    have sJ : Same Hf Hg := (Same.new hp7).trans s8
                    refine ⟨p7, D3, [v6], xs, rfl, rfl, s8 _ _ upd_same, e8, ?_, fun p8 hp8 => ⟨p8, v6 :: xs, 1 - st.hour, _, rfl, SqL.of upd_same, .cons ((i6.same (sI.trans sJ)).same (Same.new hp8)) (Paired.mapP pr fun a b h => h.same (Same.new hp8)), ?_, fun Hi v8 s9 f8 => ?_⟩⟩
                    · rw [Paired.length pr, List.length_map]
                      exact Nat.le_trans (show [v6].length + ks.length ≤ 7 by show 1 + _ ≤ 7; omega) (by decide)
                    · intro y hy
                      rcases List.mem_cons.mp hy with z | z
                      · rw [z]
                        exact zz.hour
                      · obtain ⟨k, hk, rfl⟩ := List.mem_map.mp z
                        exact (few.part i8 i9 (by omega) (eat_pos.mpr ((mks k).mp hk))).2
                    · rw [step_fold mks] at f8
                      have sL : Same Hf Hi := sJ.trans ((Same.new hp8).trans s9)
                      have sM : Same H3 Hi := sI.trans sL
                      have eMi := (s7.trans sL) _ _ eM
                      have eEi := sL _ _ e7
                      have ePi := sL _ _ eKf
                      have nrow : ∀ b, H3 b = none → ∀ q ∈ M, b ≠ q.2 := fun b hb q hq => by
                        obtain ⟨R, r, _⟩ := i7.row q hq
                        exact (ne_of_none r hb).symm
                      have nlD : ∀ q ∈ M, lD ≠ q.2 := fun q hq => by
                        obtain ⟨R, r, _⟩ := sh.row q hq
                        exact (ne_of_none (s2 _ _ r) hlD).symm
                      have nE := nrow eD (sH.free heD)
                      have nM := nrow mD hm3
                      have nP := nrow p5 ((sC.trans s6).free ((Same.new hq).free hp5))
                      have nF : ∀ q ∈ M, fD ≠ q.2 := fun q hq => (hMf q hq).2.symm
                      have gdn := good_nxt i8 hh
                      have fnn := fine_nxt i9 few.six' hh
                      have zn := few.szs gdn fnn (by omega)
                      refine ⟨_, rfl, mD, om, rfl, .inl ⟨_, eMi, for_it walk_keys (fun j σ H' => ∃ o2, σ = [some (.ref d), some (.ref c), o2, some (.ref fD), o4, some (.ref lD), some v6, some (.ref mD), some (.ref p5), some (.ref eD), some v8] ∧ SamD Hi H' ∧ Same H0 H' ∧ (∀ b u, (∀ q ∈ M, b ≠ q.2) → Hi b = some u → H' b = some u) ∧ Shs K H' M (S.map (·.1)) (gotUp (Wl W) st (ms.take j)))
                        ⟨_, rfl, SamD.refl _, i1.trans sM, fun _ _ _ h => h, (i7.same sM).congr fun n _ => ?_⟩ (fun j σ H' _ h => ?_) ?_ ?_⟩⟩
                      · funext k
                        exact (gotUp_at (by simp)).symm
                      · obtain ⟨_, _, sd, _⟩ := h
                        exact sd.frz eMi
                      · rintro j v σ H5 H5' hj ⟨o2', rfl, sd, s0', oth, shj⟩ ⟨rfl, kk', vv, hkv, rfl⟩
                        obtain ⟨n, en, rfl⟩ := key_m hkv
                        have mn := List.mem_of_getElem? en
                        have nt := take_nin ndm en
                        have gm := mget (sd.frz eMi) mn
                        refine ⟨_, rfl, _, rfl, mD, _, rfl, gm, rfl, _, rfl, ?_⟩
                        rw [take_next en]
                        cases hm : st.meal (Wl W) n with
                        | none => exact iteF ⟨_, rfl, sd, s0', oth, by rw [gotUp_none hm]; exact shj⟩
                        | some k =>
                          refine iteT ?_
                          rw [hm] at gm
                          have hk : k ∈ ks := (mks k).mpr (mem_foods.mpr ⟨n, by rw [Wl_names]; exact hms.mem_iff.mp mn, hm⟩)
                          have hn2 : n ∈ M.map (·.1) := by
                            rw [hM]
                            exact hns.mem_iff.mpr (hms.mem_iff.mp mn)
                          obtain ⟨⟨n, a⟩, hqm, rfl⟩ := List.mem_map.mp hn2
                          have eF5 := oth fD _ nF (sM _ _ i2)
                          have gF := mK_get (.inl eF5) shj.nd hqm
                          obtain ⟨R, r1, _⟩ := shj.row _ hqm
                          refine ⟨_, rfl, _, rfl, fD, .ref a, rfl, gF, a, rfl, .inl ⟨_, .inl r1⟩, _, rfl, _, rfl, mD, _, rfl, gm, two_le, fun p hp => ?_⟩
                          have sp := Same.new (o := .tup [.int 0, .int 1]) hp
                          obtain ⟨o, go, fo⟩ := ((shj.row _ hqm).same sp).get (k := k) (fr01 (p := p) upd_same)
                          rw [gotUp_at nt] at fo
                          have yz : Sz 64 (st.got n k + st.step (Wl W)) := by
                            have := zn.got n k
                            rw [show (st.nxt (Wl W)).got n k = st.got n k + if n ∈ (Wl W).map (·.1) ∧ st.meal (Wl W) n = some k then st.step (Wl W) else 0 from rfl, if_pos ⟨by rw [Wl_names]; exact hms.mem_iff.mp mn, hm⟩] at this
                            exact this
                          have yp : 0 < st.got n k + st.step (Wl W) := by
                            have := i8.g0 n k
                            grind
                          refine ⟨o, go, _, rfl, _, v8, st.got n k, st.step (Wl W), rfl, fo, (sd.fr f8).same sp, zz.got n k, st1, fun H6 r s9' hr e9' => ?_⟩
                          have s56 := sp.trans s9'
                          obtain ⟨H7, h71, h72, h73, h74⟩ := (shj.same s56).put hqm (Fr.of e9') yp yz (kS k hk).2 (by rw [List.length_map]; exact Nat.lt_of_le_of_lt few.seven (by decide))
                          refine ⟨_, rfl, _, rfl, fD, .ref a, rfl, mK_get (.inl (s56 _ _ eF5)) shj.nd hqm, _, rfl, _, rfl, mD, _, rfl, ?_, a, H7, rfl, h71, _, rfl, ?_, ?_, ?_, ?_⟩
                          · have g2 := mget (s56 _ _ (sd.frz eMi)) mn
                            rw [hm] at g2
                            exact g2
                          · exact (sd.trans (.of s56)).trans h72
                          · intro b ob hb
                            have nb : b ≠ a := ne_of_none hb (hMf _ hqm).1
                            rw [h73 b nb]
                            exact s56 _ _ (s0' _ _ hb)
                          · intro b u hb hu
                            rw [h73 b (hb _ hqm)]
                            exact s56 _ _ (oth b u hb hu)
                          · rw [← gotUp_some nt hm]
                            exact h74
                      · rintro σ Hj ⟨o2', rfl, sd, s0', oth, shj⟩
                        rw [len_m, List.take_length, gotUp_all (fun n => by rw [Wl_names]; exact hms.mem_iff)] at shj
                        have ePj : SqL K Hj p5 (ks.map V.str) := sd.seq (SqL.of ePi)
                        have eEj := oth eD _ nE eEi
                        have sj0 := shj
                        refine ⟨_, rfl, p5, rfl, ⟨_, ePj⟩, for_it (walk_list (xs := ks.map V.str)) (fun j σ H' => ∃ o4' L', σ = [some (.ref d), some (.ref c), o2', some (.ref fD), o4', some (.ref lD), some v6, some (.ref mD), some (.ref p5), some (.ref eD), some v8] ∧ SamD Hj H' ∧ Same H0 H' ∧ (∀ b u, b ≠ lD → Hj b = some u → H' b = some u) ∧ H' lD = some (.dK (tK L')) ∧ L'.map (·.1) = ys ∧ Lef K H' L' (leftDn (Wl W) st (ks.take j)))
                          ⟨_, L, rfl, SamD.refl _, s0', fun _ _ _ h => h, oth lD _ nlD (sM _ _ i3), i4, ?_⟩ (fun j σ H' _ h => ?_) ?_ ?_⟩
                        · have e : leftDn (Wl W) st (ks.take 0) = st.left := by
                            funext k
                            unfold leftDn
                            rw [if_neg (by simp)]
                          rw [e]
                          exact (i5.same sM).samD sd
                        · obtain ⟨_, _, _, sd2, _⟩ := h
                          exact sd2.seq ePj
                        · rintro j v σ H5 H5' hj ⟨o4', L', rfl, sd2, s02, oth2, hl2, ky2, lf2⟩ ⟨rfl, hv⟩
                          rw [List.getElem?_map] at hv
                          obtain ⟨x, ex, rfl⟩ := Option.map_eq_some_iff.mp hv
                          have mx := List.mem_of_getElem? ex
                          have nt := take_nin ndk ex
                          obtain ⟨vl, gl, fl⟩ := lf2.get hl2 (by rw [ky2]; exact (kS x mx).1)
                          have e0 : leftDn (Wl W) st (ks.take j) x = st.left x := by
                            unfold leftDn
                            rw [if_neg nt]
                          rw [e0] at fl
                          have nEl : eD ≠ lD := fun z => by
                            have := sH _ _ i3
                            rw [← z, heD] at this
                            cases this
                          have ge := eget (oth2 eD _ nEl eEj) mx
                          refine ⟨_, rfl, _, rfl, lD, vl, rfl, gl, _, rfl, _, rfl, _, rfl, eD, _, rfl, ge, two_le, fun p hp => ?_⟩
                          have sp := Same.new (o := .tup [.int ((st.eat (Wl W) x : Nat) : Int), .int 1]) hp
                          have fe : Fr K (upd H5' p (.tup [.int ((st.eat (Wl W) x : Nat) : Int), .int 1])) (.ref p) ((st.eat (Wl W) x : Nat) : Rat) := frN1 upd_same
                          have f8' : Fr K (upd H5' p (.tup [.int ((st.eat (Wl W) x : Nat) : Int), .int 1])) v8 (st.step (Wl W)) := ((f8.same (Same.refl _) |> sd.fr) |> sd2.fr).same sp
                          have ze : Sz 64 ((st.eat (Wl W) x : Nat) : Rat) := by
                            have h6 := Nat.le_trans (eat_le (W := Wl W) (s := st) x) few.six'
                            refine (Gr.int 0 ((st.eat (Wl W) x : Nat) : Int)).sz (by decide) ?_ ?_
                            · exact Rat.natCast_nonneg
                            · have : ((st.eat (Wl W) x : Nat) : Rat) ≤ ((30 : Nat) : Rat) := Rat.natCast_le_natCast.mpr (by omega)
                              exact this
                          refine ⟨v8, .ref p, st.step (Wl W), _, rfl, f8', fe, st1, ze, fun H6 r s9' hr e9' => ?_⟩
                          have s56 := sp.trans s9'
                          have fr6 : Fr K H6 (.ref r) ((st.eat (Wl W) x : Rat) * st.step (Wl W)) := by
                            rw [Rat.mul_comm]
                            exact Fr.of e9'
                          refine ⟨vl, .ref r, st.left x, _, rfl, fl.same s56, fr6, zz.left x, st2 x, fun H7 r2 s10 hr2 e10 => ?_⟩
                          have s57 := s56.trans s10
                          have hl7 := s57 _ _ hl2
                          have lk : L'.length < sizeLine := by
                            have : L'.length = ys.length := by rw [← ky2, List.length_map]
                            rw [this]
                            exact Nat.lt_trans lny (by decide)
                          have zy : Sz 64 (st.left x - (st.eat (Wl W) x : Rat) * st.step (Wl W)) := zn.left x
                          refine ⟨_, rfl, _, rfl, lD, _, rfl, .inl ⟨_, Sum.inr x, hl7, rfl, by rw [List.length_map]; exact lk, rfl⟩, _, put1 L' x (.ref r2), rfl, ?_, ?_, ?_, ?_, ?_, ?_⟩
                          · exact (sd2.trans (.of s57)).put hl7
                          · exact Same.mut (s02.trans s57) lD0
                          · intro b u hb hu
                            rw [upd_ne hb]
                            exact s57 _ _ (oth2 b u hb hu)
                          · rw [upd_same, tK_old _ (by rw [ky2]; exact (kS x mx).1)]
                          · rw [put1_keys]
                            exact ky2
                          · rw [take_next ex, ← leftDn_some]
                            exact ((lf2.same s57).old (Fr.of e10) zy (by rw [ky2]; exact (kS x mx).1)).samD (SamD.put1 hl7)
                        · rintro σ Hk ⟨o4', L', rfl, sd2, s02, oth2, hl2, ky2, lf2⟩
                          rw [List.length_map, List.take_length, leftDn_all mks] at lf2
                          have f8k : Fr K Hk v8 (st.step (Wl W)) := sd2.fr (sd.fr f8)
                          have f6k : Fr K Hk v6 (1 - st.hour) := sd2.fr (sd.fr (i6.same sM))
                          refine ⟨_, rfl, _, rfl, v6, v8, 1 - st.hour, st.step (Wl W), rfl, f6k, f8k, zz.hour, st1, fun H9 r s10 hr e10 => ?_⟩
                          have nd : ¬ st.done (Wl W) := fun z => by
                            rcases z with z | z
                            · exact z hh
                            · obtain ⟨n, hn, e⟩ := mem_foods.mp ((mks k0).mp (by rw [hk]; exact List.mem_cons_self))
                              rw [z n hn] at e
                              cases e
                          have ml := mu_lt i8 (fun k => few.key k) nd
                          have nFl : fD ≠ lD := ne_of_none (s2 _ _ e1) hlD
                          refine ⟨(st.nxt (Wl W)).mu (S.map (·.1)), ml, st.nxt (Wl W), i + 1, L', .ref r, _, _, _, _, _, _, rfl, rfl, s02.trans s10, s10 _ _ (oth2 fD _ nFl (oth fD _ nF (sM _ _ i2))), s10 _ _ hl2, ky2, lf2.same s10, ?_, ?_, gdn, fnn, by omega, (fin_nxt (fun k => few.key k) i8 (by omega) nd).trans i11⟩
                          · have e : 1 - (st.nxt (Wl W)).hour = 1 - st.hour - st.step (Wl W) := by
                              show 1 - (st.hour + st.step (Wl W)) = _
                              grind
                            rw [e]
                            exact Fr.of e10
                          · refine Shs.same s10 (shj.samD sd2 fun q hq => ?_)
                            obtain ⟨R, r1, _⟩ := shj.row q hq
                            rw [r1]
                            exact oth2 _ _ (nlD q hq).symm r1
end
end K79


set_option Elab.async false
set_option linter.all false
set_option maxRecDepth 100000
set_option maxHeartbeats 4000000
set_option pp.maxSteps 600
namespace Lk
open PySem L2 Eat
theorem ix_tupQ {X : Cx} {K : PySem.W.Frag} (h : X.K = K := by rfl) : IxR X (rIxT K) := by
  subst h
  exact ix_tup
theorem ix_listQ {X : Cx} {K : PySem.W.Frag} (h : X.K = K := by rfl) : IxR X (rIxL K) := by
  subst h
  exact ix_list
section
variable {K : PySem.W.Frag} {H H' : Hp}
theorem SqT.updL {D : Addr} {xs ys zs : List V} {p : Addr} (e : H D = some (.lst xs)) (h : SqT K H p zs) : SqT K (upd H D (.lst ys)) p zs := by
  rcases h with (h | ⟨o, h⟩) | h
  · refine .inl (.inl ?_)
    rw [upd_ne (fun z => by subst z; rw [e] at h; cases h)]
    exact h
  · refine .inl (.inr ⟨o, ?_⟩)
    rw [upd_ne (fun z => by subst z; rw [e] at h; cases h)]
    exact h
  · exact .inr h
theorem mergeK_tK : ∀ (L A : List (Str × V)), ((A ++ L).map (·.1)).Nodup → mergeK (tK A) (tK L) = tK (A ++ L)
  | [], A, _ => by rw [List.append_nil]; rfl
  | q :: L, A, h => by
    have nin : ¬ q.1 ∈ A.map (·.1) := fun z => by
      rw [List.map_append] at h
      exact (List.nodup_append.mp h).2.2 _ z _ (List.mem_cons_self) rfl
    show mergeK (putK (tK A) (Sum.inr q.1) q.2) (tK L) = _
    rw [tK_new _ nin, mergeK_tK L (A ++ [(q.1, q.2)]) (by rw [List.append_assoc]; exact h), List.append_assoc]
    rfl
theorem merge_nil {L : List (Str × V)} (h : (L.map (·.1)).Nodup) : mergeK [] (tK L) = tK L := mergeK_tK L [] h
end
/-- who eats what, in the order of the names -/
def ems (W : List (Str × List Str)) (st : Eat.S) (ns : List Str) : List (Str × Str) := ns.filterMap fun y => (st.meal W y).map fun k => (y, k)
section
variable {W : List (Str × List Str)} {st : Eat.S}
theorem ems_cons_none {y : Str} {ns : List Str} (h : st.meal W y = none) : ems W st (y :: ns) = ems W st ns := by
  unfold ems
  rw [List.filterMap_cons, h]
  rfl
theorem ems_cons_some {y k : Str} {ns : List Str} (h : st.meal W y = some k) : ems W st (y :: ns) = (y, k) :: ems W st ns := by
  unfold ems
  rw [List.filterMap_cons, h]
  rfl
theorem ems_append (a b : List Str) : ems W st (a ++ b) = ems W st a ++ ems W st b := List.filterMap_append
theorem ems_mem {ns : List Str} {y k : Str} : (y, k) ∈ ems W st ns ↔ y ∈ ns ∧ st.meal W y = some k := by
  unfold ems
  rw [List.mem_filterMap]
  constructor
  · rintro ⟨n, hn, e⟩
    obtain ⟨k', e1, e2⟩ := Option.map_eq_some_iff.mp e
    cases e2
    exact ⟨hn, e1⟩
  · rintro ⟨hn, e⟩
    exact ⟨y, hn, by rw [e]; rfl⟩
theorem ems_names : ∀ ns : List Str, (ems W st ns).map (·.1) = ns.filter fun y => (st.meal W y).isSome
  | [] => rfl
  | y :: ns => by
    cases h : st.meal W y with
    | none => rw [ems_cons_none h, ems_names ns, List.filter_cons, h]; rfl
    | some k => rw [ems_cons_some h, List.map_cons, ems_names ns, List.filter_cons, h]; rfl
theorem ems_foods : ∀ ns : List Str, (ems W st ns).map (·.2) = ns.filterMap (st.meal W)
  | [] => rfl
  | y :: ns => by
    cases h : st.meal W y with
    | none => rw [ems_cons_none h, ems_foods ns, List.filterMap_cons, h]
    | some k => rw [ems_cons_some h, List.map_cons, ems_foods ns, List.filterMap_cons, h]
theorem ems_nd {ns : List Str} (h : ns.Nodup) : ((ems W st ns).map (·.1)).Nodup := by
  rw [ems_names]
  exact h.sublist List.filter_sublist
theorem ems_count (k : Str) : ∀ ns : List Str, ((ems W st ns).map (·.2)).count k = ns.countP fun y => decide (st.meal W y = some k)
  | [] => rfl
  | y :: ns => by
    cases h : st.meal W y with
    | none =>
      rw [ems_cons_none h, ems_count k ns, List.countP_cons, h]
      simp
    | some k' =>
      rw [ems_cons_some h, List.map_cons, List.count_cons, ems_count k ns, List.countP_cons, h]
      simp
theorem ems_eat (k : Str) : ((ems W st (W.map (·.1))).map (·.2)).count k = st.eat W k := ems_count k _
theorem gotUp_ems {ns : List Str} (h : ∀ n, n ∈ ns ↔ n ∈ W.map (·.1)) : K79.gotUp W st ((ems W st ns).map (·.1)) = (st.nxt W).got := by
  funext n k
  unfold K79.gotUp
  show _ = st.got n k + if n ∈ W.map (·.1) ∧ st.meal W n = some k then st.step W else 0
  have e : (n ∈ (ems W st ns).map (·.1) ∧ st.meal W n = some k) ↔ (n ∈ W.map (·.1) ∧ st.meal W n = some k) := by
    rw [ems_names, List.mem_filter, ← h n]
    constructor
    · rintro ⟨⟨a, _⟩, b⟩
      exact ⟨a, b⟩
    · rintro ⟨a, b⟩
      exact ⟨⟨a, by rw [b]; rfl⟩, b⟩
  simp only [e]
/-- what is left when some have eaten -/
def leftSub (W : List (Str × List Str)) (st : Eat.S) (l : List Str) : Str → Rat := fun k => st.left k - ((l.count k : Nat) : Rat) * st.step W
theorem leftSub_nil : leftSub W st [] = st.left := by
  funext k
  unfold leftSub
  show _ - (0 : Rat) * _ = _
  grind
theorem leftSub_some {l : List Str} {k : Str} : chF (leftSub W st l) k (leftSub W st l k - st.step W) = leftSub W st (l ++ [k]) := by
  funext x
  unfold chF
  by_cases c : x = k
  · subst c
    rw [if_pos rfl]
    unfold leftSub
    have e : (l ++ [x]).count x = l.count x + 1 := by rw [List.count_append]; simp
    rw [e, Rat.natCast_add]
    show _ = _ - (_ + (1 : Rat)) * _
    grind
  · rw [if_neg c]
    unfold leftSub
    have e : (l ++ [k]).count x = l.count x := by
      rw [List.count_append, List.count_cons]
      simp [Ne.symm c]
    rw [e]
theorem leftSub_all : leftSub W st ((ems W st (W.map (·.1))).map (·.2)) = (st.nxt W).left := by
  funext k
  unfold leftSub
  rw [ems_eat]
  rfl
end
section
variable {W : List (Str × Addr × List Str)} {S : List (Str × Int)}
theorem Few.sub (h : Few W S) {i : Nat} {s : Eat.S} (g : Good (Wl W) (amt S) s) (f : Fine i s) (hi : i ≤ 8) (hh : s.hour < 1) {l : List Str} (k : Str) (hl : l.count k ≤ s.eat (Wl W) k) : Sz 64 (leftSub (Wl W) s l k) := by
  obtain ⟨p, _, _⟩ := h.step g f hi hh
  have gs := step_gr f h.six' hh
  have e2 := (eat_step (W := Wl W) (k := k) hh g.nn).2
  have c0 : (0 : Rat) ≤ ((l.count k : Nat) : Rat) := Rat.natCast_nonneg
  have c1 : ((l.count k : Nat) : Rat) ≤ ((s.eat (Wl W) k : Nat) : Rat) := Rat.natCast_le_natCast.mpr hl
  have m0 : 0 ≤ ((l.count k : Nat) : Rat) * s.step (Wl W) := Rat.mul_nonneg c0 (by grind)
  have m1 : ((l.count k : Nat) : Rat) * s.step (Wl W) ≤ ((s.eat (Wl W) k : Nat) : Rat) * s.step (Wl W) := Rat.mul_le_mul_of_nonneg_right c1 (by grind)
  have lf := g.lef k
  have a0 := (h.amt0 k).2
  refine ((f.left k).up.sub (gs.mul _)).sz (by omega) ?_ ?_
  · grind
  · grind
theorem Few.hour (h : Few W S) {i : Nat} {s : Eat.S} (g : Good (Wl W) (amt S) s) (f : Fine i s) (hi : i ≤ 9) : Sz 64 s.hour := by
  have h1 := g.h1
  have h0 := g.h0
  exact f.hour.sz hi h0 (by grind)
theorem num_pos {q : Rat} : decide ((0 : Int) < q.num) = decide (0 < q) := decide_eq_decide.mpr (by rw [Rat.lt_iff]; simp)
theorem ems_keys (W : List (Str × List Str)) (st : Eat.S) (ns : List Str) : ((ems W st ns).map fun q => (q.1, V.str q.2)).map (·.1) = (ems W st ns).map (·.1) := by rw [List.map_map]; rfl
theorem ems_vals (W : List (Str × List Str)) (st : Eat.S) (ns : List Str) : (tK ((ems W st ns).map fun q => (q.1, V.str q.2))).map (·.2) = ((ems W st ns).map (·.2)).map V.str := by rw [List.map_map, List.map_map, List.map_map]; rfl
theorem ems_len (W : List (Str × List Str)) (st : Eat.S) (ns : List Str) : (ems W st ns).length ≤ ns.length := List.length_filterMap_le _ _
end
end Lk


set_option Elab.async false
set_option linter.all false
set_option maxRecDepth 100000
set_option maxHeartbeats 4000000
set_option pp.maxSteps 900
namespace K79
open PySem L2 Lk Eat
/-- what holds at the head of the loop of _law_eaten -/
structure LInv (K : PySem.W.Frag) (W : List (Str × Addr × List Str)) (S : List (Str × Int)) (H0 H' : Hp) (fD lD : Addr) (M : List (Str × Addr)) (v4 : V) (st : Eat.S) (i : Nat) (L : List (Str × V)) : Prop where
  s0 : Same H0 H'
  fD : H' fD = some (.dK (tK (mK M)))
  lD : H' lD = some (.dK (tK L))
  ky : L.map (·.1) = S.map (·.1)
  lf : Lef K H' L st.left
  v4 : Fr K H' v4 st.hour
  sh : Shs K H' M (S.map (·.1)) st.got
  gd : Good (Wl W) (amt S) st
  fn : Fine i st
  im : i + st.mu (S.map (·.1)) ≤ 8
  fi : fin (Wl W) st = fin (Wl W) (st0 S)
section
variable {P : Program} {w : World} {K : PySem.W.Frag} {mg : Str → Option Value} {base : Heap}
theorem ok__law_eaten (T : Th K mg) : FnOk P w K mg base CX0 3 T.f__law_eaten T.d__law_eaten ["wishes", "stock"] (spEaten K) := by
  have G__law_less : FnOk P w K mg base CX0 1 T.f__law_less T.d__law_less ["one", "other"] (spLess K) := ok__law_less T
  have G__law_add : FnOk P w K mg base CX0 2 T.f__law_add T.d__law_add ["one", "other"] (sp2 K (· + ·)) := ok__law_add T
  have G__law_sub : FnOk P w K mg base CX0 2 T.f__law_sub T.d__law_sub ["one", "other"] (sp2 K (· - ·)) := ok__law_sub T
  have G__law_mul : FnOk P w K mg base CX0 2 T.f__law_mul T.d__law_mul ["one", "other"] (sp2 K (· * ·)) := ok__law_mul T
  refine T.F__law_eaten.ok sc__law_eaten (fun vs H Q E h => ?_) (fun cdv A outer s H0 vs Q E hr h => ?_)
  · obtain ⟨d, c, W, S, rfl, _⟩ := h
    rfl
  · obtain ⟨d, c, W, S, rfl, hW0, okW, hS0, okS, few, kk⟩ := h
    have hu := hu_of hr
    refine ⟨_, (pss_cons (ps_asg (pe_tup (pa_cons (pe_callTy (call_dictP rfl) (by rfl) T.n_dict (by decide +kernel) (pa_cons (pe_lc (own := [("kind", 2)]) rfl sc__law_eaten.nd (pi_keys (pv 1)) (blkOk_by (own := [("kind", 2)]) (N := N__law_eaten) (sc := defScope s__law_eaten) (by decide +kernel)) (fun _ _ _ _ _ => pg_name (i := 2) sc__law_eaten.nd rfl (Or.inl rfl)) (fun _ _ _ _ _ => pts_nil) (fun _ _ _ _ _ => pe_tup (pa_cons (pv 2) (pa_cons (pe_tup (pa_cons (pe_dget hu (pv 1) (pv 2) (fun _ _ => rfl)) (pa_cons pe_int pa_nil))) pa_nil)))) pa_nil)) (pa_cons (pe_tup (pa_cons pe_int (pa_cons pe_int pa_nil))) pa_nil))) (pg_tup rfl (pgs_cons (pg_name (i := 3) sc__law_eaten.nd rfl (Or.inr rfl)) (pgs_cons (pg_name (i := 4) sc__law_eaten.nd rfl (Or.inl rfl)) pgs_nil))))
      (pss_cons (ps_set (i := 6) sc__law_eaten.nd rfl (Or.inl rfl) (pe_callTy (call_dictP rfl) (by rfl) T.n_dict (by decide +kernel) (pa_cons (pe_lc (own := [("name", 5)]) rfl sc__law_eaten.nd (pi_keys (pv 0)) (blkOk_by (own := [("name", 5)]) (N := N__law_eaten) (sc := defScope s__law_eaten) (by decide +kernel)) (fun _ _ _ _ _ => pg_name (i := 5) sc__law_eaten.nd rfl (Or.inl rfl)) (fun _ _ _ _ _ => pts_nil) (fun _ _ _ _ _ => pe_tup (pa_cons (pv 5) (pa_cons pe_dnewK pa_nil)))) pa_nil)))
      (pss_cons (ps_while PassesOwn.never (pt_val (pe_call G__law_less (hr.mono (by decide)) rfl T.g__law_less T.F__law_less.kp T.b__law_less .nil pass0 (pa_cons (pv 4) (pa_cons (pe_tup (pa_cons pe_int (pa_cons pe_int pa_nil))) pa_nil))))
        (pss_cons (ps_set (i := 7) sc__law_eaten.nd rfl (Or.inl rfl) pe_dnewK)
        (pss_cons (ps_for PassesOwn.never rfl (pi_keys (pv 0)) (pg_name (i := 5) sc__law_eaten.nd rfl (Or.inl rfl))
          (pss_cons (ps_setLc (i := 8) (own := [("kind", 2)]) rfl sc__law_eaten.nd rfl rfl (sw_true rfl rfl rfl (by decide +kernel)) (pi_list (pe_dget hu (pv 0) (pv 5) (fun _ _ => rfl))) (blkOk_by (own := [("kind", 2)]) (N := N__law_eaten) (sc := defScope s__law_eaten) (by decide +kernel)) (fun _ _ _ _ _ => pg_name (i := 2) sc__law_eaten.nd rfl (Or.inl rfl)) (fun _ _ _ _ _ => pts_one (pt_cmpR op_gt (pe_ix (Lk.ix_tupQ (K := K)) (pe_dget2 hu (pv 3) (pv 2) (pe_tup (pa_cons pe_int (pa_cons pe_int pa_nil))) ⟨rfl, rfl, rfl, rfl⟩) pe_int (fun _ _ => rfl)) pe_int (nomark _))) (fun _ _ _ _ _ => pv 2))
          (pss_one (ps_if (pt_cmpR (op_neD hr.units) (pv 8) (pe_lst pa_nil) (nomark _))
            (pss_one (ps_dput hu (pv 7) (pv 5) (pe_ix ix_list (pv 8) pe_int (fun _ _ => rfl)) rfl))
            pss_nil))))
        (pss_cons (ps_if (pt_cmpR (Lk.op_eqDE hr.units) (pv 7) pe_dnewK (nomark _))
          (pss_one (ps_ret (pv 6)))
          pss_nil)
        (pss_cons (ps_set (i := 9) sc__law_eaten.nd rfl (Or.inl rfl) (pe_call G__law_sub (hr.mono (by decide)) rfl T.g__law_sub T.F__law_sub.kp T.b__law_sub .nil pass0 (pa_cons (pe_tup (pa_cons pe_int (pa_cons pe_int pa_nil))) (pa_cons (pv 4) pa_nil))))
        (pss_cons (ps_for PassesOwn.never rfl (pi_list (pe_callB (Lk.cr_sortedSetS rfl) (by rfl) T.n_sorted (by decide +kernel) (pa_cons (pe_callTy (Lk.cr_setS rfl) (by rfl) T.n_set (by decide +kernel) (pa_cons (Lk.pe_listVals rfl (pv 7) (by rfl) T.n_list (by decide +kernel)) pa_nil)) pa_nil))) (pg_name (i := 2) sc__law_eaten.nd rfl (Or.inl rfl))
          (pss_cons (ps_set (i := 10) sc__law_eaten.nd rfl (Or.inl rfl) (pe_call G__law_mul (hr.mono (by decide)) rfl T.g__law_mul T.F__law_mul.kp T.b__law_mul .nil pass0 (pa_cons (pe_dget hu (pv 3) (pv 2) (fun _ _ => rfl)) (pa_cons (pe_tup (pa_cons pe_int (pa_cons (pe_bm PySem.F.plainAttrs_list PySem.F.slot_list_count PySem.F.type_list_count Lk.mt_countS (Lk.pe_listVals rfl (pv 7) (by rfl) T.n_list (by decide +kernel)) (pa_cons (pv 2) pa_nil)) pa_nil))) pa_nil))))
          (pss_one (ps_set (i := 9) sc__law_eaten.nd rfl (Or.inl rfl) (pe_ifExp (pt_val (pe_call G__law_less (hr.mono (by decide)) rfl T.g__law_less T.F__law_less.kp T.b__law_less .nil pass0 (pa_cons (pv 10) (pa_cons (pv 9) pa_nil)))) (pv 10) (pv 9))))))
        (pss_cons (Lk.ps_frz (ps_for PassesOwn.never rfl (pi_keys (pv 7)) (pg_name (i := 5) sc__law_eaten.nd rfl (Or.inl rfl))
          (pss_cons (ps_set (i := 2) sc__law_eaten.nd rfl (Or.inl rfl) (pe_dget hu (pv 7) (pv 5) (fun _ _ => rfl)))
          (pss_cons (ps_dput hu (pe_dget hu (pv 6) (pv 5) (fun _ _ => rfl)) (pv 2) (pe_call G__law_add (hr.mono (by decide)) rfl T.g__law_add T.F__law_add.kp T.b__law_add .nil pass0 (pa_cons (pe_dget2 hu (pe_dget hu (pv 6) (pv 5) (fun _ _ => rfl)) (pv 2) (pe_tup (pa_cons pe_int (pa_cons pe_int pa_nil))) ⟨rfl, rfl, rfl, rfl⟩) (pa_cons (pv 9) pa_nil))) rfl)
          (pss_one (ps_dput hu (pv 3) (pv 2) (pe_call G__law_sub (hr.mono (by decide)) rfl T.g__law_sub T.F__law_sub.kp T.b__law_sub .nil pass0 (pa_cons (pe_dget hu (pv 3) (pv 2) (fun _ _ => rfl)) (pa_cons (pv 9) pa_nil))) rfl))))))
        (pss_one (ps_set (i := 4) sc__law_eaten.nd rfl (Or.inl rfl) (pe_call G__law_add (hr.mono (by decide)) rfl T.g__law_add T.F__law_add.kp T.b__law_add .nil pass0 (pa_cons (pv 4) (pa_cons (pv 9) pa_nil))))))))))))
      (pss_one (ps_ret (pv 6)))))), ?_⟩
    obtain ⟨od, hd⟩ := hW0.1
    obtain ⟨oc, hc⟩ := id hS0
    refine ⟨_, rfl, c, oc, rfl, .inl ⟨_, hc, fun D1 hD1 => lc_it walk_keys (fun j H' => Same H0 H' ∧ ∃ (ps : List Addr) (L : List (Str × V)), H' D1 = some (.lst (ps.map V.ref)) ∧ Paired (fun p (kv : Key × V) => SqT K H' p [kV kv.1, kv.2]) ps (tK L) ∧ L.map (·.1) = (S.map (·.1)).take j ∧ ∀ q ∈ L, Fr K H' q.2 (amt S q.1))
      ⟨Same.new hD1, [], [], upd_same, .nil, rfl, fun q z => nomatch z⟩ (fun j H' _ h => h.1 _ _ hc) ?_ ?_⟩⟩
    · rintro j v H1 H1' hj ⟨s1, ps, L, e1, pr, ky, hf⟩ ⟨rfl, k', v', hkv, rfl⟩
      obtain ⟨⟨x, n⟩, hq, rfl, rfl⟩ := key_at (f := fun n => V.int n) hkv
      have mq := List.mem_of_getElem? hq
      have ex : (S.map (·.1))[j]? = some x := by rw [List.getElem?_map, hq]; rfl
      have g := DGet.rd (x := x) (frz_rd ⟨oc, s1 _ _ hc⟩)
      rw [valV_map (fun n => V.int n) few.nS mq] at g
      refine ⟨rfl, _, rfl, _, rfl, _, rfl, c, .int n, rfl, g, two_le, fun a ha => ⟨two_le, fun b hb => ?_⟩⟩
      have s2 := (Same.new (o := HO.tup [.int n, .int 1]) ha).trans (Same.new (o := .tup [.str x, .ref a]) hb)
      have e2 := s2 _ _ e1
      have lp : ps.length = j := by
        have := Paired.length pr
        rw [List.length_map] at this
        have e3 : L.length = ((S.map (·.1)).take j).length := by rw [← ky, List.length_map]
        rw [this, e3, List.length_take]
        have := (List.getElem?_eq_some_iff.mp ex).1
        omega
      refine ⟨_, e2, ?_, Same.mut (s1.trans s2) hD1, ps ++ [b], L ++ [(x, .ref a)], by rw [upd_same, List.map_append]; rfl, ?_, by rw [List.map_append, ky, take_next ex]; rfl, fun q hq2 => ?_⟩
      · rw [List.length_map, lp]
        rw [List.length_map] at hj
        exact Nat.lt_trans (Nat.lt_of_lt_of_le hj few.seven) (by decide)
      · rw [show tK (L ++ [(x, V.ref a)]) = tK L ++ [(Sum.inr x, V.ref a)] from List.map_append]
        exact Paired.snoc (Paired.mapP pr fun p kv h => SqT.updL e2 (SqT.same s2 h)) (SqT.updL e2 (SqT.of upd_same))
      · rcases List.mem_append.mp hq2 with q1 | q1
        · exact Fr.updL e2 ((hf q q1).same s2)
        · rcases List.mem_cons.mp q1 with z | z
          · subst z
            show Fr K _ (V.ref a) (amt S x)
            rw [amt_mem few.nS mq]
            exact Fr.updL e2 ((frN1 upd_same).same (Same.new hb))
          · cases z
    · rintro H1 ⟨s1, ps, L, e1, pr, ky, hf⟩
      rw [List.length_map, show S.length = (S.map (·.1)).length by rw [List.length_map], List.take_length] at ky
      refine ⟨D1, ps, tK L, rfl, SqL.of e1, pr, fun lD hlD => ⟨two_le, fun p3 hp3 => ⟨two_le, fun p4 hp4 => ⟨p4, _, rfl, SqT.of upd_same, rfl, _, _, rfl, _, _, rfl, rfl, ?_⟩⟩⟩⟩
      have ndL : (L.map (·.1)).Nodup := by rw [ky]; exact few.nS
      rw [merge_nil ndL] at hp3 hp4 ⊢
      have lD0 : H0 lD = none := s1.free hlD
      have z0 := few.szs few.good few.fine (by decide)
      have sl : SamD H1 (upd H1 lD (.dK (tK L))) := .of (Same.new hlD)
      have lf0 : Lef K (upd H1 lD (.dK (tK L))) L (amt S) := ⟨ndL, fun q hq => sl.fr (hf q hq), fun x hx => amt_off fun z => hx (by rw [ky]; exact z), z0.left⟩
      have s34 := (Same.new (o := .tup [.int 0, .int 1]) hp3).trans (Same.new (o := .tup [.ref lD, .ref p3]) hp4)
      have lf2 := lf0.same s34
      have e2l := s34 _ _ (upd_same (H := H1) (a := lD) (o := .dK (tK L)))
      have f4 : Fr K (upd (upd (upd H1 lD (.dK (tK L))) p3 (.tup [.int 0, .int 1])) p4 (.tup [.ref lD, .ref p3])) (.ref p3) 0 := (fr01 upd_same).same (Same.new hp4)
      have t2 : Same H0 (upd (upd (upd H1 lD (.dK (tK L))) p3 (.tup [.int 0, .int 1])) p4 (.tup [.ref lD, .ref p3])) := s1.trans ((Same.new hlD).trans s34)
      generalize upd (upd (upd H1 lD (.dK (tK L))) p3 (.tup [.int 0, .int 1])) p4 (.tup [.ref lD, .ref p3]) = H2 at lf2 e2l f4 t2 ⊢
      have hd2 := t2 _ _ hd
      refine ⟨_, rfl, d, od, rfl, .inl ⟨_, hd2, fun D2 hD2 => lc_it walk_keys (fun j H' => Same H2 H' ∧ ∃ (ps : List Addr) (M : List (Str × Addr)), H' D2 = some (.lst (ps.map V.ref)) ∧ Paired (fun p (kv : Key × V) => SqT K H' p [kV kv.1, kv.2]) ps (tK (mK M)) ∧ M.map (·.1) = (W.map (·.1)).take j ∧ (∀ q ∈ M, H2 q.2 = none ∧ q.2 ≠ D2 ∧ H' q.2 = some (.dK [])) ∧ (M.map (·.2)).Nodup)
        ⟨Same.new hD2, [], [], upd_same, .nil, rfl, (fun q z => nomatch z), List.nodup_nil⟩ (fun j H' _ h => h.1 _ _ hd2) ?_ ?_⟩⟩
      · rintro j v H3 H3' hj ⟨s3, ps, M, e3, pr3, kM, hM, nM⟩ ⟨rfl, k', v', hkv, rfl⟩
        obtain ⟨⟨x, a0, l⟩, hq, rfl, rfl⟩ := key_at (f := fun (z : Addr × List Str) => V.ref z.1) hkv
        have ex : (W.map (·.1))[j]? = some x := by rw [List.getElem?_map, hq]; rfl
        refine ⟨rfl, _, rfl, fun a ha => ⟨two_le, fun b hb => ?_⟩⟩
        have s4 := (Same.new (o := HO.dK []) ha).trans (Same.new (o := .tup [.str x, .ref a]) hb)
        have e4 := s4 _ _ e3
        have lp : ps.length = j := by
          have := Paired.length pr3
          rw [List.length_map, List.length_map] at this
          have e5 : M.length = ((W.map (·.1)).take j).length := by rw [← kM, List.length_map]
          rw [this, e5, List.length_take]
          have := (List.getElem?_eq_some_iff.mp ex).1
          omega
        have naD : a ≠ D2 := (ne_of_none e3 ha).symm
        have nab : a ≠ b := ne_of_none upd_same hb
        refine ⟨_, e4, ?_, Same.mut (s3.trans s4) hD2, ps ++ [b], M ++ [(x, a)], by rw [upd_same, List.map_append]; rfl, ?_, by rw [List.map_append, kM, take_next ex]; rfl, fun q hq2 => ?_, ?_⟩
        · rw [List.length_map, lp]
          rw [List.length_map] at hj
          exact Nat.lt_trans (Nat.lt_of_lt_of_le hj few.six) (by decide)
        · rw [show tK (mK (M ++ [(x, a)])) = tK (mK M) ++ [(Sum.inr x, V.ref a)] by rw [show mK (M ++ [(x, a)]) = mK M ++ [(x, V.ref a)] from List.map_append]; exact List.map_append]
          exact Paired.snoc (Paired.mapP pr3 fun p kv h => SqT.updL e4 (SqT.same s4 h)) (SqT.updL e4 (SqT.of upd_same))
        · rcases List.mem_append.mp hq2 with q1 | q1
          · obtain ⟨m1, m2, m3⟩ := hM q q1
            exact ⟨m1, m2, by rw [upd_ne m2]; exact s4 _ _ m3⟩
          · rcases List.mem_cons.mp q1 with z | z
            · subst z
              exact ⟨s3.free ha, naD, by rw [upd_ne naD, upd_ne nab, upd_same]⟩
            · cases z
        · rw [List.map_append]
          refine List.nodup_append.mpr ⟨nM, List.nodup_cons.mpr ⟨(fun z => nomatch z), List.nodup_nil⟩, fun u hu b2 hb2 e => ?_⟩
          rcases List.mem_cons.mp hb2 with z | z
          · obtain ⟨q, hq, e6⟩ := List.mem_map.mp hu
            have := (hM q hq).2.2
            rw [e6, e, show b2 = a from z, ha] at this
            cases this
          · cases z
      · rintro H3 ⟨s3, ps, M, e3, pr3, kM, hM, nM⟩
        rw [List.length_map, show W.length = (W.map (·.1)).length by rw [List.length_map], List.take_length] at kM
        refine ⟨D2, ps, tK (mK M), rfl, SqL.of e3, pr3, fun fD hfD => ?_⟩
        have nnM : (M.map (·.1)).Nodup := by rw [kM]; exact few.nW
        rw [merge_nil (by rw [mK_keys]; exact nnM)]
        have fD2 : H2 fD = none := s3.free hfD
        have fD0 : H0 fD = none := t2.free fD2
        have nMf : ∀ q ∈ M, q.2 ≠ fD := fun q hq => ne_of_none (hM q hq).2.2 hfD
        have sh0 : Shs K (upd H3 fD (.dK (tK (mK M)))) M (S.map (·.1)) fun _ _ => 0 := ⟨nnM, nM, fun q hq => Row.nil (by rw [upd_ne (nMf q hq)]; exact (hM q hq).2.2)⟩
        have nMl : ∀ q ∈ M, lD ≠ q.2 := fun q hq => ne_of_none e2l (hM q hq).1
        have nfl : fD ≠ lD := (ne_of_none e2l fD2).symm
        have ret : ∀ {H' : Hp} {st : Eat.S} {v4 : V} {i : Nat} {L : List (Str × V)}, LInv K W S H0 H' fD lD M v4 st i L → st.done (Wl W) → Q (.ref fD) H' := fun {H' st v4 i L} I hdone => by
          obtain ⟨i1, i2, i3, i4, i5, i6, i7, i8, i9, i10, i11⟩ := I
          refine kk H' fD M i1 fD0 (fun q hq => ⟨t2.free (hM q hq).1, nMf q hq⟩) (by rw [kM]) i2 ?_
          rw [← i11, fin_done hdone]
          exact i7
        have s5 : Same H2 (upd H3 fD (.dK (tK (mK M)))) := s3.trans (Same.new hfD)
        refine seq_while (fun m σ H' => ∃ (st : Eat.S) (i : Nat) (L : List (Str × V)) (v4 : V) (o2 o5 o7 o8 o9 o10 : Option V), σ = [some (.ref d), some (.ref c), o2, some (.ref lD), some v4, o5, some (.ref fD), o7, o8, o9, o10] ∧ m = st.mu (S.map (·.1)) ∧ LInv K W S H0 H' fD lD M v4 st i L)
          (fun σ H' => ∃ (st : Eat.S) (i : Nat) (L : List (Str × V)) (v4 : V) (o2 o5 o7 o8 o9 o10 : Option V), σ = [some (.ref d), some (.ref c), o2, some (.ref lD), some v4, o5, some (.ref fD), o7, o8, o9, o10] ∧ st.done (Wl W) ∧ LInv K W S H0 H' fD lD M v4 st i L)
          _ ⟨st0 S, 0, L, .ref p3, none, none, none, none, none, none, rfl, rfl, t2.trans s5, upd_same, s5 _ _ e2l, ky, lf2.same s5, f4.same s5, sh0, few.good, few.fine, few.mu, rfl⟩ ?_ ?_
        · rintro σ H4 ⟨st, i, L, v4, o2, o5, o7, o8, o9, o10, rfl, hdone, I⟩
          exact ⟨_, rfl, ret I hdone⟩
        · rintro _ m σ H4 ⟨st, i, L, v4, o2, o5, o7, o8, o9, o10, rfl, rfl, I⟩
          have I0 := I
          obtain ⟨i1, i2, i3, i4, i5, i6, i7, i8, i9, i10, i11⟩ := I
          have zz := few.szs i8 i9 (by omega)
          have zh := few.hour i8 i9 (by omega)
          refine ⟨_, rfl, two_le, fun p hp => ⟨v4, .ref p, st.hour, 1, rfl, i6.same (Same.new hp), fr11 upd_same, zh, sz1, fun Ha sA0 => ⟨_, rfl, ?_⟩⟩⟩
          have sA : Same H4 Ha := (Same.new hp).trans sA0
          by_cases hh : st.hour < 1
          case neg =>
            rw [decide_eq_false hh]
            exact iteF ⟨_, rfl, ret (H' := Ha) ⟨i1.trans sA, sA _ _ i2, sA _ _ i3, i4, i5.same sA, i6.same sA, i7.same sA, i8, i9, i10, i11⟩ (.inl hh)⟩
          case pos =>
          have i8' : i ≤ 7 := by
            have : 0 < st.mu (S.map (·.1)) := by
              unfold Eat.S.mu
              rw [if_pos hh]
              omega
            omega
          obtain ⟨st0', st1, st2⟩ := few.step i8 i9 (by omega) hh
          rw [decide_eq_true hh]
          refine iteT ⟨_, fun _ _ h => h, ?_⟩
          have sA' : Same H0 Ha := i1.trans sA
          refine fun mD hmD => ?_
          have hmD0 : H0 mD = none := sA'.free hmD
          have hm4 : H4 mD = none := sA.free hmD
          have sm := Same.new (o := HO.dK []) hmD
          refine ⟨_, rfl, d, od, rfl, .inl ⟨_, sm _ _ (sA' _ _ hd), for_it walk_keys (fun j σ H' => ∃ o2 o5 o8, σ = [some (.ref d), some (.ref c), o2, some (.ref lD), some v4, o5, some (.ref fD), some (.ref mD), o8, o9, o10] ∧ Same Ha H' ∧ H' mD = some (.dK (tK ((ems (Wl W) st ((W.map (·.1)).take j)).map fun q => (q.1, V.str q.2)))))
            ⟨_, _, _, rfl, sm, by rw [List.take_zero]; exact upd_same⟩ (fun j σ H' _ h => ?_) ?_ ?_⟩⟩
          · obtain ⟨_, _, _, _, s6, _⟩ := h
            exact s6 _ _ (sA' _ _ hd)
          · rintro j v σ H5 H5' hj ⟨o2', o5', o8', rfl, s6, e6⟩ ⟨rfl, k', v', hkv, rfl⟩
            obtain ⟨⟨x, a, l⟩, hq, rfl, rfl⟩ := key_at (f := fun (z : Addr × List Str) => V.ref z.1) hkv
            have mq := List.mem_of_getElem? hq
            have ex : (W.map (·.1))[j]? = some x := by rw [List.getElem?_map, hq]; rfl
            have nt := take_nin few.nW ex
            obtain ⟨q1, q2, q3, q4⟩ := okW.1 _ mq
            have g0 := DGet.rd (x := x) (frz_rd ⟨od, s6 _ _ (sA' _ _ hd)⟩)
            rw [valV_map (fun (z : Addr × List Str) => V.ref z.1) few.nW mq] at g0
            have hs : SqL K H5' a (l.map V.str) := (sA'.trans s6).seq (hW0.2 _ mq)
            have wx : wl (Wl W) x = l := wl_mem few.nW mq
            refine ⟨_, rfl, _, rfl, d, V.ref a, rfl, g0, a, rfl, ⟨_, hs⟩, fun D hD => lc_it (walk_list (xs := l.map V.str)) (fun jj H' => Same H5' H' ∧ H' D = some (.lst (((l.take jj).filter fun k => decide (0 < st.left k)).map V.str))) ⟨Same.new hD, upd_same⟩ (fun jj H' _ h => h.1.seq hs) ?_ ?_⟩
            · rintro jj v H6 H6' hjj ⟨s7, e7⟩ ⟨rfl, hv⟩
              rw [List.getElem?_map] at hv
              obtain ⟨y, ey, rfl⟩ := Option.map_eq_some_iff.mp hv
              have sl6 : Same H4 H6' := sA.trans (s6.trans s7)
              refine ⟨rfl, _, rfl, lD, rfl, .inl ⟨_, .inl (sl6 _ _ i3)⟩, _, rfl, two_le, fun p hp => ?_⟩
              have sp := Same.new (o := .tup [.int 0, .int 1]) hp
              have fx := lef_get (k := y) ((i5.same sl6).same sp) (fr01 (p := p) upd_same)
              obtain ⟨p', ep, sq⟩ := fx
              refine ⟨_, DGet.rd (.inl (sp _ _ (sl6 _ _ i3))), p', _, _, _, ep, rfl, sq, at0, _, _, rfl, rfl, _, rfl, ?_⟩
              have e8 := sp _ _ e7
              have et : (l.take (jj + 1)).filter (fun k => decide (0 < st.left k)) = (l.take jj).filter (fun k => decide (0 < st.left k)) ++ if decide (0 < st.left y) = true then [y] else [] := by
                rw [take_next ey, List.filter_append, List.filter_cons, List.filter_nil]
              rw [num_pos]
              by_cases cx : 0 < st.left y
              · rw [decide_eq_true cx]
                refine iteT ⟨_, rfl, _, e8, ?_, Same.mut (s7.trans sp) hD, ?_⟩
                · rw [List.length_map]
                  have h1 := List.length_filter_le (fun k => decide (0 < st.left k)) (l.take jj)
                  have h2 := List.length_take_le' jj l
                  exact Nat.lt_of_le_of_lt (Nat.le_trans h1 (Nat.le_trans h2 q4)) (by decide)
                · rw [upd_same, et, if_pos (decide_eq_true cx), List.map_append]
                  rfl
              · rw [decide_eq_false cx]
                refine iteF ⟨s7.trans sp, ?_⟩
                rw [e8, et, if_neg (by simp [cx]), List.append_nil]
            · rintro H6 ⟨s7, e7⟩
              rw [List.length_map, List.take_length] at e7
              have em : st.meal (Wl W) x = (l.filter fun k => decide (0 < st.left k)).head? := by
                show Eat.meal st.left (wl (Wl W) x) = _
                rw [wx]
                unfold Eat.meal
                rw [List.head?_filter]
              refine ⟨_, rfl, by decide, fun p hp => ?_⟩
              have sp := Same.new (o := .lst []) hp
              have e8 := sp _ _ e7
              have eN : (upd H6 p (.lst [])) p = some (.lst []) := upd_same
              have s8 := s7.trans sp
              generalize upd H6 p (.lst []) = H7 at e8 eN s8 ⊢
              have ml := s8 _ _ e6
              cases hl2 : l.filter fun k => decide (0 < st.left k) with
              | nil =>
                rw [hl2] at e8 em
                refine ⟨.list [], .list [], .lst (SqL.of e8) .nil, .lst (SqL.of eN) .nil, rfl, rfl, ?_⟩
                rw [eqv_nil]
                refine ⟨_, rfl, iteF ⟨_, _, _, rfl, s6.trans s8, ?_⟩⟩
                rw [take_next ex, ems_append, ems_cons_none em]
                show _ = some (HO.dK (tK ((_ ++ []).map _)))
                rw [List.append_nil]
                exact ml
              | cons y r =>
                rw [hl2] at e8 em
                refine ⟨.list ((y :: r).map PyData.str), .list [], .lst (SqL.of e8) (dp_strs _), .lst (SqL.of eN) .nil, strs_shaped fun y' hy => (q2 y' ?_).2.2, rfl, ?_⟩
                · have hy2 : y' ∈ l.filter fun k => decide (0 < st.left k) := by rw [hl2]; exact hy
                  exact (List.mem_filter.mp hy2).1
                · rw [show PyData.eqv (.list ((y :: r).map PyData.str)) (.list []) = false from rfl]
                  refine ⟨_, rfl, iteT ⟨_, rfl, D, _, _, _, rfl, rfl, SqL.of e8, at_of (j := 0) rfl rfl, _, rfl, _, rfl, mD, _, rfl, .inl ⟨_, Sum.inr x, ml, rfl, ?_, rfl⟩, _, _, _, rfl, Same.mut (s6.trans s8) hmD, ?_⟩⟩
                  · rw [List.length_map, List.length_map]
                    have h1 := ems_len (Wl W) st ((W.map (·.1)).take j)
                    have h2 := List.length_take_le' j (W.map (·.1))
                    rw [List.length_map] at h2
                    exact Nat.lt_of_le_of_lt (Nat.le_trans h1 (Nat.le_trans h2 few.six)) (by decide)
                  · rw [upd_same, tK_new _ (by
                      rw [ems_keys, ems_names]
                      exact fun z => nt (List.mem_filter.mp z).1), take_next ex, ems_append, ems_cons_some em, List.map_append]
                    rfl
          · rintro σ Hb ⟨o2', o5', o8', rfl, s6, e6⟩
            rw [List.length_map, show W.length = (W.map (·.1)).length by rw [List.length_map], List.take_length] at e6
            have hE : ems (Wl W) st (W.map (·.1)) = ems (Wl W) st ((Wl W).map (·.1)) := by rw [Wl_names]
            rw [hE] at e6
            have sB : Same H4 Hb := sA.trans s6
            refine ⟨_, rfl, fun p hp => ⟨mD, p, _, rfl, rfl, .inl (Same.new hp _ _ e6), .inl upd_same, _, rfl, ?_⟩⟩
            have sC : Same H4 (upd Hb p (.dK [])) := sB.trans (Same.new hp)
            have eC := Same.new (o := .dK []) hp _ _ e6
            generalize upd Hb p (.dK []) = Hc at sC eC ⊢
            cases hems : ems (Wl W) st ((Wl W).map (·.1)) with
            | nil =>
              refine iteT ⟨_, rfl, ret (H' := Hc) ⟨i1.trans sC, sC _ _ i2, sC _ _ i3, i4, i5.same sC, i6.same sC, i7.same sC, i8, i9, i10, i11⟩ (.inr fun n hn => ?_)⟩
              cases e : st.meal (Wl W) n with
              | none => rfl
              | some k =>
                have := ems_mem.mpr ⟨hn, e⟩
                rw [hems] at this
                cases this
            | cons q0 qr =>
              refine iteF ?_
              have ndone : ¬ st.done (Wl W) := fun z => by
                rcases z with z | z
                · exact z hh
                · have m0 : (q0.1, q0.2) ∈ ems (Wl W) st ((Wl W).map (·.1)) := by rw [hems]; exact List.mem_cons_self
                  obtain ⟨a1, a2⟩ := ems_mem.mp m0
                  rw [z _ a1] at a2
                  cases a2
              generalize (cxOf CX0 P w K mg base N__law_eaten "_law_eaten" (defScope s__law_eaten) T.f__law_eaten cdv A outer s H0 E).nox.w = w'
              refine ⟨two_le, fun p hp => ⟨_, rfl, .ref p, v4, 1, st.hour, rfl, fr11 upd_same, (i6.same sC).same (Same.new hp), sz1, zh, fun Hd p9 s9 h9 e9 => ?_⟩⟩
              have sD : Same Hc Hd := (Same.new hp).trans s9
              have eD := sD _ _ eC
              have lE : (ems (Wl W) st ((Wl W).map (·.1))).length ≤ 6 := by
                refine Nat.le_trans (ems_len _ _ _) ?_
                rw [List.length_map]
                exact few.six'
              have vE : (upd Hd · (HO.lst ((tK ((ems (Wl W) st ((Wl W).map (·.1))).map fun q => (q.1, V.str q.2))).map (·.2)))) = fun p => upd Hd p (HO.lst (((ems (Wl W) st ((Wl W).map (·.1))).map (·.2)).map V.str)) := by
                funext p
                rw [ems_vals]
              refine ⟨_, rfl, mD, _, rfl, .inl eD, fun p3 hp3 => ⟨p3, (ems (Wl W) st ((Wl W).map (·.1))).map (·.2), rfl, ?_, ?_, fun q hq => ⟨q, _, rfl, upd_same, ?_, fun ks p5 hks _ hp5 => ⟨p5, rfl, ⟨_, SqL.of upd_same⟩, ?_⟩⟩⟩⟩
              · rw [← ems_vals]
                exact SqL.of upd_same
              · rw [List.length_map]
                omega
              · have := gath_len ((ems (Wl W) st ((Wl W).map (·.1))).map (·.2)) []
                simp only [List.length_nil, List.length_map] at this
                omega
              have ndk : ks.Nodup := hks.nodup_iff.mpr (gath_nd _ _ List.nodup_nil)
              have mks : ∀ k, k ∈ ks ↔ k ∈ st.foods (Wl W) := fun k => by
                rw [hks.mem_iff, gath_mem, ems_foods]
                show k ∈ [] ∨ _ ↔ k ∈ ((Wl W).map (·.1)).filterMap (st.meal (Wl W))
                constructor
                · rintro (z | z)
                  · cases z
                  · exact z
                · exact .inr
              have kS : ∀ k, k ∈ st.foods (Wl W) → k ∈ L.map (·.1) ∧ k ∈ S.map (·.1) := fun k hk => by
                have h1 := food_left hk
                have h2 : k ∈ L.map (·.1) := Classical.byContradiction fun c => by
                  rw [i5.off k c] at h1
                  exact absurd h1 (by decide)
                exact ⟨h2, by rw [← i4]; exact h2⟩
              have sE : Same Hd _ := (Same.new (o := HO.lst ((tK ((ems (Wl W) st ((Wl W).map (·.1))).map fun q => (q.1, V.str q.2))).map (·.2))) hp3).trans ((Same.new (o := SetSO w' q (gath [] ((ems (Wl W) st ((Wl W).map (·.1))).map (·.2)))) hq).trans (Same.new (o := .lst (ks.map V.str)) hp5))
              have eK : (upd (upd (upd Hd p3 (HO.lst ((tK ((ems (Wl W) st ((Wl W).map (·.1))).map fun q => (q.1, V.str q.2))).map (·.2)))) q (SetSO w' q (gath [] ((ems (Wl W) st ((Wl W).map (·.1))).map (·.2))))) p5 (.lst (ks.map V.str))) p5 = some (.lst (ks.map V.str)) := upd_same
              generalize upd (upd (upd Hd p3 (HO.lst ((tK ((ems (Wl W) st ((Wl W).map (·.1))).map fun q => (q.1, V.str q.2))).map (·.2)))) q (SetSO w' q (gath [] ((ems (Wl W) st ((Wl W).map (·.1))).map (·.2))))) p5 (.lst (ks.map V.str)) = He at sE eK ⊢
              have sF : Same H4 He := sC.trans (sD.trans sE)
              have eM := sE _ _ eD
              have f9 : Fr K He (.ref p9) (1 - st.hour) := (Fr.of e9).same sE
              refine for_it (walk_list (xs := ks.map V.str)) (fun j σ H' => ∃ o2 v9 o10, σ = [some (.ref d), some (.ref c), o2, some (.ref lD), some v4, o5', some (.ref fD), some (.ref mD), o8', some v9, o10] ∧ Same He H' ∧ Fr K H' v9 (((ks.take j).map fun k => st.left k * (1 / (st.eat (Wl W) k : Rat))).foldl least (1 - st.hour)) ∧ Sz 64 (((ks.take j).map fun k => st.left k * (1 / (st.eat (Wl W) k : Rat))).foldl least (1 - st.hour)))
                ⟨_, _, _, rfl, Same.refl _, f9, zz.hour⟩ (fun j σ H' _ h => ?_) ?_ ?_
              · obtain ⟨_, _, _, _, s10, _⟩ := h
                exact SqL.of (s10 _ _ eK)
              · rintro j v σ H5 H5' hj ⟨o2'', v9, o10', rfl, s10, f10, z10⟩ ⟨rfl, hv⟩
                rw [List.getElem?_map] at hv
                obtain ⟨x, ex, rfl⟩ := Option.map_eq_some_iff.mp hv
                have mx := (mks x).mp (List.mem_of_getElem? ex)
                have sG := sF.trans s10
                obtain ⟨vl, gl, fl⟩ := (i5.same sG).get (sG _ _ i3) (kS x mx).1
                have hpos : 0 < st.eat (Wl W) x := eat_pos.mpr mx
                obtain ⟨z1, z2⟩ := few.part i8 i9 (by omega) hpos
                refine ⟨_, rfl, _, rfl, lD, vl, rfl, gl, _, rfl, mD, _, rfl, .inl (s10 _ _ eM), fun p6 hp6 => ⟨.inl ⟨rfl, _, SqL.of upd_same⟩, _, rfl, p6, (ems (Wl W) st ((Wl W).map (·.1))).map (·.2), x, rfl, rfl, ?_, two_le, fun p7 hp7 => ?_⟩⟩
                · rw [← ems_vals]
                  exact SqL.of upd_same
                · have ec : (((ems (Wl W) st ((Wl W).map (·.1))).map (·.2)).count x) = st.eat (Wl W) x := ems_eat x
                  have s67 := (Same.new (o := HO.lst ((tK ((ems (Wl W) st ((Wl W).map (·.1))).map fun q => (q.1, V.str q.2))).map (·.2))) hp6).trans (Same.new (o := .tup [.int 1, .int ((((ems (Wl W) st ((Wl W).map (·.1))).map (·.2)).count x : Nat) : Int)]) hp7)
                  refine ⟨vl, .ref p7, st.left x, 1 / ((((ems (Wl W) st ((Wl W).map (·.1))).map (·.2)).count x : Nat) : Rat), rfl, fl.same s67, fr1N (by rw [ec]; exact hpos) upd_same, zz.left x, by rw [ec]; exact z1, fun H6 r s11 hr e11 => ?_⟩
                  have s12 := s67.trans s11
                  have fr' : Fr K H6 (.ref r) (st.left x * (1 / (st.eat (Wl W) x : Rat))) := by
                    have q : Fr K H6 (.ref r) (st.left x * (1 / ((((ems (Wl W) st ((Wl W).map (·.1))).map (·.2)).count x : Nat) : Rat))) := Fr.of e11
                    rw [ec] at q
                    exact q
                  have f10' := f10.same s12
                  refine ⟨_, rfl, _, rfl, _, _, _, _, rfl, fr', f10', z2, z10, fun H7 s13 => ⟨_, rfl, ?_⟩⟩
                  rw [take_next ex, List.map_append, List.foldl_append]
                  show if decide (_ < _) = true then _ else _
                  by_cases cc : st.left x * (1 / (st.eat (Wl W) x : Rat)) < ((ks.take j).map fun k => st.left k * (1 / (st.eat (Wl W) k : Rat))).foldl least (1 - st.hour)
                  · have e : [x].map (fun k => st.left k * (1 / (st.eat (Wl W) k : Rat))) = [st.left x * (1 / (st.eat (Wl W) x : Rat))] := rfl
                    rw [decide_eq_true cc]
                    refine iteT ⟨_, rfl, _, _, _, rfl, s10.trans (s12.trans s13), ?_⟩
                    rw [e]
                    show Fr K H7 _ (least _ _) ∧ Sz 64 (least _ _)
                    rw [show least (((ks.take j).map fun k => st.left k * (1 / (st.eat (Wl W) k : Rat))).foldl least (1 - st.hour)) (st.left x * (1 / (st.eat (Wl W) x : Rat))) = st.left x * (1 / (st.eat (Wl W) x : Rat)) from if_pos cc]
                    exact ⟨fr'.same s13, z2⟩
                  · have e : [x].map (fun k => st.left k * (1 / (st.eat (Wl W) k : Rat))) = [st.left x * (1 / (st.eat (Wl W) x : Rat))] := rfl
                    rw [decide_eq_false cc]
                    refine iteF ⟨_, rfl, _, _, _, rfl, s10.trans (s12.trans s13), ?_⟩
                    rw [e]
                    show Fr K H7 _ (least _ _) ∧ Sz 64 (least _ _)
                    rw [show least (((ks.take j).map fun k => st.left k * (1 / (st.eat (Wl W) k : Rat))).foldl least (1 - st.hour)) (st.left x * (1 / (st.eat (Wl W) x : Rat))) = ((ks.take j).map fun k => st.left k * (1 / (st.eat (Wl W) k : Rat))).foldl least (1 - st.hour) from if_neg cc]
                    exact ⟨f10'.same s13, z10⟩
              · rintro σ Hf ⟨o2'', v9, o10', rfl, s10, f10, z10⟩
                rw [List.length_map, List.take_length, step_fold mks] at f10 z10
                have sG := sF.trans s10
                refine ⟨mD, _, s10 _ _ eM, trivial, fun om => ?_⟩
                have sH : Same H4 (upd Hf mD (.frz om (.dK (tK ((ems (Wl W) st ((Wl W).map (·.1))).map fun q => (q.1, V.str q.2)))))) := Same.mut sG hm4
                have eH : (upd Hf mD (.frz om (.dK (tK ((ems (Wl W) st ((Wl W).map (·.1))).map fun q => (q.1, V.str q.2)))))) mD = some (.frz om (.dK (tK ((ems (Wl W) st ((Wl W).map (·.1))).map fun q => (q.1, V.str q.2))))) := upd_same
                have f11 : Fr K (upd Hf mD (.frz om (.dK (tK ((ems (Wl W) st ((Wl W).map (·.1))).map fun q => (q.1, V.str q.2)))))) v9 (st.step (Wl W)) := ((SamD.refl Hf).putA (s10 _ _ eM)).fr f10
                generalize upd Hf mD (.frz om (.dK (tK ((ems (Wl W) st ((Wl W).map (·.1))).map fun q => (q.1, V.str q.2))))) = Hm at sH eH f11 ⊢
                have nmW : ((Wl W).map (·.1)).Nodup := by rw [Wl_names]; exact few.nW
                have ndE := ems_nd (W := Wl W) (st := st) nmW
                have mget : ∀ {H' : Hp} {q : Str × Str}, H' mD = some (.frz om (.dK (tK ((ems (Wl W) st ((Wl W).map (·.1))).map fun q => (q.1, V.str q.2))))) → q ∈ ems (Wl W) st ((Wl W).map (·.1)) → DGet H' mD (.str q.1) (some (.str q.2)) := fun {H' q} e hq => by
                  have g := DGet.rd (x := q.1) (frz_rd ⟨om, e⟩)
                  rw [tK_val (by rw [ems_keys]; exact ndE) (show (q.1, V.str q.2) ∈ _ from List.mem_map.mpr ⟨q, hq, rfl⟩)] at g
                  exact g
                have gdn := good_nxt i8 hh
                have fnn := fine_nxt i9 few.six' hh
                have zn := few.szs gdn fnn (by omega)
                have hS7 : (S.map (·.1)).length < 1000 := by rw [List.length_map]; exact Nat.lt_of_le_of_lt few.seven (by decide)
                refine ⟨_, rfl, mD, om, rfl, .inl ⟨_, eH, for_it walk_keys (fun j σ H' => ∃ o2 o5 L', σ = [some (.ref d), some (.ref c), o2, some (.ref lD), some v4, o5, some (.ref fD), some (.ref mD), o8', some v9, o10'] ∧ SamD Hm H' ∧ Same H0 H' ∧ H' fD = some (.dK (tK (mK M))) ∧ H' lD = some (.dK (tK L')) ∧ L'.map (·.1) = S.map (·.1) ∧ Lef K H' L' (leftSub (Wl W) st (((ems (Wl W) st ((Wl W).map (·.1))).map (·.2)).take j)) ∧ Shs K H' M (S.map (·.1)) (gotUp (Wl W) st (((ems (Wl W) st ((Wl W).map (·.1))).map (·.1)).take j)))
                  ⟨_, _, L, rfl, SamD.refl _, i1.trans sH, sH _ _ i2, sH _ _ i3, i4, by rw [List.take_zero, leftSub_nil]; exact i5.same sH, (i7.same sH).congr fun n _ => by funext k; exact (gotUp_at (by simp)).symm⟩ (fun j σ H' _ h => ?_) ?_ ?_⟩⟩
                · obtain ⟨_, _, _, _, sd, _⟩ := h
                  exact sd.frz eH
                · rintro j v σ H5 H5' hj ⟨o2', o5'', L', rfl, sd, s0', eF5, eL5, ky5, lf5, sh5⟩ ⟨rfl, kk', vv, hkv, rfl⟩
                  obtain ⟨q1, hq1, rfl, rfl⟩ := key_at (f := fun v => v) hkv
                  rw [List.getElem?_map] at hq1
                  obtain ⟨⟨n, k⟩, en, rfl⟩ := Option.map_eq_some_iff.mp hq1
                  have mn := List.mem_of_getElem? en
                  obtain ⟨hn, hm⟩ := ems_mem.mp mn
                  have en1 : ((ems (Wl W) st ((Wl W).map (·.1))).map (·.1))[j]? = some n := by rw [List.getElem?_map, en]; rfl
                  have en2 : ((ems (Wl W) st ((Wl W).map (·.1))).map (·.2))[j]? = some k := by rw [List.getElem?_map, en]; rfl
                  have nt := take_nin ndE en1
                  have gm := mget (sd.frz eH) mn
                  have kf : k ∈ st.foods (Wl W) := mem_foods.mpr ⟨n, hn, hm⟩
                  have hn2 : n ∈ M.map (·.1) := by
                    rw [kM, ← Wl_names]
                    exact hn
                  obtain ⟨⟨n, a⟩, hqm, rfl⟩ := List.mem_map.mp hn2
                  have gF := mK_get (.inl eF5) sh5.nd hqm
                  obtain ⟨R, r1, _⟩ := sh5.row _ hqm
                  refine ⟨_, rfl, _, rfl, mD, _, rfl, gm, _, rfl, _, rfl, fD, .ref a, rfl, gF, a, rfl, .inl ⟨_, .inl r1⟩, _, rfl, two_le, fun p hp => ?_⟩
                  have sp := Same.new (o := .tup [.int 0, .int 1]) hp
                  obtain ⟨o, go, fo⟩ := ((sh5.row _ hqm).same sp).get (k := k) (fr01 (p := p) upd_same)
                  rw [gotUp_at nt] at fo
                  have yz : Sz 64 (st.got n k + st.step (Wl W)) := by
                    have := zn.got n k
                    rw [show (st.nxt (Wl W)).got n k = st.got n k + if n ∈ (Wl W).map (·.1) ∧ st.meal (Wl W) n = some k then st.step (Wl W) else 0 from rfl, if_pos ⟨hn, hm⟩] at this
                    exact this
                  have yp : 0 < st.got n k + st.step (Wl W) := by
                    have := i8.g0 n k
                    grind
                  refine ⟨o, go, _, rfl, _, v9, st.got n k, st.step (Wl W), rfl, fo, (sd.fr f11).same sp, zz.got n k, st1, fun H6 r s9' hr e9' => ?_⟩
                  have s56 := sp.trans s9'
                  obtain ⟨H7, h71, h72, h73, h74⟩ := (sh5.same s56).put hqm (Fr.of e9') yp yz (kS k kf).2 hS7
                  have ne_l : lD ≠ a := nMl _ hqm
                  have ne_f : fD ≠ a := (nMf _ hqm).symm
                  have eL7 : H7 lD = some (.dK (tK L')) := by rw [h73 _ ne_l]; exact s56 _ _ eL5
                  have eF7 : H7 fD = some (.dK (tK (mK M))) := by rw [h73 _ ne_f]; exact s56 _ _ eF5
                  have lf7 := (lf5.same s56).samD h72
                  have s07 : Same H0 H7 := fun b ob hb => by
                    have nb : b ≠ a := ne_of_none hb (t2.free (hM _ hqm).1)
                    rw [h73 b nb]
                    exact s56 _ _ (s0' _ _ hb)
                  obtain ⟨vl, gl, fl⟩ := lf7.get (k := k) eL7 (by rw [ky5]; exact (kS k kf).2)
                  have cle : ((((ems (Wl W) st ((Wl W).map (·.1))).map (·.2)).take j).count k) ≤ st.eat (Wl W) k := by
                    rw [← ems_eat]
                    exact (List.take_sublist _ _).count_le _
                  have cle2 : ((((ems (Wl W) st ((Wl W).map (·.1))).map (·.2)).take (j + 1)).count k) ≤ st.eat (Wl W) k := by
                    rw [← ems_eat]
                    exact (List.take_sublist _ _).count_le _
                  have zl := few.sub i8 i9 (by omega) hh k cle
                  have zl2 := few.sub i8 i9 (by omega) hh k cle2
                  have enx : leftSub (Wl W) st (((ems (Wl W) st ((Wl W).map (·.1))).map (·.2)).take j) k - st.step (Wl W) = leftSub (Wl W) st (((ems (Wl W) st ((Wl W).map (·.1))).map (·.2)).take (j + 1)) k := by
                    rw [take_next en2, ← leftSub_some]
                    unfold chF
                    rw [if_pos rfl]
                  refine ⟨_, rfl, _, rfl, fD, .ref a, rfl, mK_get (.inl (s56 _ _ eF5)) sh5.nd hqm, _, rfl, a, H7, rfl, h71, _, rfl, _, rfl, lD, vl, rfl, gl, _, rfl, vl, v9, _, _, rfl, fl, h72.fr ((sd.fr f11).same s56), zl, st1, fun H8 r2 s10' hr2 e10 => ?_⟩
                  have hl8 := s10' _ _ eL7
                  have lk : L'.length < sizeLine := by
                    have : L'.length = (S.map (·.1)).length := by rw [← ky5, List.length_map]
                    rw [this]
                    exact Nat.lt_trans hS7 (by decide)
                  refine ⟨_, rfl, _, rfl, lD, _, rfl, .inl ⟨_, Sum.inr k, hl8, rfl, by rw [List.length_map]; exact lk, rfl⟩, _, _, put1 L' k (.ref r2), rfl, ?_, ?_, ?_, ?_, ?_, ?_, ?_⟩
                  · exact (((sd.trans (.of s56)).trans h72).trans (.of s10')).put hl8
                  · exact Same.mut (s07.trans s10') lD0
                  · rw [upd_ne nfl]
                    exact s10' _ _ eF7
                  · rw [upd_same, tK_old _ (by rw [ky5]; exact (kS k kf).2)]
                  · rw [put1_keys]
                    exact ky5
                  · rw [take_next en2, ← leftSub_some]
                    exact ((lf7.same s10').old (Fr.of e10) (show Sz 64 (leftSub (Wl W) st (((ems (Wl W) st ((Wl W).map (·.1))).map (·.2)).take j) k - st.step (Wl W)) by rw [enx]; exact zl2) (by rw [ky5]; exact (kS k kf).2)).samD (SamD.put1 hl8)
                  · rw [take_next en1, ← gotUp_some nt hm]
                    exact (h74.same s10').samD (SamD.put1 hl8) fun q hq => upd_ne (nMl q hq).symm
                · rintro σ Hk ⟨o2', o5'', L', rfl, sd, s0', eF5, eL5, ky5, lf5, sh5⟩
                  have ln : (tK ((ems (Wl W) st ((Wl W).map (·.1))).map fun q => (q.1, V.str q.2))).length = (ems (Wl W) st ((Wl W).map (·.1))).length := by rw [List.length_map, List.length_map]
                  rw [ln, show (ems (Wl W) st ((Wl W).map (·.1))).length = ((ems (Wl W) st ((Wl W).map (·.1))).map (·.2)).length by rw [List.length_map], List.take_length, leftSub_all] at lf5
                  rw [ln, show (ems (Wl W) st ((Wl W).map (·.1))).length = ((ems (Wl W) st ((Wl W).map (·.1))).map (·.1)).length by rw [List.length_map], List.take_length, gotUp_ems (fun n => Iff.rfl)] at sh5
                  have f9k : Fr K Hk v9 (st.step (Wl W)) := sd.fr f11
                  have f6k : Fr K Hk v4 st.hour := sd.fr (i6.same sH)
                  refine ⟨_, rfl, _, rfl, v4, v9, st.hour, st.step (Wl W), rfl, f6k, f9k, zh, st1, fun H9 r s11 hr e11 => ?_⟩
                  have ml := mu_lt i8 (fun k => few.key k) ndone
                  exact ⟨(st.nxt (Wl W)).mu (S.map (·.1)), ml, st.nxt (Wl W), i + 1, L', .ref r, _, _, _, _, _, _, rfl, rfl, s0'.trans s11, s11 _ _ eF5, s11 _ _ eL5, ky5, lf5.same s11, Fr.of e11, sh5.same s11, gdn, fnn, by omega, (fin_nxt (fun k => few.key k) i8 (by omega) ndone).trans i11⟩
end
end K79


set_option Elab.async false
set_option linter.all false
set_option maxRecDepth 100000
set_option maxHeartbeats 4000000
set_option pp.maxSteps 900
namespace Lk
open PySem L2
theorem SqL.same' {K : PySem.W.Frag} {H H' : Hp} {a : Addr} {xs : List V} (e : Same H H') (h : SqL K H a xs) : SqL K H' a xs := e.seq h
theorem rd_same {H H' : Hp} {a : Addr} {u : HO} (e : Same H H') (h : Rd H a u) : Rd H' a u := by
  rcases h with h | ⟨o, h⟩
  · exact .inl (e _ _ h)
  · exact .inr ⟨o, e _ _ h⟩
theorem tyx_rd {K : PySem.W.Frag} {H : Hp} {a : Addr} {kvs : List (Key × V)} (h : Rd H a (.dK kvs)) : TyX K H (.ref a) (.type "dict") := by
  rcases h with h | ⟨o, h⟩
  · exact .base (.dK h)
  · exact .fDict h
theorem pg_tupQ {X : Cx} {K : PySem.W.Frag} {e1 e2 : Expr} {g1 g2 : TG} {k : Nat} {pos : Pos} (hc : X.calm = true) (h1 : PG X e1 g1) (h2 : PG X e2 g2) (hK : X.K = K := by rfl)
    (hs1 : (assignEach [e1, e2] X.env).map (·.2) = assign e1 X.env :: (assignEach [e2] X.env).map (·.2) := by rfl) (hs2 : (assignEach [e2] X.env).map (·.2) = assign e2 X.env :: (assignEach [] X.env).map (·.2) := by rfl)
    (hn : (assignEach [e1, e2] X.env).length = 2 := by rfl) (hst : (assignEach [e1, e2] X.env).findIdx? (·.1) = none := by rfl) : PG X (.Tuple [e1, e2] k pos) (gTup K 2 (gCons g1 (gCons g2 gNil))) := by
  subst hK
  exact pg_tup hc (pgs_cons h1 (pgs_cons h2 pgs_nil hs2) hs1) hn hst
/-- dicts that are alike, and stay so -/
def Ex (K : PySem.W.Frag) (H : Hp) (x y : V) : Prop := ∃ a b ks ls n, x = .ref a ∧ y = .ref b ∧ Rd H a (.dK ks) ∧ Rd H b (.dK ls) ∧ n ≤ 50 ∧ ∀ H', Same H H' → AlR K H' (AlV K H' n) x y
theorem Ex.same {K : PySem.W.Frag} {H H' : Hp} {x y : V} (e : Same H H') (h : Ex K H x y) : Ex K H' x y := by
  obtain ⟨a, b, ks, ls, n, h1, h2, h3, h4, h5, h6⟩ := h
  exact ⟨a, b, ks, ls, n, h1, h2, rd_same e h3, rd_same e h4, h5, fun H2 s => h6 H2 (e.trans s)⟩
theorem kit_lt {K : PySem.W.Frag} (t : String) (h1 : kitB t "list" = some false) (h2 : kitB t "tuple" = some false) : PySem.W.kitAny K (.type t) [.type "list", .type "tuple"] = some false :=
  kitAny_cons (kit_ty h1) (fun _ => kitAny_cons (kit_ty h2) (fun _ => kitAny_nil) (fun z => nomatch z)) (fun z => nomatch z)
theorem kit_ll {K : PySem.W.Frag} : PySem.W.kitAny K (.type "list") [.type "list", .type "tuple"] = some true :=
  kitAny_cons (b := true) (kit_ty (by decide +kernel)) (fun z => nomatch z) (fun _ => rfl)
end Lk
namespace K79
open PySem L2 Lk Eat
def spSum (K : PySem.W.Frag) : Sp := fun vs H Q _ => ∃ (a : Addr) (xs : List V) (l : List Rat), vs = [.ref a] ∧ SqL K H a xs ∧ Paired (Fr K H) xs l ∧ (∀ q ∈ l, Sz 64 q) ∧ (∀ i, Sz 64 (l.take i).sum) ∧ ∀ H' v, Same H H' → Fr K H' v l.sum → Q v H'
def ups (f : Str → Rat) (l : List Str) (m : Nat) : List Rat := (List.range m).map fun j => ((l.take (j + 1)).map f).sum
def spUp (K : PySem.W.Frag) : Sp := fun vs H Q _ => ∃ (d c a : Addr) (W : List (Str × Addr × List Str)) (n : Str) (l ks : List Str) (f : Str → Rat), vs = [.ref d, .str n, .ref c] ∧ Wis K H d W ∧ (W.map (·.1)).Nodup ∧ (n, a, l) ∈ W ∧ Row K H c ks f ∧ l.length ≤ 60 ∧ (∀ i, Sz 64 ((l.take i).map f).sum) ∧
  ∀ H' p xs, Same H H' → H p = none → H' p = some (.lst xs) → Paired (Fr K H') xs (ups f l l.length) → Q (.ref p) H'
def spExD (K : PySem.W.Frag) : Sp := fun vs H Q _ => ∃ x y, vs = [x, y] ∧ Ex K H x y ∧ ∀ H', Same H H' → Q (.bl true) H'
def spExL (K : PySem.W.Frag) : Sp := fun vs H Q _ => ∃ (a b : Addr) (xs ys : List V), vs = [.ref a, .ref b] ∧ SqL K H a xs ∧ SqL K H b ys ∧ Paired (Ex K H) xs ys ∧ xs.length ≤ 60 ∧ ∀ H', Same H H' → Q (.bl true) H'
theorem sum_snoc (l : List Rat) (x : Rat) : (l ++ [x]).sum = l.sum + x := by
  induction l with
  | nil =>
    show x + 0 = 0 + x
    grind
  | cons y l ih =>
    rw [List.cons_append, List.sum_cons, ih, List.sum_cons]
    grind
section
variable {P : Program} {w : World} {K : PySem.W.Frag} {mg : Str → Option Value} {base : Heap}
theorem ok__law_sum (T : Th K mg) : FnOk P w K mg base CX0 3 T.f__law_sum T.d__law_sum ["some"] (spSum K) := by
  have G__law_add : FnOk P w K mg base CX0 2 T.f__law_add T.d__law_add ["one", "other"] (sp2 K (· + ·)) := ok__law_add T
  refine T.F__law_sum.ok sc__law_sum (fun vs H Q E h => ?_) (fun cdv A outer s H vs Q E hr h => ?_)
  · obtain ⟨a, xs, l, rfl, _⟩ := h
    rfl
  · obtain ⟨a, xs, l, rfl, hs, hp, hz, hz2, k⟩ := h
    refine ⟨_, (pss_cons (ps_set (i := 1) sc__law_sum.nd rfl (Or.inl rfl) (pe_tup (pa_cons pe_int (pa_cons pe_int pa_nil))))
      (pss_cons (ps_for PassesOwn.never rfl (pi_list (pv 0)) (pg_name (i := 2) sc__law_sum.nd rfl (Or.inl rfl))
        (pss_one (ps_set (i := 1) sc__law_sum.nd rfl (Or.inl rfl) (pe_call G__law_add (hr.mono (by decide)) rfl T.g__law_add T.F__law_add.kp T.b__law_add .nil pass0 (pa_cons (pv 1) (pa_cons (pv 2) pa_nil))))))
      (pss_one (ps_ret (pv 1))))), ?_⟩
    have hlen : xs.length = l.length := Paired.length hp
    refine ⟨two_le, fun p0 hp0 => ?_⟩
    have sp := Same.new (o := .tup [.int 0, .int 1]) hp0
    refine ⟨_, rfl, a, rfl, ⟨_, sp.seq hs⟩, for_it (walk_list (xs := xs)) (fun i σ H' => ∃ (v : V) (o : Option V), σ = [some (.ref a), some v, o] ∧ Same H H' ∧ Fr K H' v (l.take i).sum) ⟨_, none, rfl, sp, by rw [List.take_zero]; exact fr01 upd_same⟩ (fun i σ H' _ h => ?_) ?_ ?_⟩
    · obtain ⟨_, _, _, s1, _⟩ := h
      exact s1.seq hs
    · rintro i x σ H1 H1' hi ⟨v, o, rfl, s1, fv⟩ ⟨rfl, hx⟩
      obtain ⟨q, eq, fq⟩ := LiI.paired_get hp hx
      refine ⟨_, rfl, _, rfl, v, x, _, q, rfl, fv, fq.same s1, hz2 i, hz q (List.mem_of_getElem? eq), fun H2 p s2 hp2 e2 => ⟨_, _, rfl, s1.trans s2, ?_⟩⟩
      rw [take_next eq, sum_snoc]
      exact Fr.of e2
    · rintro σ H1 ⟨v, o, rfl, s1, fv⟩
      rw [hlen, List.take_length] at fv
      exact ⟨_, rfl, k H1 v s1 fv⟩
theorem ok__law_up_to (T : Th K mg) : FnOk P w K mg base CX0 3 T.f__law_up_to T.d__law_up_to ["wishes", "name", "share"] (spUp K) := by
  have G__law_add : FnOk P w K mg base CX0 2 T.f__law_add T.d__law_add ["one", "other"] (sp2 K (· + ·)) := ok__law_add T
  refine T.F__law_up_to.ok sc__law_up_to (fun vs H Q E h => ?_) (fun cdv A outer s H vs Q E hr h => ?_)
  · obtain ⟨d, c, a, W, n, l, ks, f, rfl, _⟩ := h
    rfl
  · obtain ⟨d, c, a, W, n, l, ks, f, rfl, hW, nW, hm, hc, hl, hz, k⟩ := h
    have hu := hu_of hr
    refine ⟨_, (pss_cons (ps_par (i := 3) (j := 4) (by rfl) sc__law_up_to.nd rfl rfl (by decide) rfl rfl (pa_cons (pe_lst pa_nil) (pa_cons (pe_tup (pa_cons pe_int (pa_cons pe_int pa_nil))) pa_nil)) (by rfl))
      (pss_cons (ps_for PassesOwn.never rfl (pi_list (pe_dget hu (pv 0) (pv 1) (fun _ _ => rfl))) (pg_name (i := 5) sc__law_up_to.nd rfl (Or.inl rfl))
        (pss_cons (ps_set (i := 4) sc__law_up_to.nd rfl (Or.inl rfl) (pe_call G__law_add (hr.mono (by decide)) rfl T.g__law_add T.F__law_add.kp T.b__law_add .nil pass0 (pa_cons (pv 4) (pa_cons (pe_dget2 hu (pv 2) (pv 5) (pe_tup (pa_cons pe_int (pa_cons pe_int pa_nil))) ⟨rfl, rfl, rfl, rfl⟩) pa_nil))))
        (pss_one (ps_expr (pe_bm PySem.F.plainAttrs_list PySem.F.slot_list_append PySem.F.type_list_append mt_append (pv 3) (pa_cons (pv 4) pa_nil))))))
      (pss_one (ps_ret (pv 3))))), ?_⟩
    obtain ⟨⟨od, hd⟩, hL⟩ := id hW
    have hs : SqL K H a (l.map V.str) := hL _ hm
    refine ⟨by decide, fun p1 hp1 => ⟨two_le, fun p2 hp2 => ⟨_, _, rfl, ?_⟩⟩⟩
    have s1 := Same.new (o := .lst []) hp1
    have s2 := s1.trans (Same.new (o := .tup [.int 0, .int 1]) hp2)
    have n12 : p1 ≠ p2 := ne_of_none upd_same hp2
    have g0 := DGet.rd (x := n) (frz_rd ⟨od, s2 _ _ hd⟩)
    rw [valV_map (fun (z : Addr × List Str) => V.ref z.1) nW hm] at g0
    refine ⟨_, rfl, _, rfl, d, .ref a, rfl, g0, a, rfl, ⟨_, s2.seq hs⟩, for_it (walk_list (xs := l.map V.str)) (fun i σ H' => ∃ (v : V) (o : Option V) (xs : List V), σ = [some (.ref d), some (.str n), some (.ref c), some (.ref p1), some v, o] ∧ Same H H' ∧ H' p1 = some (.lst xs) ∧ Paired (Fr K H') xs (ups f l i) ∧ Fr K H' v ((l.take i).map f).sum)
      ⟨_, none, [], rfl, s2, by rw [upd_ne n12, upd_same], .nil, by rw [List.take_zero]; exact fr01 upd_same⟩ (fun i σ H' _ h => ?_) ?_ ?_⟩
    · obtain ⟨_, _, _, _, s3, _⟩ := h
      exact s3.seq hs
    · rintro i v0 σ H1 H1' hi ⟨v, o, xs, rfl, s3, e3, pr, fv⟩ ⟨rfl, hv⟩
      rw [List.getElem?_map] at hv
      obtain ⟨x, ex, rfl⟩ := Option.map_eq_some_iff.mp hv
      obtain ⟨R, r1, r2, r3⟩ := hc
      refine ⟨_, rfl, _, rfl, c, rfl, .inl ⟨_, .inl (s3 _ _ r1)⟩, _, rfl, two_le, fun q hq => ?_⟩
      have sq := Same.new (o := .tup [.int 0, .int 1]) hq
      have fx := lef_get (k := x) ((r2.same s3).same sq) (fr01 (p := q) upd_same)
      refine ⟨_, DGet.rd (.inl (sq _ _ (s3 _ _ r1))), v, _, _, f x, rfl, fv.same sq, fx, hz i, r2.sz x, fun H2 p s4 hp e4 => ?_⟩
      have s5 := sq.trans s4
      have e5 := s5 _ _ e3
      have et : ((l.take (i + 1)).map f).sum = ((l.take i).map f).sum + f x := by rw [take_next ex, List.map_append, List.map_cons, List.map_nil, sum_snoc]
      have fp : Fr K H2 (.ref p) (((l.take (i + 1)).map f).sum) := by
        rw [et]
        exact Fr.of e4
      refine ⟨_, rfl, .inl ⟨rfl, _, SqL.of e5⟩, _, rfl, p1, xs, _, rfl, rfl, e5, ?_, _, _, _, rfl, ?_, upd_same, ?_, ?_⟩
      · rw [Paired.length pr]
        unfold ups
        rw [List.length_map, List.length_range]
        rw [List.length_map] at hi
        exact Nat.lt_of_lt_of_le hi (Nat.le_trans hl (by decide))
      · exact Same.mut (s3.trans s5) ((Same.refl H).free hp1)
      · unfold ups
        rw [List.range_succ, List.map_append]
        exact Paired.snoc (Paired.mapP pr fun a b h => Fr.updL e5 (h.same s5)) (Fr.updL e5 fp)
      · exact Fr.updL e5 fp
    · rintro σ H1 ⟨v, o, xs, rfl, s3, e3, pr, fv⟩
      rw [List.length_map] at pr
      exact ⟨_, rfl, k H1 p1 xs s3 hp1 e3 pr⟩
theorem ok__law_exact0 (T : Th K mg) : FnOk P w K mg base CX0 0 T.f__law_exact T.d__law_exact ["mine", "theirs"] fun _ _ _ _ => False := ⟨fun _ _ _ _ h => h.elim, fun _ _ _ _ _ _ _ _ _ _ _ _ _ h => h.elim⟩
theorem ok__law_exactD (T : Th K mg) : FnOk P w K mg base CX0 1 T.f__law_exact T.d__law_exact ["mine", "theirs"] (spExD K) := by
  have G__law_exact : FnOk P w K mg base CX0 0 T.f__law_exact T.d__law_exact ["mine", "theirs"] fun _ _ _ _ => False := ok__law_exact0 T
  refine T.F__law_exact.ok sc__law_exact (fun vs H Q E h => ?_) (fun cdv A outer s H vs Q E hr h => ?_)
  · obtain ⟨x, y, rfl, _⟩ := h
    rfl
  · obtain ⟨x, y, rfl, ⟨a, b, ks, ls, n, rfl, rfl, ra, rb, hn, al⟩, k⟩ := h
    have hA : (A.deeper (PyProof.Rows.envOfC "_law_exact" (defScope s__law_exact) s.heap.objs.size T.f__law_exact cdv)).units + 180 < cLine := by
      have := hr.un
      omega
    refine ⟨_, (pss_cons (ps_if (pt_val (pe_callB call_isiT (by rfl) T.n_isinstance (by decide +kernel) (pa_cons (pv 0) (pa_cons (pe_tup (pa_cons (pe_bltn (v := .ty "list") (u := .type "list") (by rfl) T.n_list (by decide +kernel) rfl) (pa_cons (pe_bltn (v := .ty "tuple") (u := .type "tuple") (by rfl) T.n_tuple (by decide +kernel) rfl) pa_nil))) pa_nil))))
        (pss_cons (ps_set (i := 2) sc__law_exact.nd rfl (Or.inl rfl) (pe_cmpR op_eq (pe_callB call_isi (by rfl) T.n_isinstance (by decide +kernel) (pa_cons (pv 1) (pa_cons (pe_bltn (v := .ty "list") (u := .type "list") (by rfl) T.n_list (by decide +kernel) rfl) pa_nil))) (pe_callB call_isi (by rfl) T.n_isinstance (by decide +kernel) (pa_cons (pv 0) (pa_cons (pe_bltn (v := .ty "list") (u := .type "list") (by rfl) T.n_list (by decide +kernel) rfl) pa_nil))) (nomark _)))
        (pss_cons (ps_set (i := 3) sc__law_exact.nd rfl (Or.inl rfl) (pe_and (pv 2) (pe_one (pe_cmpR op_eq (pe_callB call_isi (by rfl) T.n_isinstance (by decide +kernel) (pa_cons (pv 1) (pa_cons (pe_bltn (v := .ty "tuple") (u := .type "tuple") (by rfl) T.n_tuple (by decide +kernel) rfl) pa_nil))) (pe_callB call_isi (by rfl) T.n_isinstance (by decide +kernel) (pa_cons (pv 0) (pa_cons (pe_bltn (v := .ty "tuple") (u := .type "tuple") (by rfl) T.n_tuple (by decide +kernel) rfl) pa_nil))) (nomark _)))))
        (pss_one (ps_ret (pe_and (pv 3) (pe_and (pe_cmpR op_eq (pe_callB call_len_seq (by rfl) T.n_len PySem.boot_len (pa_cons (pv 0) pa_nil)) (pe_callB call_len_seq (by rfl) T.n_len PySem.boot_len (pa_cons (pv 1) pa_nil)) (nomark _)) (pe_one (pe_callB (cr_all rfl) (by rfl) T.n_all (by decide +kernel) (pa_cons (pe_lc (own := [("a", 4), ("b", 5)]) rfl sc__law_exact.nd (pi_zip (by rfl) T.n_zip (pa_cons (pv 0) (pa_cons (pv 1) pa_nil))) (blkOk_by (own := [("a", 4), ("b", 5)]) (N := N__law_exact) (sc := defScope s__law_exact) (by decide +kernel)) (fun _ _ _ _ _ => (Lk.pg_tupQ (K := K)) rfl (pg_name (i := 4) sc__law_exact.nd rfl (Or.inl rfl)) (pg_name (i := 5) sc__law_exact.nd rfl (Or.inl rfl))) (fun _ _ _ _ _ => pts_nil) (fun _ _ _ _ _ => pe_call G__law_exact (hr.mono (by decide)) rfl T.g__law_exact T.F__law_exact.kp T.b__law_exact .nil pass0 (pa_cons (pv 4) (pa_cons (pv 5) pa_nil)))) pa_nil)))))))))
        pss_nil)
      (pss_cons (ps_if (PW.pt (pw_or (pt_val (pe_callB call_isiT (by rfl) T.n_isinstance (by decide +kernel) (pa_cons (pv 1) (pa_cons (pe_tup (pa_cons (pe_bltn (v := .ty "list") (u := .type "list") (by rfl) T.n_list (by decide +kernel) rfl) (pa_cons (pe_bltn (v := .ty "tuple") (u := .type "tuple") (by rfl) T.n_tuple (by decide +kernel) rfl) pa_nil))) pa_nil)))) (pw_or1 (pt_cmpR op_ne (pe_cmpR op_isN (pv 0) pe_non (nomark _)) (pe_cmpR op_isN (pv 1) pe_non (nomark _)) (nomark _)))))
        (pss_one (ps_ret pe_bl))
        pss_nil)
      (pss_cons (ps_set (i := 3) sc__law_exact.nd rfl (Or.inl rfl) (pe_and (pe_cmpR op_eq (pe_callB call_isi (by rfl) T.n_isinstance (by decide +kernel) (pa_cons (pv 0) (pa_cons (pe_bltn (v := .ty "int") (u := .type "int") (by rfl) T.n_int (by decide +kernel) rfl) pa_nil))) (pe_callB call_isi (by rfl) T.n_isinstance (by decide +kernel) (pa_cons (pv 1) (pa_cons (pe_bltn (v := .ty "int") (u := .type "int") (by rfl) T.n_int (by decide +kernel) rfl) pa_nil))) (nomark _)) (pe_one (pe_cmpR op_eq (pe_callB call_isi (by rfl) T.n_isinstance (by decide +kernel) (pa_cons (pv 0) (pa_cons (pe_bltn (v := .ty "str") (u := .type "str") (by rfl) T.n_str (by decide +kernel) rfl) pa_nil))) (pe_callB call_isi (by rfl) T.n_isinstance (by decide +kernel) (pa_cons (pv 1) (pa_cons (pe_bltn (v := .ty "str") (u := .type "str") (by rfl) T.n_str (by decide +kernel) rfl) pa_nil))) (nomark _)))))
      (pss_one (ps_ret (pe_and (pv 3) (pe_and (pe_cmpR op_eq (pe_callB call_isi (by rfl) T.n_isinstance (by decide +kernel) (pa_cons (pv 0) (pa_cons (pe_bltn (v := .ty "bool") (u := .type "bool") (by rfl) T.n_bool (by decide +kernel) rfl) pa_nil))) (pe_callB call_isi (by rfl) T.n_isinstance (by decide +kernel) (pa_cons (pv 1) (pa_cons (pe_bltn (v := .ty "bool") (u := .type "bool") (by rfl) T.n_bool (by decide +kernel) rfl) pa_nil))) (nomark _)) (pe_one (pe_cmpR (Lk.op_eqA hA) (pv 0) (pv 1) (nomark _)))))))))), ?_⟩
    refine ⟨_, rfl, two_le, fun p1 hp1 => ⟨_, p1, _, _, _, false, rfl, upd_same, .cons (.ty _) (.cons (.ty _) .nil), tyx_rd (rd_same (Same.new hp1) ra), kit_lt "dict" (by decide +kernel) (by decide +kernel), _, rfl, iteF ?_⟩⟩
    have s1 := Same.new (o := .tup [.ty "list", .ty "tuple"]) hp1
    refine ⟨_, rfl, two_le, fun p2 hp2 => ⟨_, p2, _, _, _, false, rfl, upd_same, .cons (.ty _) (.cons (.ty _) .nil), tyx_rd (rd_same (Same.new hp2) (rd_same s1 rb)), kit_lt "dict" (by decide +kernel) (by decide +kernel), _, rfl, iteF ?_⟩⟩
    have s2 := s1.trans (Same.new (o := .tup [.ty "list", .ty "tuple"]) hp2)
    have ta := fun {H'} (s : Same H H') => tyx_rd (K := K) (rd_same s ra)
    have tb := fun {H'} (s : Same H H') => tyx_rd (K := K) (rd_same s rb)
    refine ⟨_, rfl, rfl, _, rfl, rfl, rfl, _, rfl, iteF ?_⟩
    refine ⟨_, rfl, _, _, _, _, false, rfl, .ty _, ta s2, kit_ty (by decide +kernel), _, rfl, _, _, _, _, false, rfl, .ty _, tb s2, kit_ty (by decide +kernel), rfl, true, rfl, iteT ?_⟩
    refine ⟨_, rfl, _, _, _, _, false, rfl, .ty _, ta s2, kit_ty (by decide +kernel), _, rfl, _, _, _, _, false, rfl, .ty _, tb s2, kit_ty (by decide +kernel), rfl, ?_⟩
    refine ⟨_, rfl, true, rfl, iteT ?_⟩
    refine ⟨_, rfl, _, _, _, _, false, rfl, .ty _, ta s2, kit_ty (by decide +kernel), _, rfl, _, _, _, _, false, rfl, .ty _, tb s2, kit_ty (by decide +kernel), rfl, true, rfl, iteT ?_⟩
    exact ⟨_, rfl, _, rfl, n, hn, al _ s2, k _ s2⟩
theorem ok__law_exactL (T : Th K mg) : FnOk P w K mg base CX0 2 T.f__law_exact T.d__law_exact ["mine", "theirs"] (spExL K) := by
  have G__law_exact : FnOk P w K mg base CX0 1 T.f__law_exact T.d__law_exact ["mine", "theirs"] (spExD K) := ok__law_exactD T
  refine T.F__law_exact.ok sc__law_exact (fun vs H Q E h => ?_) (fun cdv A outer s H vs Q E hr h => ?_)
  · obtain ⟨a, b, xs, ys, rfl, _⟩ := h
    rfl
  · obtain ⟨a, b, xs, ys, rfl, ha, hb, pr, hl, k⟩ := h
    have hA : (A.deeper (PyProof.Rows.envOfC "_law_exact" (defScope s__law_exact) s.heap.objs.size T.f__law_exact cdv)).units + 180 < cLine := by
      have := hr.un
      omega
    refine ⟨_, (pss_cons (ps_if (pt_val (pe_callB call_isiT (by rfl) T.n_isinstance (by decide +kernel) (pa_cons (pv 0) (pa_cons (pe_tup (pa_cons (pe_bltn (v := .ty "list") (u := .type "list") (by rfl) T.n_list (by decide +kernel) rfl) (pa_cons (pe_bltn (v := .ty "tuple") (u := .type "tuple") (by rfl) T.n_tuple (by decide +kernel) rfl) pa_nil))) pa_nil))))
        (pss_cons (ps_set (i := 2) sc__law_exact.nd rfl (Or.inl rfl) (pe_cmpR op_eq (pe_callB call_isi (by rfl) T.n_isinstance (by decide +kernel) (pa_cons (pv 1) (pa_cons (pe_bltn (v := .ty "list") (u := .type "list") (by rfl) T.n_list (by decide +kernel) rfl) pa_nil))) (pe_callB call_isi (by rfl) T.n_isinstance (by decide +kernel) (pa_cons (pv 0) (pa_cons (pe_bltn (v := .ty "list") (u := .type "list") (by rfl) T.n_list (by decide +kernel) rfl) pa_nil))) (nomark _)))
        (pss_cons (ps_set (i := 3) sc__law_exact.nd rfl (Or.inl rfl) (pe_and (pv 2) (pe_one (pe_cmpR op_eq (pe_callB call_isi (by rfl) T.n_isinstance (by decide +kernel) (pa_cons (pv 1) (pa_cons (pe_bltn (v := .ty "tuple") (u := .type "tuple") (by rfl) T.n_tuple (by decide +kernel) rfl) pa_nil))) (pe_callB call_isi (by rfl) T.n_isinstance (by decide +kernel) (pa_cons (pv 0) (pa_cons (pe_bltn (v := .ty "tuple") (u := .type "tuple") (by rfl) T.n_tuple (by decide +kernel) rfl) pa_nil))) (nomark _)))))
        (pss_one (ps_ret (pe_and (pv 3) (pe_and (pe_cmpR op_eq (pe_callB call_len_seq (by rfl) T.n_len PySem.boot_len (pa_cons (pv 0) pa_nil)) (pe_callB call_len_seq (by rfl) T.n_len PySem.boot_len (pa_cons (pv 1) pa_nil)) (nomark _)) (pe_one (pe_callB (cr_all rfl) (by rfl) T.n_all (by decide +kernel) (pa_cons (pe_lc (own := [("a", 4), ("b", 5)]) rfl sc__law_exact.nd (pi_zip (by rfl) T.n_zip (pa_cons (pv 0) (pa_cons (pv 1) pa_nil))) (blkOk_by (own := [("a", 4), ("b", 5)]) (N := N__law_exact) (sc := defScope s__law_exact) (by decide +kernel)) (fun _ _ _ _ _ => (Lk.pg_tupQ (K := K)) rfl (pg_name (i := 4) sc__law_exact.nd rfl (Or.inl rfl)) (pg_name (i := 5) sc__law_exact.nd rfl (Or.inl rfl))) (fun _ _ _ _ _ => pts_nil) (fun _ _ _ _ _ => pe_call G__law_exact (hr.mono (by decide)) rfl T.g__law_exact T.F__law_exact.kp T.b__law_exact .nil pass0 (pa_cons (pv 4) (pa_cons (pv 5) pa_nil)))) pa_nil)))))))))
        pss_nil)
      (pss_cons (ps_if (PW.pt (pw_or (pt_val (pe_callB call_isiT (by rfl) T.n_isinstance (by decide +kernel) (pa_cons (pv 1) (pa_cons (pe_tup (pa_cons (pe_bltn (v := .ty "list") (u := .type "list") (by rfl) T.n_list (by decide +kernel) rfl) (pa_cons (pe_bltn (v := .ty "tuple") (u := .type "tuple") (by rfl) T.n_tuple (by decide +kernel) rfl) pa_nil))) pa_nil)))) (pw_or1 (pt_cmpR op_ne (pe_cmpR op_isN (pv 0) pe_non (nomark _)) (pe_cmpR op_isN (pv 1) pe_non (nomark _)) (nomark _)))))
        (pss_one (ps_ret pe_bl))
        pss_nil)
      (pss_cons (ps_set (i := 3) sc__law_exact.nd rfl (Or.inl rfl) (pe_and (pe_cmpR op_eq (pe_callB call_isi (by rfl) T.n_isinstance (by decide +kernel) (pa_cons (pv 0) (pa_cons (pe_bltn (v := .ty "int") (u := .type "int") (by rfl) T.n_int (by decide +kernel) rfl) pa_nil))) (pe_callB call_isi (by rfl) T.n_isinstance (by decide +kernel) (pa_cons (pv 1) (pa_cons (pe_bltn (v := .ty "int") (u := .type "int") (by rfl) T.n_int (by decide +kernel) rfl) pa_nil))) (nomark _)) (pe_one (pe_cmpR op_eq (pe_callB call_isi (by rfl) T.n_isinstance (by decide +kernel) (pa_cons (pv 0) (pa_cons (pe_bltn (v := .ty "str") (u := .type "str") (by rfl) T.n_str (by decide +kernel) rfl) pa_nil))) (pe_callB call_isi (by rfl) T.n_isinstance (by decide +kernel) (pa_cons (pv 1) (pa_cons (pe_bltn (v := .ty "str") (u := .type "str") (by rfl) T.n_str (by decide +kernel) rfl) pa_nil))) (nomark _)))))
      (pss_one (ps_ret (pe_and (pv 3) (pe_and (pe_cmpR op_eq (pe_callB call_isi (by rfl) T.n_isinstance (by decide +kernel) (pa_cons (pv 0) (pa_cons (pe_bltn (v := .ty "bool") (u := .type "bool") (by rfl) T.n_bool (by decide +kernel) rfl) pa_nil))) (pe_callB call_isi (by rfl) T.n_isinstance (by decide +kernel) (pa_cons (pv 1) (pa_cons (pe_bltn (v := .ty "bool") (u := .type "bool") (by rfl) T.n_bool (by decide +kernel) rfl) pa_nil))) (nomark _)) (pe_one (pe_cmpR (Lk.op_eqA hA) (pv 0) (pv 1) (nomark _)))))))))), ?_⟩
    refine ⟨_, rfl, two_le, fun p1 hp1 => ⟨_, p1, _, _, _, true, rfl, upd_same, .cons (.ty _) (.cons (.ty _) .nil), tyx_sql (SqL.same' (Same.new hp1) ha), kit_ll, _, rfl, iteT ?_⟩⟩
    have s1 := Same.new (o := .tup [.ty "list", .ty "tuple"]) hp1
    have ta := fun {H'} (s : Same H H') => tyx_sql (s.seq ha)
    have tb := fun {H'} (s : Same H H') => tyx_sql (s.seq hb)
    refine ⟨_, rfl, _, _, _, _, true, rfl, .ty _, tb s1, kit_ty (by decide +kernel), _, rfl, _, _, _, _, true, rfl, .ty _, ta s1, kit_ty (by decide +kernel), rfl, ?_⟩
    refine ⟨_, rfl, true, rfl, iteT ?_⟩
    refine ⟨_, rfl, _, _, _, _, false, rfl, .ty _, tb s1, kit_ty (by decide +kernel), _, rfl, _, _, _, _, false, rfl, .ty _, ta s1, kit_ty (by decide +kernel), rfl, ?_⟩
    refine ⟨_, rfl, true, rfl, iteT ?_⟩
    have e : xs.length = ys.length := Paired.length pr
    refine ⟨_, rfl, a, xs, rfl, .inl (s1.seq ha), _, rfl, b, ys, rfl, .inl (s1.seq hb), rfl, true, ?_, iteT ?_⟩
    · rw [e]
      show V.bl (decide (V.int _ = V.int _)) = _
      rw [decide_eq_true rfl]
    · refine ⟨_, rfl, _, rfl, a, b, xs, ys, rfl, s1.seq ha, s1.seq hb, fun D hD => lc_it (walk_zip (n := xs.length) (by rw [e]; simp)) (fun i H' => Same H H' ∧ H' D = some (.lst ((List.replicate i true).map V.bl))) ⟨Same.mut s1 (s1.free hD), upd_same⟩ (fun i H' _ h => ⟨h.1.seq ha, h.1.seq hb⟩) ?_ ?_⟩
      · rintro i v H1 H1' hi ⟨s2, e2⟩ ⟨Tp, x, y, h1, h2, h3, h4, h5⟩
        subst h1
        have s3 := s2.trans (Same.new (o := .tup [x, y]) h2)
        subst h3
        obtain ⟨y', hy', ex⟩ := LiI.paired_get pr h4
        have hy2 : y' = y := Option.some.inj (hy'.symm.trans h5)
        subst hy2
        have e3 := Same.new (o := .tup [x, y']) h2 _ _ e2
        refine ⟨Tp, [x, y'], rfl, SqT.of upd_same, rfl, _, _, rfl, _, _, rfl, rfl, rfl, _, rfl, _, rfl, x, y', rfl, ex.same s3, fun H2 s4 => ⟨_, s4 _ _ e3, ?_, Same.mut (s3.trans s4) (s1.free hD), ?_⟩⟩
        · rw [List.length_map, List.length_replicate]
          exact Nat.lt_of_lt_of_le hi (Nat.le_trans hl (by decide))
        · rw [upd_same, List.replicate_succ', List.map_append]
          rfl
      · rintro H1 ⟨s2, e2⟩
        refine ⟨D, List.replicate xs.length true, rfl, SqL.of e2, ?_⟩
        rw [show (List.replicate xs.length true).all id = true by simp]
        exact k _ s2
end
end K79


set_option Elab.async false
set_option linter.all false
set_option maxRecDepth 100000
set_option maxHeartbeats 4000000
set_option pp.maxSteps 900
set_option exponentiation.threshold 9000
namespace Lk
open PySem L2
/-- all stays but the purse -/
def SamX (a : Addr) (H H' : Hp) : Prop := ∀ b u, b ≠ a → H b = some u → H' b = some u
theorem SamX.refl (a : Addr) (H : Hp) : SamX a H H := fun _ _ _ h => h
theorem SamX.of {a : Addr} {H H' : Hp} (e : Same H H') : SamX a H H' := fun b u _ h => e b u h
theorem SamX.trans {a : Addr} {H H1 H2 : Hp} (e : SamX a H H1) (f : SamX a H1 H2) : SamX a H H2 := fun b u n h => f b u n (e b u n h)
theorem SamX.put {a : Addr} {H H' : Hp} {o : HO} (e : SamX a H H') : SamX a H (upd H' a o) := fun b u n h => by
  rw [upd_ne n]
  exact e b u n h
theorem SamX.seq {K : PySem.W.Frag} {a l : Addr} {H H' : Hp} {xs : List V} (e : SamX a H H') (n : l ≠ a) (h : SqL K H l xs) : SqL K H' l xs := by
  rcases h with (h | ⟨o, h⟩) | h
  · exact .inl (.inl (e _ _ n h))
  · exact .inl (.inr ⟨o, e _ _ n h⟩)
  · exact .inr h
/-- a purse that was drawn from n times at most -/
def Pu (H : Hp) (a : Addr) (n : Int) : Prop := ∃ p0 p1 p2 p3 : Int, H a = some (.lst [.int p0, .int p1, .int p2, .int p3]) ∧ (0 ≤ p0 ∧ p0 < 2 ^ 2000) ∧ (0 ≤ p1 ∧ p1 < 2 ^ 32) ∧ (0 ≤ p2 ∧ p2 ≤ n) ∧ (0 ≤ p3 ∧ p3 < 2 ^ 32)
theorem Pu.same {H H' : Hp} {a : Addr} {n : Int} (e : Same H H') (h : Pu H a n) : Pu H' a n := by
  obtain ⟨p0, p1, p2, p3, h, k⟩ := h
  exact ⟨p0, p1, p2, p3, e _ _ h, k⟩
theorem Pu.mono {H : Hp} {a : Addr} {n m : Int} (h : Pu H a n) (e : n ≤ m) : Pu H a m := by
  obtain ⟨p0, p1, p2, p3, h, k1, k2, k3, k4⟩ := h
  exact ⟨p0, p1, p2, p3, h, k1, k2, ⟨k3.1, by omega⟩, k4⟩
theorem Pu.some {H : Hp} {a : Addr} {n : Int} (h : Pu H a n) : ∃ u, H a = some u := by
  obtain ⟨_, _, _, _, h, _⟩ := h
  exact ⟨_, h⟩
theorem fmod_pos (i : Int) {j : Int} (h : 0 < j) : 0 ≤ i.fmod j ∧ i.fmod j < j := by
  rw [Int.fmod_eq_emod_of_nonneg _ (by omega)]
  exact ⟨Int.emod_nonneg _ (by omega), Int.emod_lt_of_pos _ h⟩
theorem at4 {a b c d : V} : atI [a, b, c, d] 0 = some a ∧ atI [a, b, c, d] 1 = some b ∧ atI [a, b, c, d] 2 = some c ∧ atI [a, b, c, d] 3 = some d := ⟨rfl, rfl, rfl, rfl⟩
theorem pow480 : (0 : Int) < (10 ^ 60) ^ 8 ∧ ((10 : Int) ^ 60) ^ 8 < 2 ^ 2000 := by decide +kernel
end Lk
namespace K79
open PySem L2 Lk
def spPurse (K : PySem.W.Frag) : Sp := fun vs H Q _ => ∃ (a : Addr) (ns : List Int) (i : Nat), vs = [.ref a, .int (i : Int)] ∧ SqL K H a (ns.map V.int) ∧ i < 2 ^ 32 ∧ ∀ H' p, Same H H' → H p = none → Pu H' p 0 → Q (.ref p) H'
def spMixed : Sp := fun vs H Q _ => ∃ s n i : Int, vs = [.int s, .int n, .int i] ∧ (0 ≤ n ∧ n < 2 ^ 60) ∧ ∀ H' r, Same H H' → 0 ≤ r → r < 2 ^ 32 → Q (.int r) H'
def spDraw : Sp := fun vs H Q _ => ∃ (a : Addr) (m n : Int), vs = [.ref a, .int m] ∧ Pu H a n ∧ 1 ≤ m ∧ m ≤ 100 ∧ n < 2 ^ 50 ∧ ∀ H' r, SamX a H H' → Pu H' a (n + 1) → 0 ≤ r → r < m → Q (.int r) H'
def spOneOf (K : PySem.W.Frag) : Sp := fun vs H Q _ => ∃ (a l : Addr) (n : Int) (xs : List V), vs = [.ref a, .ref l] ∧ Pu H a n ∧ n < 2 ^ 50 ∧ SqL K H l xs ∧ l ≠ a ∧ 1 ≤ xs.length ∧ xs.length ≤ 100 ∧ ∀ H' x, SamX a H H' → Pu H' a (n + 1) → x ∈ xs → Q x H'
def spShuf (K : PySem.W.Frag) : Sp := fun vs H Q _ => ∃ (a l : Addr) (n : Int) (xs : List Str), vs = [.ref a, .ref l] ∧ Pu H a n ∧ n < 2 ^ 49 ∧ SqL K H l (xs.map V.str) ∧ l ≠ a ∧ xs.length ≤ 50 ∧
  ∀ (H' : Hp) (p : Addr) (ys : List Str), SamX a H H' → H p = none → Pu H' a (n + xs.length) → H' p = some (.lst (ys.map V.str)) → ys.Perm xs → Q (.ref p) H'
section
variable {P : Program} {w : World} {K : PySem.W.Frag} {mg : Str → Option Value} {base : Heap}
theorem ok__law_purse (T : Th K mg) : FnOk P w K mg base CX0 1 T.f__law_purse T.d__law_purse ["script", "at"] (spPurse K) := by
  refine T.F__law_purse.ok sc__law_purse (fun vs H Q E h => ?_) (fun cdv A outer s H vs Q E hr h => ?_)
  · obtain ⟨a, ns, i, rfl, _⟩ := h
    rfl
  · obtain ⟨a, ns, i, rfl, hs, hi, k⟩ := h
    refine ⟨_, (pss_cons (ps_set (i := 2) sc__law_purse.nd rfl (Or.inl rfl) (pe_callB (cr_sum rfl) (by rfl) T.n_sum (by decide +kernel) (pa_cons (pe_slice sl_list (pv 0) (po_some (pv 1)) (po_some (pe_op op_add (pv 1) pe_int))) pa_nil)))
      (pss_one (ps_ret (pe_lst (pa_cons (pe_op op_modN (pe_callTy call_int1 (by rfl) T.n_int (by decide +kernel) (pa_cons (pe_callB (call_max2 rfl) (by rfl) T.n_max (by decide +kernel) (pa_cons (pe_op op_sub (pv 2) (pe_op Lk.op_powW pe_int pe_int)) (pa_cons pe_int pa_nil))) pa_nil)) (pe_op Lk.op_powW (pe_op Lk.op_powW pe_int pe_int) pe_int)) (pa_cons (pe_op op_modN (pe_callTy call_int1 (by rfl) T.n_int (by decide +kernel) (pa_cons (pv 2) pa_nil)) pe_int) (pa_cons pe_int (pa_cons (pv 1) pa_nil)))))))), ?_⟩
    refine ⟨_, rfl, _, rfl, _, rfl, _, rfl, _, _, rfl, rfl, _, rfl, a, _, rfl, hs, fun p hp => ?_⟩
    have sp := Same.new (o := .lst (cutV (ns.map V.int) (some (i : Int)) (some ((i : Int) + 1)))) hp
    have ec : ∃ ms : List Int, cutV (ns.map V.int) (some (i : Int)) (some ((i : Int) + 1)) = ms.map V.int := ⟨_, by unfold cutV; rw [← List.map_drop, ← List.map_take]⟩
    obtain ⟨ms, ec⟩ := ec
    refine ⟨p, ms, rfl, by rw [← ec]; exact SqL.of upd_same, ?_⟩
    have c18 : (0 : Int) ≤ 18 ∧ (Builtin.Int.intBits 10 : Int) * 18 ≤ 2 ^ 27 := by decide +kernel
    have c60 : (0 : Int) ≤ 60 ∧ (Builtin.Int.intBits 10 : Int) * 60 ≤ 2 ^ 27 := by decide +kernel
    have c8 : (0 : Int) ≤ 8 ∧ (Builtin.Int.intBits (10 ^ (60 : Int).toNat) : Int) * 8 ≤ 2 ^ 27 := by decide +kernel
    refine ⟨_, rfl, _, _, rfl, rfl, c18, _, _, rfl, rfl, _, _, rfl, .inl ⟨_, rfl, _, _, rfl, rfl, c60, _, _, rfl, rfl, c8, _, _, rfl, rfl, ?_, _, rfl, .inl ⟨_, rfl, _, _, rfl, rfl, (show (2147483629 : Int) ≠ 0 by decide), _, rfl, (show 4 ≤ sizeLine by decide), fun q hq => ?_⟩⟩⟩
    · exact Int.ne_of_gt pow480.1
    · obtain ⟨f1, f2⟩ := fmod_pos (if (0 : Int) > ms.sum - 10 ^ (18 : Int).toNat then 0 else ms.sum - 10 ^ (18 : Int).toNat) pow480.1
      obtain ⟨g1, g2⟩ := fmod_pos ms.sum (j := 2147483629) (by decide)
      refine k _ q (sp.trans (Same.new hq)) (sp.free hq) ⟨_, _, 0, (i : Int), upd_same, ⟨f1, Int.lt_trans f2 pow480.2⟩, ⟨g1, Int.lt_trans g2 (by decide)⟩, ⟨by decide, by decide⟩, ⟨by omega, by omega⟩⟩
theorem ok__law_mixed (T : Th K mg) : FnOk P w K mg base CX0 1 T.f__law_mixed T.d__law_mixed ["seed", "spin", "at"] spMixed := by
  refine T.F__law_mixed.ok sc__law_mixed (fun vs H Q E h => ?_) (fun cdv A outer s H vs Q E hr h => ?_)
  · obtain ⟨a, ns, i, rfl, _⟩ := h
    rfl
  · obtain ⟨s, n, i, rfl, ⟨n0, n1⟩, k⟩ := h
    refine ⟨_, (pss_cons (ps_set (i := 3) sc__law_mixed.nd rfl (Or.inl rfl) (pe_op op_add (pe_op op_mul (pv 0) pe_int) (pe_op op_mul (pe_op op_mul pe_int (pv 1)) (pv 1))))
      (pss_cons (ps_set (i := 3) sc__law_mixed.nd rfl (Or.inl rfl) (pe_op op_modN (pe_callTy call_int1 (by rfl) T.n_int (by decide +kernel) (pa_cons (pe_op op_add (pe_op op_add (pv 3) (pe_op op_mul pe_int (pv 2))) (pv 1)) pa_nil)) pe_int))
      (pss_cons (ps_set (i := 3) sc__law_mixed.nd rfl (Or.inl rfl) (pe_op op_modN (pe_callTy call_int1 (by rfl) T.n_int (by decide +kernel) (pa_cons (pe_op op_add (pe_op op_mul (pv 3) (pv 3)) pe_int) pa_nil)) pe_int))
      (pss_one (ps_ret (pe_op op_modN (pe_callTy call_int1 (by rfl) T.n_int (by decide +kernel) (pa_cons (pe_op op_mul (pv 3) pe_int) pa_nil)) pe_int)))))), ?_⟩
    refine ⟨_, rfl, _, _, rfl, rfl, .inr (by decide), _, rfl, _, _, rfl, rfl, .inl (by decide), _, rfl, _, _, rfl, rfl, .inr ⟨by omega, by omega⟩, _, _, rfl, rfl, ?_⟩
    refine ⟨_, rfl, _, rfl, _, _, rfl, rfl, .inl (by decide), _, _, rfl, rfl, _, rfl, _, _, rfl, rfl, .inl ⟨_, rfl, _, _, rfl, rfl, (show (2147483647 : Int) ≠ 0 by decide), ?_⟩⟩
    obtain ⟨g1, g2⟩ := fmod_pos (s * 69069 + 104729 * n * n + 7919 * i + n) (j := 2147483647) (by decide)
    refine ⟨_, rfl, _, rfl, _, _, rfl, rfl, .inr ⟨Int.lt_of_lt_of_le (by decide) g1, Int.lt_trans g2 (by decide)⟩, _, _, rfl, rfl, .inl ⟨_, rfl, _, _, rfl, rfl, (show (2147483629 : Int) ≠ 0 by decide), ?_⟩⟩
    refine ⟨_, rfl, _, _, rfl, rfl, .inr (by decide), .inl ⟨_, rfl, _, _, rfl, rfl, (show (2147483587 : Int) ≠ 0 by decide), ?_⟩⟩
    obtain ⟨h1, h2⟩ := fmod_pos (((s * 69069 + 104729 * n * n + 7919 * i + n).fmod 2147483647 * (s * 69069 + 104729 * n * n + 7919 * i + n).fmod 2147483647 + 40503).fmod 2147483629 * 48271) (j := 2147483587) (by decide)
    exact k H _ (Same.refl H) h1 (Int.lt_trans h2 (by decide))
theorem ok__law_draw (T : Th K mg) : FnOk P w K mg base CX0 2 T.f__law_draw T.d__law_draw ["purse", "many"] spDraw := by
  have G__law_mixed : FnOk P w K mg base CX0 1 T.f__law_mixed T.d__law_mixed ["seed", "spin", "at"] spMixed := ok__law_mixed T
  refine T.F__law_draw.ok sc__law_draw (fun vs H Q E h => ?_) (fun cdv A outer s H vs Q E hr h => ?_)
  · obtain ⟨a, m, n, rfl, _⟩ := h
    rfl
  · obtain ⟨a, m, n, rfl, ⟨p0, p1, p2, p3, ha, ⟨b0, c0⟩, ⟨b1, c1⟩, ⟨b2, c2⟩, ⟨b3, c3⟩⟩, m1, m2, hn, k⟩ := h
    refine ⟨_, (pss_cons (ps_if (pt_cmpR op_gt (pe_ix ix_list (pv 0) pe_int (fun _ _ => rfl)) pe_int (nomark _))
        (pss_cons (ps_set (i := 2) sc__law_draw.nd rfl (Or.inl rfl) (pe_op op_modN (pe_callTy call_int1 (by rfl) T.n_int (by decide +kernel) (pa_cons (pe_ix ix_list (pv 0) pe_int (fun _ _ => rfl)) pa_nil)) (pv 1)))
        (pss_cons (ps_asg (pe_op op_fdivW (pe_ix ix_list (pv 0) pe_int (fun _ _ => rfl)) (pv 1)) (pg_sub (pv 0) pe_int set_list))
        (pss_one (ps_ret (pv 2)))))
        pss_nil)
      (pss_cons (ps_set (i := 3) sc__law_draw.nd rfl (Or.inl rfl) pe_int)
      (pss_cons (ps_for PassesOwn.never rfl (pi_range1 rfl T.n_range (pa_cons (pe_op op_add pe_int (pe_op op_fdivW (pe_bits (pv 1)) pe_int)) pa_nil)) (pg_name (i := 4) sc__law_draw.nd rfl (Or.inl rfl))
        (pss_cons (ps_asg (pe_op op_add (pe_ix ix_list (pv 0) pe_int (fun _ _ => rfl)) pe_int) (pg_sub (pv 0) pe_int set_list))
        (pss_one (ps_set (i := 3) sc__law_draw.nd rfl (Or.inl rfl) (pe_op op_add (pe_op op_mul (pv 3) pe_int) (pe_call G__law_mixed (hr.mono (by decide)) rfl T.g__law_mixed T.F__law_mixed.kp T.b__law_mixed .nil pass0 (pa_cons (pe_ix ix_list (pv 0) pe_int (fun _ _ => rfl)) (pa_cons (pe_ix ix_list (pv 0) pe_int (fun _ _ => rfl)) (pa_cons (pe_ix ix_list (pv 0) pe_int (fun _ _ => rfl)) pa_nil)))))))))
      (pss_one (ps_ret (pe_op op_modN (pe_callTy call_int1 (by rfl) T.n_int (by decide +kernel) (pa_cons (pv 3) pa_nil)) (pv 1))))))), ?_⟩
    have mp : (0 : Int) < m := by omega
    have md : ∀ i : Int, CDivW i m := fun i => wide_div (b := 64) mp (by omega) (by decide) (by decide)
    refine ⟨_, rfl, a, _, _, _, rfl, rfl, SqL.of ha, at4.1, _, _, rfl, rfl, _, rfl, ?_⟩
    by_cases c : (0 : Int) < p0
    · refine itD c ⟨_, rfl, a, _, _, _, rfl, rfl, SqL.of ha, at4.1, .inl ⟨_, rfl, _, rfl, _, _, rfl, rfl, (by omega), ?_⟩⟩
      refine ⟨_, rfl, a, _, _, _, rfl, rfl, SqL.of ha, at4.1, _, rfl, _, _, rfl, rfl, md _, ?_⟩
      refine ⟨_, rfl, a, _, _, 0, rfl, rfl, ha, rfl, _, rfl, ?_⟩
      obtain ⟨f1, f2⟩ := fmod_pos p0 mp
      refine k _ _ (SamX.refl a H).put ⟨p0 / m, p1, p2, p3, upd_same, ⟨Int.ediv_nonneg b0 (by omega), ?_⟩, ⟨b1, c1⟩, ⟨b2, by omega⟩, ⟨b3, c3⟩⟩ f1 f2
      exact Int.lt_of_le_of_lt (Int.ediv_le_self _ b0) c0
    · refine itDn c ?_
      have hb : Builtin.Int.intBits m ≤ 7 := PyProof.Rows.intBits_le (by show m.natAbs < 128; omega)
      have e1 : (1 + ((Builtin.Int.intBits m : Nat) : Int) / 28) = 1 := by omega
      refine ⟨_, rfl, m, rfl, _, _, rfl, rfl, wide_div (b := 64) (by decide) (by decide) (by decide) (by decide), _, _, rfl, rfl, _, rfl, ?_, ?_, for_it walk_range (fun i σ H' => ∃ (f : Int) (o : Option V) (q2 : Int), σ = [some (.ref a), some (.int m), none, some (.int f), o] ∧ SamX a H H' ∧ H' a = some (.lst [.int p0, .int p1, .int q2, .int p3]) ∧ 0 ≤ q2 ∧ q2 ≤ p2 + i)
        ⟨_, _, p2, rfl, SamX.refl a H, ha, b2, by omega⟩ (fun _ _ _ _ _ => trivial) ?_ ?_⟩
      · show _ ≤ (1 + ((Builtin.Int.intBits m : Nat) : Int) / 28)
        rw [e1]
        decide
      · show (1 + ((Builtin.Int.intBits m : Nat) : Int) / 28) < _
        rw [e1]
        decide
      · rintro i v σ H1 H1' hi ⟨f, o, q2, rfl, sx, e2, r0, r1⟩ ⟨rfl, rfl⟩
        have hi' : i < (1 + ((Builtin.Int.intBits m : Nat) : Int) / 28).toNat := hi
        rw [e1] at hi'
        have i0 : i = 0 := by omega
        refine ⟨_, rfl, a, _, _, _, rfl, rfl, SqL.of e2, at4.2.2.1, _, _, rfl, rfl, _, rfl, a, _, _, 2, rfl, rfl, e2, rfl, ?_⟩
        have e3 : (upd H1' a (.lst [.int p0, .int p1, .int (q2 + 1), .int p3])) a = some (.lst [.int p0, .int p1, .int (q2 + 1), .int p3]) := upd_same
        refine ⟨_, rfl, _, _, rfl, rfl, .inr (by decide), _, rfl, a, _, _, _, rfl, rfl, SqL.of e3, at4.2.1, _, rfl, a, _, _, _, rfl, rfl, SqL.of e3, at4.2.2.1, _, rfl, a, _, _, _, rfl, rfl, SqL.of e3, at4.2.2.2, _, _, _, rfl, ⟨by omega, by omega⟩, fun H2 r s2 h0 h1 => ?_⟩
        exact ⟨_, _, rfl, rfl, _, _, q2 + 1, rfl, (sx.put).trans (.of s2), s2 _ _ e3, by omega, by omega⟩
      · rintro σ H1 ⟨f, o, q2, rfl, sx, e2, r0, r1⟩
        have r1' : q2 ≤ p2 + 1 := by
          have : ((1 + ((Builtin.Int.intBits m : Nat) : Int) / 28).toNat : Int) = 1 := by rw [e1]; rfl
          omega
        obtain ⟨f1, f2⟩ := fmod_pos f mp
        exact ⟨_, rfl, .inl ⟨_, rfl, _, rfl, _, _, rfl, rfl, (by omega), k _ _ sx ⟨p0, p1, q2, p3, e2, ⟨b0, c0⟩, ⟨b1, c1⟩, ⟨r0, by omega⟩, ⟨b3, c3⟩⟩ f1 f2⟩⟩
theorem ok__law_one_of (T : Th K mg) : FnOk P w K mg base CX0 3 T.f__law_one_of T.d__law_one_of ["purse", "some"] (spOneOf K) := by
  have G__law_draw : FnOk P w K mg base CX0 2 T.f__law_draw T.d__law_draw ["purse", "many"] spDraw := ok__law_draw T
  refine T.F__law_one_of.ok sc__law_one_of (fun vs H Q E h => ?_) (fun cdv A outer s H vs Q E hr h => ?_)
  · obtain ⟨a, l, n, xs, rfl, _⟩ := h
    rfl
  · obtain ⟨a, l, n, xs, rfl, hp, hn, hs, hl, l1, l2, k⟩ := h
    refine ⟨_, (pss_one (ps_ret (pe_ix ix_list (pv 1) (pe_call G__law_draw (hr.mono (by decide)) rfl T.g__law_draw T.F__law_draw.kp T.b__law_draw .nil pass0 (pa_cons (pv 0) (pa_cons (pe_callB call_len_seq (by rfl) T.n_len PySem.boot_len (pa_cons (pv 1) pa_nil)) pa_nil))) (fun _ _ => rfl)))), ?_⟩
    refine ⟨_, rfl, _, rfl, _, rfl, l, xs, rfl, .inl hs, a, _, n, rfl, hp, by omega, by omega, hn, fun H1 r sx hp1 r0 r1 => ?_⟩
    obtain ⟨j, rfl⟩ := Int.eq_ofNat_of_zero_le r0
    have hj : j < xs.length := by omega
    refine ⟨l, xs, _, xs[j], rfl, rfl, sx.seq hl hs, at_of (j := j) rfl (List.getElem?_eq_getElem hj), k _ _ sx hp1 (List.getElem_mem hj)⟩
theorem ok__law_shuffled (T : Th K mg) : FnOk P w K mg base CX0 3 T.f__law_shuffled T.d__law_shuffled ["purse", "some"] (spShuf K) := by
  have G__law_draw : FnOk P w K mg base CX0 2 T.f__law_draw T.d__law_draw ["purse", "many"] spDraw := ok__law_draw T
  refine T.F__law_shuffled.ok sc__law_shuffled (fun vs H Q E h => ?_) (fun cdv A outer s H vs Q E hr h => ?_)
  · obtain ⟨a, l, n, xs, rfl, _⟩ := h
    rfl
  · obtain ⟨a, l, n, xs, rfl, hp, hn, hs, hl, l2, k⟩ := h
    refine ⟨_, (pss_cons (ps_set (i := 2) sc__law_shuffled.nd rfl (Or.inl rfl) (pe_lst pa_nil))
      (pss_cons (ps_for PassesOwn.never rfl (pi_list (pv 1)) (pg_name (i := 3) sc__law_shuffled.nd rfl (Or.inl rfl))
        (pss_one (ps_expr (pe_bm PySem.F.plainAttrs_list PySem.F.slot_list_insert PySem.F.type_list_insert mt_insert (pv 2) (pa_cons (pe_call G__law_draw (hr.mono (by decide)) rfl T.g__law_draw T.F__law_draw.kp T.b__law_draw .nil pass0 (pa_cons (pv 0) (pa_cons (pe_op op_add (pe_callB call_len_seq (by rfl) T.n_len PySem.boot_len (pa_cons (pv 2) pa_nil)) pe_int) pa_nil))) (pa_cons (pv 3) pa_nil))))))
      (pss_one (ps_ret (pv 2))))), ?_⟩
    refine ⟨by decide, fun D hD => ?_⟩
    have nD : D ≠ a := by
      obtain ⟨u, hu⟩ := hp.some
      exact (ne_of_none hu hD).symm
    refine ⟨_, rfl, l, rfl, ⟨_, (Same.new hD).seq hs⟩, for_it (walk_list (xs := xs.map V.str)) (fun i σ H' => ∃ (o : Option V) (ys : List Str), σ = [some (.ref a), some (.ref l), some (.ref D), o] ∧ SamX a H H' ∧ Pu H' a (n + i) ∧ H' D = some (.lst (ys.map V.str)) ∧ ys.Perm (xs.take i))
      ⟨none, [], rfl, .of (Same.new hD), (hp.same (Same.new hD)).mono (by omega), upd_same, by rw [List.take_zero]⟩ (fun i σ H' _ h => ?_) ?_ ?_⟩
    · obtain ⟨_, _, _, sx, _⟩ := h
      exact sx.seq hl hs
    · rintro i v0 σ H1 H1' hi ⟨o, ys, rfl, sx, hp1, eD, pm⟩ ⟨rfl, hv⟩
      rw [List.getElem?_map] at hv
      obtain ⟨x, ex, rfl⟩ := Option.map_eq_some_iff.mp hv
      rw [List.length_map] at hi
      have ly : ys.length = i := by
        rw [pm.length_eq, List.length_take]
        omega
      refine ⟨_, rfl, .inl ⟨rfl, _, SqL.of eD⟩, _, rfl, _, rfl, D, _, rfl, .inl (SqL.of eD), _, _, rfl, rfl, a, _, n + i, rfl, hp1, ?_, ?_, by omega, fun H2 r sx2 hp2 r0 r1 => ?_⟩
      · omega
      · rw [List.length_map, ly]
        omega
      · rw [List.length_map, ly] at r1
        have eD2 := sx2 _ _ nD eD
        refine ⟨_, rfl, D, _, r, .str x, rfl, rfl, eD2, ?_, r0, by omega, _, ys.take r.toNat ++ [x] ++ ys.drop r.toNat, rfl, ?_, ?_, ?_, ?_⟩
        · rw [List.length_map, ly]
          exact Nat.lt_of_lt_of_le hi (Nat.le_trans l2 (by decide))
        · intro b u nb hb
          have nbD : b ≠ D := ne_of_none hb hD
          rw [upd_ne nbD]
          exact sx2 b u nb (sx b u nb hb)
        · obtain ⟨q0, q1, q2, q3, hq, kq⟩ := hp2
          exact ⟨q0, q1, q2, q3, by rw [upd_ne nD.symm]; exact hq, by
            have : (n + ((i + 1 : Nat) : Int)) = n + i + 1 := by omega
            rw [this]
            exact kq⟩
        · rw [upd_same, List.map_append, List.map_append, List.map_take, List.map_drop]
          rfl
        · rw [take_next ex]
          have e1 : (ys.take r.toNat ++ [x] ++ ys.drop r.toNat).Perm (ys ++ [x]) := by
            rw [List.append_assoc]
            refine (List.Perm.append_left _ List.perm_append_comm).trans ?_
            rw [← List.append_assoc, List.take_append_drop]
          exact e1.trans (pm.append_right _)
    · rintro σ H1 ⟨o, ys, rfl, sx, hp1, eD, pm⟩
      rw [List.length_map] at hp1 pm
      rw [List.take_length] at pm
      exact ⟨_, rfl, k H1 D ys sx hD hp1 eD pm⟩
end
end K79


set_option Elab.async false
set_option linter.all false
set_option maxRecDepth 100000
set_option maxHeartbeats 4000000
set_option pp.maxSteps 900
set_option exponentiation.threshold 9000
namespace Lk
open PySem L2
theorem cut_take {xs : List V} {k : Int} (h : 0 ≤ k) : cutV xs none (some k) = xs.take k.toNat := by
  obtain ⟨j, rfl⟩ := Int.eq_ofNat_of_zero_le h
  unfold cutV
  rw [show HT.sIx xs.length 0 none = 0 from rfl, HT.sIx_nat, List.drop_zero, Nat.sub_zero, Int.toNat_natCast]
  by_cases c : j ≤ xs.length
  · rw [Nat.min_eq_left c]
  · rw [Nat.min_eq_right (by omega), List.take_length, List.take_of_length_le (by omega)]
theorem SamX.tup {K : PySem.W.Frag} {a l : Addr} {H H' : Hp} {xs : List V} (e : SamX a H H') (n : l ≠ a) (h : SqT K H l xs) : SqT K H' l xs := by
  rcases h with (h | ⟨o, h⟩) | h
  · exact .inl (.inl (e _ _ n h))
  · exact .inl (.inr ⟨o, e _ _ n h⟩)
  · exact .inr h
theorem refK_tK {α : Type} (W : List (Str × Addr × α)) : refK W = tK (W.map fun q => (q.1, V.ref q.2.1)) := by rw [tK, List.map_map]; rfl
theorem numK_tK (S : List (Str × Int)) : numK S = tK (S.map fun q => (q.1, V.int q.2)) := by rw [tK, List.map_map]; rfl
theorem SamX.free {a b : Addr} {H H' : Hp} (e : SamX a H H') (n : b ≠ a) (h : H' b = none) : H b = none := by
  cases q : H b with
  | none => rfl
  | some u =>
    rw [e b u n q] at h
    cases h
theorem refK_put {α : Type} {W : List (Str × Addr × α)} {x : Str} {p : Addr} {l : α} (h : x ∈ W.map (·.1)) : putK (refK W) (Sum.inr x) (.ref p) = refK (W.map fun z => if z.1 = x then (z.1, (p, l)) else z) := by
  rw [refK_tK, tK_old _ (by rw [List.map_map]; exact h), refK_tK]
  congr 1
  unfold put1
  rw [List.map_map, List.map_map]
  refine List.map_congr_left fun z _ => ?_
  show (if z.1 = x then (z.1, V.ref p) else (z.1, V.ref z.2.1)) = ((if z.1 = x then (z.1, (p, l)) else z).1, V.ref (if z.1 = x then (z.1, (p, l)) else z).2.1)
  by_cases c : z.1 = x
  · rw [if_pos c, if_pos c]
  · rw [if_neg c, if_neg c]
theorem refK_new {α : Type} {W : List (Str × Addr × α)} {x : Str} {p : Addr} {l : α} (h : ¬ x ∈ W.map (·.1)) : putK (refK W) (Sum.inr x) (.ref p) = refK (W ++ [(x, (p, l))]) := by
  rw [refK_tK, tK_new _ (by rw [List.map_map]; exact h), refK_tK, List.map_append]
  rfl
theorem at_neg1 {xs : List V} {v : V} (h : 1 ≤ xs.length) (e : xs[xs.length - 1]? = some v) : atI xs (-1) = some v := by
  unfold atI ixN
  rw [if_neg (by decide), if_pos (by omega)]
  show xs[(-1 + (xs.length : Int)).toNat]? = _
  rw [show (-1 + (xs.length : Int)).toNat = xs.length - 1 by omega]
  exact e
theorem seq_ifs {c : TT} {t e u : TS} {D0 : Ends} {σ : L2.St} {H : Hp} (End : L2.St → Hp → Prop) (he : ∀ σ H, End σ H → u D0 σ H) (h : (∀ σ H, End σ H → u D0 σ H) → tIfS c t e { D0 with nx := u D0 } σ H) : tSeq (tIfS c t e) u D0 σ H := h he
theorem ne_some {H : Hp} {a b : Addr} {u : HO} (h : H a = some u) (h' : H b = none) : b ≠ a := (ne_of_none h h').symm
end Lk
namespace K79
open PySem L2 Lk
instance (x : Str) : Decidable (NameOk x) := by unfold NameOk; infer_instance
def spPurses (K : PySem.W.Frag) : Sp := fun vs H Q _ => ∃ (a : Addr) (ns : List Int), vs = [.ref a, .int 3] ∧ SqL K H a (ns.map V.int) ∧ ns.length ≤ 63 ∧
  ∀ (H' : Hp) (p : Addr) (ps : List Addr), Same H H' → H p = none → H' p = some (.lst (ps.map V.ref)) → ps.Nodup → ps.length ≤ 3 → (∀ q ∈ ps, Pu H' q 0 ∧ H q = none ∧ q ≠ p) → Q (.ref p) H'
section
variable {P : Program} {w : World} {K : PySem.W.Frag} {mg : Str → Option Value} {base : Heap}
theorem ok__law_purses (T : Th K mg) : FnOk P w K mg base CX0 2 T.f__law_purses T.d__law_purses ["script", "few"] (spPurses K) := by
  have G__law_purse : FnOk P w K mg base CX0 1 T.f__law_purse T.d__law_purse ["script", "at"] (spPurse K) := ok__law_purse T
  refine T.F__law_purses.ok sc__law_purses (fun vs H Q E h => ?_) (fun cdv A outer s H vs Q E hr h => ?_)
  · obtain ⟨a, ns, rfl, _⟩ := h
    rfl
  · obtain ⟨a, ns, rfl, hs, hl, k⟩ := h
    refine ⟨_, (pss_one (ps_ret (pe_lc (own := [("at", 2)]) rfl sc__law_purses.nd (pi_range1 rfl T.n_range (pa_cons (pe_callB (call_max2 rfl) (by rfl) T.n_max (by decide +kernel) (pa_cons pe_int (pa_cons (pe_callB (call_min2 rfl) (by rfl) T.n_min (by decide +kernel) (pa_cons (pv 1) (pa_cons (pe_callB call_len_seq (by rfl) T.n_len PySem.boot_len (pa_cons (pv 0) pa_nil)) pa_nil))) pa_nil))) pa_nil)) (blkOk_by (own := [("at", 2)]) (N := N__law_purses) (sc := defScope s__law_purses) (by decide +kernel)) (fun _ _ _ _ _ => pg_name (i := 2) sc__law_purses.nd rfl (Or.inl rfl)) (fun _ _ _ _ _ => pts_nil) (fun _ _ _ _ _ => pe_call G__law_purse (hr.mono (by decide)) rfl T.g__law_purse T.F__law_purse.kp T.b__law_purse .nil pass0 (pa_cons (pv 0) (pa_cons (pv 2) pa_nil)))))), ?_⟩
    generalize hc : (if (if ((ns.map V.int).length : Int) < 3 then ((ns.map V.int).length : Int) else 3) > 1 then (if ((ns.map V.int).length : Int) < 3 then ((ns.map V.int).length : Int) else 3) else 1) = c
    have c1 : 1 ≤ c ∧ c ≤ 3 := by
      rw [← hc]
      split <;> split at * <;> omega
    refine ⟨_, rfl, _, rfl, a, _, rfl, .inl hs, _, _, rfl, _, _, rfl, c, ?_, ?_, ?_, fun D hD => lc_it walk_range (fun i H' => Same H H' ∧ ∃ ps : List Addr, H' D = some (.lst (ps.map V.ref)) ∧ ps.length = i ∧ ps.Nodup ∧ ∀ q ∈ ps, Pu H' q 0 ∧ H q = none ∧ q ≠ D)
      ⟨Same.new hD, [], upd_same, rfl, List.nodup_nil, fun q z => nomatch z⟩ (fun _ _ _ _ => trivial) ?_ ?_⟩
    · rw [← hc]
    · omega
    · omega
    · rintro i v H1 H1' hi ⟨s1, ps, e1, lp, nd, hq⟩ ⟨rfl, rfl⟩
      refine ⟨rfl, _, rfl, _, rfl, a, ns, i, (by show [V.ref a, V.int (0 + (i : Int))] = _; rw [Int.zero_add]), s1.seq hs, ?_, fun H2 p s2 hp pu => ?_⟩
      · exact Nat.lt_trans hi (by have : c.toNat ≤ 3 := by omega
                                  exact Nat.lt_of_le_of_lt this (by decide))
      · have e2 := s2 _ _ e1
        have npD : p ≠ D := ne_some e1 hp
        refine ⟨_, e2, ?_, Same.mut (s1.trans s2) hD, ps ++ [p], by rw [upd_same, List.map_append]; rfl, by rw [List.length_append, lp]; rfl, ?_, fun q hq2 => ?_⟩
        · rw [List.length_map, lp]
          exact Nat.lt_trans hi (by have : c.toNat ≤ 3 := by omega
                                    exact Nat.lt_of_le_of_lt this (by decide))
        · refine List.nodup_append.mpr ⟨nd, List.nodup_cons.mpr ⟨(fun z => nomatch z), List.nodup_nil⟩, fun u hu b hb e => ?_⟩
          rcases List.mem_cons.mp hb with z | z
          · obtain ⟨u2, hu2⟩ := (hq u hu).1.some
            rw [e, z, hp] at hu2
            cases hu2
          · cases z
        · have put : ∀ {q : Addr}, q ≠ D → Pu H2 q 0 → Pu (upd H2 D (.lst (ps.map V.ref ++ [.ref p]))) q 0 := fun {q} nq h => by
            obtain ⟨p0, p1, p2, p3, h, k⟩ := h
            exact ⟨p0, p1, p2, p3, by rw [upd_ne nq]; exact h, k⟩
          rcases List.mem_append.mp hq2 with q1 | q1
          · obtain ⟨a1, a2, a3⟩ := hq q q1
            exact ⟨put a3 (a1.same s2), a2, a3⟩
          · rcases List.mem_cons.mp q1 with z | z
            · subst z
              exact ⟨put npD pu, s1.free hp, npD⟩
            · cases z
    · rintro H1 ⟨s1, ps, e1, lp, nd, hq⟩
      exact k H1 D ps s1 hD e1 nd (by omega) hq
abbrev KN : List Str := ["a", "b", "c", "dd", "e", "f"]
abbrev NN : List Str := ["ann", "b", "bob", "cid", "dan", "eve"]
theorem kn_ok : (∀ x ∈ KN, NameOk x) ∧ (∀ x ∈ NN, NameOk x) ∧ NameOk "zz" ∧ KN.Nodup ∧ NN.Nodup ∧ (¬ ("zz" : Str) ∈ KN) := by decide +kernel
def spWishes (K : PySem.W.Frag) : Sp := fun vs H Q _ => ∃ (a : Addr) (n : Int), vs = [.ref a, .int 6, .int 6] ∧ Pu H a n ∧ n < 2 ^ 48 ∧
  ∀ (H' : Hp) (p d c : Addr) (W : List (Str × Addr × List Str)) (S : List (Str × Int)), SamX a H H' → H' p = some (.tup [.ref d, .ref c]) → H d = none → H c = none → d ≠ c → H' d = some (.dK (refK W)) →
    (∀ q ∈ W, H' q.2.1 = some (.lst (q.2.2.map V.str)) ∧ H q.2.1 = none) → H' c = some (.dK (numK S)) → WisOk W → StkOk S → Few W S → Pu H' a (n + 200) → Q (.ref p) H'
theorem ok__law_wishes (T : Th K mg) : FnOk P w K mg base CX0 4 T.f__law_wishes T.d__law_wishes ["purse", "most", "wide"] (spWishes K) := by
  have G__law_draw : FnOk P w K mg base CX0 2 T.f__law_draw T.d__law_draw ["purse", "many"] spDraw := ok__law_draw T
  have G__law_shuffled : FnOk P w K mg base CX0 3 T.f__law_shuffled T.d__law_shuffled ["purse", "some"] (spShuf K) := ok__law_shuffled T
  have G__law_one_of : FnOk P w K mg base CX0 3 T.f__law_one_of T.d__law_one_of ["purse", "some"] (spOneOf K) := ok__law_one_of T
  refine T.F__law_wishes.ok sc__law_wishes (fun vs H Q E h => ?_) (fun cdv A outer s H vs Q E hr h => ?_)
  · obtain ⟨a, n, rfl, _⟩ := h
    rfl
  · obtain ⟨a, n, rfl, pu, hn, kk⟩ := h
    have hu := hu_of hr
    refine ⟨_, (pss_cons (ps_set (i := 3) sc__law_wishes.nd rfl (Or.inl rfl) (pe_slice sl_list (pe_lst (pa_cons pe_str (pa_cons pe_str (pa_cons pe_str (pa_cons pe_str (pa_cons pe_str (pa_cons pe_str pa_nil))))))) po_none (po_some (pe_op op_add pe_int (pe_call G__law_draw (hr.mono (by decide)) rfl T.g__law_draw T.F__law_draw.kp T.b__law_draw .nil pass0 (pa_cons (pv 0) (pa_cons (pv 2) pa_nil)))))))
      (pss_cons (ps_set (i := 4) sc__law_wishes.nd rfl (Or.inl rfl) (pe_slice sl_list (pe_call G__law_shuffled (hr.mono (by decide)) rfl T.g__law_shuffled T.F__law_shuffled.kp T.b__law_shuffled .nil pass0 (pa_cons (pv 0) (pa_cons (pe_lst (pa_cons pe_str (pa_cons pe_str (pa_cons pe_str (pa_cons pe_str (pa_cons pe_str (pa_cons pe_str pa_nil))))))) pa_nil))) po_none (po_some (pe_call G__law_draw (hr.mono (by decide)) rfl T.g__law_draw T.F__law_draw.kp T.b__law_draw .nil pass0 (pa_cons (pv 0) (pa_cons (pe_op op_add (pv 1) pe_int) pa_nil))))))
      (pss_cons (ps_set (i := 5) sc__law_wishes.nd rfl (Or.inl rfl) pe_dnewK)
      (pss_cons (ps_for PassesOwn.never rfl (pi_list (pv 4)) (pg_name (i := 6) sc__law_wishes.nd rfl (Or.inl rfl))
        (pss_one (ps_dput hu (pv 5) (pv 6) (pe_slice sl_list (pe_call G__law_shuffled (hr.mono (by decide)) rfl T.g__law_shuffled T.F__law_shuffled.kp T.b__law_shuffled .nil pass0 (pa_cons (pv 0) (pa_cons (pv 3) pa_nil))) po_none (po_some (pe_call G__law_draw (hr.mono (by decide)) rfl T.g__law_draw T.F__law_draw.kp T.b__law_draw .nil pass0 (pa_cons (pv 0) (pa_cons (pe_op op_add (pe_callB call_len_seq (by rfl) T.n_len PySem.boot_len (pa_cons (pv 3) pa_nil)) pe_int) pa_nil))))) rfl)))
      (pss_cons (ps_if (PW.pt (pw_and (pt_cmpR (op_neD hr.units) (pv 4) (pe_lst pa_nil) (nomark _)) (pw_and1 (pt_cmpR op_eq (pe_call G__law_draw (hr.mono (by decide)) rfl T.g__law_draw T.F__law_draw.kp T.b__law_draw .nil pass0 (pa_cons (pv 0) (pa_cons pe_int pa_nil))) pe_int (nomark _)))))
        (pss_one (ps_dput hu (pv 5) (pe_ix ix_list (pv 4) (pe_un un_neg pe_int) (fun _ _ => rfl)) (pe_callTy call_list_of (by rfl) T.n_list (by decide +kernel) (pa_cons (pe_dget hu (pv 5) (pe_ix ix_list (pv 4) pe_int (fun _ _ => rfl)) (fun _ _ => rfl)) pa_nil)) rfl))
        pss_nil)
      (pss_cons (ps_set (i := 7) sc__law_wishes.nd rfl (Or.inr rfl) (pe_lst (pa_cons pe_int (pa_cons pe_int (pa_cons pe_int (pa_cons pe_int (pa_cons pe_int (pa_cons pe_int pa_nil))))))))
      (pss_one (ps_ret (pe_tup (pa_cons (pv 5) (pa_cons (pe_callTy (call_dictP rfl) (by rfl) T.n_dict (by decide +kernel) (pa_cons (pe_lc (own := [("kind", 8)]) rfl sc__law_wishes.nd (pi_list (pe_call G__law_shuffled (hr.mono (by decide)) rfl T.g__law_shuffled T.F__law_shuffled.kp T.b__law_shuffled .nil pass0 (pa_cons (pv 0) (pa_cons (pe_op op_cat (pv 3) (pe_lst (pa_cons pe_str pa_nil))) pa_nil)))) (blkOk_by (own := [("kind", 8)]) (N := N__law_wishes) (sc := defScope s__law_wishes) (by decide +kernel)) (fun _ _ _ _ _ => pg_name (i := 8) sc__law_wishes.nd rfl (Or.inl rfl)) (fun _ _ _ _ _ => pts_nil) (fun _ _ _ _ _ => pe_tup (pa_cons (pv 8) (pa_cons (pe_call G__law_one_of (hr.mono (by decide)) rfl T.g__law_one_of T.F__law_one_of.kp T.b__law_one_of .nil pass0 (pa_cons (pv 0) (pa_cons (pv 7) pa_nil))) pa_nil)))) pa_nil)) pa_nil))))))))))), ?_⟩
    obtain ⟨o1, o2, o3, o4, o5, oz⟩ := kn_ok
    obtain ⟨ua, hua⟩ := pu.some
    -- kinds
    refine ⟨(show 6 ≤ sizeLine by decide), fun pk hpk => ⟨_, rfl, _, rfl, a, 6, n, rfl, pu.same (Same.new hpk), by decide, by decide, by omega, fun H1 r1 sx1 pu1 r10 r11 => ⟨_, _, rfl, rfl, _, rfl, pk, _, rfl, SqL.of (sx1 _ _ (ne_some hua hpk) upd_same), fun kA hkA => ?_⟩⟩⟩
    rw [cut_take (by omega), ← show (KN.map V.str) = [V.str "a", V.str "b", V.str "c", V.str "dd", V.str "e", V.str "f"] from rfl, ← List.map_take]
    generalize hKS : KN.take ((1 : Int) + r1).toNat = KS
    have lKS : KS.length ≤ 6 ∧ 1 ≤ KS.length := by
      rw [← hKS, List.length_take]
      show min _ 6 ≤ 6 ∧ 1 ≤ min _ 6
      omega
    have sKS : KS.Sublist KN := by rw [← hKS]; exact List.take_sublist _ _
    have ndK : KS.Nodup := o4.sublist sKS
    have okK : ∀ x ∈ KS, NameOk x := fun x hx => o1 x (sKS.subset hx)
    have sxk : SamX a H (upd H1 kA (.lst (KS.map V.str))) := ((SamX.of (Same.new hpk)).trans sx1).trans (.of (Same.new hkA))
    have eK : (upd H1 kA (.lst (KS.map V.str))) kA = some (.lst (KS.map V.str)) := upd_same
    have puk := pu1.same (Same.new (o := .lst (KS.map V.str)) hkA)
    obtain ⟨u1, hu1⟩ := pu1.some
    have nkA : kA ≠ a := ne_some hu1 hkA
    have fkA : H kA = none := by
      cases e : H kA with
      | none => rfl
      | some u =>
        rw [sx1 _ _ nkA (Same.new hpk _ _ e)] at hkA
        cases hkA
    generalize upd H1 kA (.lst (KS.map V.str)) = H2 at sxk eK puk ⊢
    -- names
    refine ⟨_, rfl, (show 6 ≤ sizeLine by decide), fun pn hpn => ⟨a, pn, n + 1, NN, rfl, puk.same (Same.new hpn), by omega, SqL.of upd_same, ?_, by decide, fun H3 p3 nn sx3 hp3 pu3 e3 pm3 => ?_⟩⟩
    · obtain ⟨u, hu⟩ := puk.some
      exact ne_some hu hpn
    have sxn : SamX a H2 H3 := (SamX.of (Same.new hpn)).trans sx3
    have l6 : (NN.length : Int) = 6 := rfl
    rw [l6] at pu3
    have np3 : p3 ≠ a := by
      obtain ⟨u, hu⟩ := puk.some
      exact ne_some (u := u) (by rw [Same.new hpn _ _ hu]) hp3
    have snn : nn.Nodup := pm3.nodup_iff.mpr o5
    refine ⟨_, rfl, _, rfl, _, _, rfl, rfl, a, 7, n + 1 + 6, rfl, pu3, by decide, by decide, by omega, fun H4 r4 sx4 pu4 r40 r41 => ⟨_, rfl, p3, nn.map V.str, rfl, SqL.of (sx4 _ _ np3 e3), fun nA hnA => ?_⟩⟩
    rw [cut_take r40, ← List.map_take]
    generalize hNS : nn.take r4.toNat = NS
    have sNS : NS.Sublist nn := by rw [← hNS]; exact List.take_sublist _ _
    have ndN : NS.Nodup := snn.sublist sNS
    have okN : ∀ x ∈ NS, NameOk x := fun x hx => o2 x (pm3.mem_iff.mp (sNS.subset hx))
    have lNS : NS.length ≤ 6 := by
      have h1 := sNS.length_le
      have h2 := pm3.length_eq
      rw [h2] at h1
      exact h1
    have sx5 : SamX a H (upd H4 nA (.lst (NS.map V.str))) := ((sxk.trans sxn).trans sx4).trans (.of (Same.new hnA))
    have eN : (upd H4 nA (.lst (NS.map V.str))) nA = some (.lst (NS.map V.str)) := upd_same
    have eK5 : (upd H4 nA (.lst (NS.map V.str))) kA = some (.lst (KS.map V.str)) := Same.new hnA _ _ (sx4 _ _ nkA (sxn _ _ nkA eK))
    have pu5 := pu4.same (Same.new (o := .lst (NS.map V.str)) hnA)
    have nnA : nA ≠ a := by
      obtain ⟨u, hu⟩ := pu4.some
      exact ne_some hu hnA
    generalize upd H4 nA (.lst (NS.map V.str)) = H5 at sx5 eN eK5 pu5 ⊢
    -- found
    refine fun D hD => ?_
    have nDa : D ≠ a := by
      obtain ⟨u, hu⟩ := pu5.some
      exact ne_some hu hD
    have fD : H D = none := sx5.free nDa hD
    refine ⟨_, rfl, nA, rfl, ⟨_, SqL.of (Same.new hD _ _ eN)⟩, for_it (walk_list (xs := NS.map V.str)) (fun i σ H' => ∃ o6, σ = [some (.ref a), some (.int 6), some (.int 6), some (.ref kA), some (.ref nA), some (.ref D), o6, none, none] ∧ SamX a H H' ∧ Pu H' a (n + 8 + 7 * i) ∧ H' kA = some (.lst (KS.map V.str)) ∧ H' nA = some (.lst (NS.map V.str)) ∧
        ∃ W1 : List (Str × Addr × List Str), W1.map (·.1) = NS.take i ∧ H' D = some (.dK (refK W1)) ∧ ∀ q ∈ W1, H' q.2.1 = some (.lst (q.2.2.map V.str)) ∧ H q.2.1 = none ∧ q.2.2.Nodup ∧ ∀ x ∈ q.2.2, x ∈ KS)
      ⟨none, rfl, sx5.trans (.of (Same.new hD)), (pu5.same (Same.new hD)).mono (by omega), Same.new hD _ _ eK5, Same.new hD _ _ eN, [], rfl, upd_same, fun q z => nomatch z⟩ (fun i σ H' _ h => ?_) ?_ ?_⟩
    · obtain ⟨_, _, _, _, _, h, _⟩ := h
      exact SqL.of h
    · rintro i v0 σ H6 H6' hi ⟨o6, rfl, sx6, pu6, eK6, eN6, W1, kW, eD6, hW⟩ ⟨rfl, hv⟩
      rw [List.getElem?_map] at hv
      obtain ⟨x, ex, rfl⟩ := Option.map_eq_some_iff.mp hv
      rw [List.length_map] at hi
      refine ⟨_, rfl, _, rfl, a, kA, _, KS, rfl, pu6, by omega, SqL.of eK6, nkA, by omega, fun H7 p7 ys sx7 hp7 pu7 e7 pm7 => ?_⟩
      have np7 : p7 ≠ a := by
        obtain ⟨u, hu⟩ := pu6.some
        exact ne_some hu hp7
      have eK7 := sx7 _ _ nkA eK6
      refine ⟨_, rfl, _, rfl, kA, _, rfl, .inl (SqL.of eK7), _, _, rfl, rfl, a, _, _, rfl, pu7, ?_, ?_, by omega, fun H8 r8 sx8 pu8 r80 r81 => ⟨_, rfl, p7, ys.map V.str, rfl, SqL.of (sx8 _ _ np7 e7), fun q hq => ?_⟩⟩
      · omega
      · rw [List.length_map]
        omega
      · rw [cut_take r80, ← List.map_take]
        have sx68 := sx7.trans sx8
        have eD8 := sx68 _ _ nDa eD6
        have nqa : q ≠ a := by
          obtain ⟨u, hu⟩ := pu8.some
          exact ne_some hu hq
        have nqD : q ≠ D := ne_some eD8 hq
        have fq : H q = none := (sx6.trans sx68).free nqa hq
        have lW : W1.length = i := by
          have : W1.length = (NS.take i).length := by rw [← kW, List.length_map]
          rw [this, List.length_take]
          omega
        have nin : ¬ x ∈ W1.map (·.1) := by
          rw [kW]
          exact take_nin ndN ex
        refine ⟨_, rfl, _, rfl, D, _, rfl, .inl ⟨_, Sum.inr x, Same.new hq _ _ eD8, rfl, ?_, rfl⟩, _, rfl, ?_, ?_, ?_, ?_, W1 ++ [(x, (q, ys.take r8.toNat))], ?_, ?_, fun z hz => ?_⟩
        · rw [List.length_map, lW]
          exact Nat.lt_of_lt_of_le hi (Nat.le_trans lNS (by decide))
        · intro b u nb hb
          have nbD : b ≠ D := ne_of_none hb fD
          rw [upd_ne nbD]
          exact Same.new hq _ _ (sx68 _ _ nb (sx6 _ _ nb hb))
        · obtain ⟨q0, q1, q2, q3, hq', kq⟩ := (pu8.same (Same.new (o := .lst ((ys.take r8.toNat).map V.str)) hq)).mono (m := n + 8 + 7 * ((i + 1 : Nat) : Int)) (by omega)
          exact ⟨q0, q1, q2, q3, by rw [upd_ne nDa.symm]; exact hq', kq⟩
        · rw [upd_ne (fun z => by rw [z, eD6] at eK6; cases eK6)]
          exact Same.new hq _ _ (sx68 _ _ nkA eK6)
        · rw [upd_ne (fun z => by rw [z, eD6] at eN6; cases eN6)]
          exact Same.new hq _ _ (sx68 _ _ nnA eN6)
        · rw [List.map_append, kW, take_next ex]
          rfl
        · rw [upd_same, refK_new nin]
        · rcases List.mem_append.mp hz with z1 | z1
          · obtain ⟨w1, w2, w3, w4⟩ := hW z z1
            have nza : z.2.1 ≠ a := fun e => by rw [e, hua] at w2; cases w2
            refine ⟨?_, w2, w3, w4⟩
            rw [upd_ne (fun e => by rw [e, eD6] at w1; cases w1)]
            exact Same.new hq _ _ (sx68 _ _ nza w1)
          · rcases List.mem_cons.mp z1 with z2 | z2
            · subst z2
              refine ⟨?_, fq, (pm7.nodup_iff.mpr ndK).sublist (List.take_sublist _ _), fun y hy => pm7.mem_iff.mp ((List.take_sublist _ _).subset hy)⟩
              show upd (upd H8 q _) D _ q = _
              rw [upd_ne nqD, upd_same]
            · cases z2
    · rintro σ H6 ⟨o6, rfl, sx6, pu6, eK6, eN6, W1, kW, eD6, hW⟩
      rw [List.length_map] at pu6 kW
      rw [List.take_length] at kW
      dsimp only
      refine seq_ifs (fun σ H' => ∃ o6, σ = [some (.ref a), some (.int 6), some (.int 6), some (.ref kA), some (.ref nA), some (.ref D), o6, none, none] ∧ SamX a H H' ∧ Pu H' a (n + 51) ∧ H' kA = some (.lst (KS.map V.str)) ∧
        ∃ W1 : List (Str × Addr × List Str), W1.map (·.1) = NS ∧ H' D = some (.dK (refK W1)) ∧ ∀ q ∈ W1, H' q.2.1 = some (.lst (q.2.2.map V.str)) ∧ H q.2.1 = none ∧ q.2.2.Nodup ∧ ∀ x ∈ q.2.2, x ∈ KS) ?_ fun he => ?_
      · rintro σ H7 ⟨o6', rfl, sx7, pu7, eK7, W2, kW2, eD7, hW2⟩
        obtain ⟨u7, hu7⟩ := pu7.some
        refine ⟨(show 6 ≤ sizeLine by decide), fun mA hmA => ?_⟩
        have nmA : mA ≠ a := ne_some hu7 hmA
        have s8 := Same.new (o := .lst [.int 0, .int 1, .int 1, .int 1, .int 2, .int 3]) hmA
        refine ⟨_, rfl, _, rfl, _, rfl, (show 1 ≤ sizeLine by decide), fun z hz => ⟨kA, z, _, _, rfl, rfl, Same.new hz _ _ (s8 _ _ eK7), upd_same, ?_, fun q hq => ?_⟩⟩
        · rw [List.length_map]
          exact Nat.le_trans (show KS.length + 1 ≤ 7 by omega) (by decide)
        have s9 := (s8.trans (Same.new (o := .lst [.str "zz"]) hz)).trans (Same.new (o := .lst (KS.map V.str ++ [.str "zz"])) hq)
        have nqa : q ≠ a := ne_some ((s8.trans (Same.new (o := .lst [.str "zz"]) hz)) _ _ hu7) hq
        have ndZ : (KS ++ ([("zz" : Str)] : List Str)).Nodup := List.nodup_append.mpr ⟨ndK, List.nodup_cons.mpr ⟨(fun z => nomatch z), List.nodup_nil⟩, fun u hu b hb e => by
          rcases List.mem_cons.mp hb with z | z
          · exact oz (by rw [← show b = "zz" from z, ← e]; exact sKS.subset hu)
          · cases z⟩
        refine ⟨a, q, n + 51, KS ++ ([("zz" : Str)] : List Str), rfl, pu7.same s9, by omega, by rw [List.map_append]; exact SqL.of upd_same, nqa, by rw [List.length_append]; show KS.length + 1 ≤ 50; omega, fun H8 p8 ys sx8 hp8 pu8 e8 pm8 => ⟨p8, rfl, ⟨_, SqL.of e8⟩, fun D2 hD2 => ?_⟩⟩
        have np8 : p8 ≠ a := ne_some (s9 _ _ hu7) hp8
        have l8 : (((KS ++ ([("zz" : Str)] : List Str)).length : Nat) : Int) ≤ 7 := by
          rw [List.length_append]
          show ((KS.length + 1 : Nat) : Int) ≤ 7
          omega
        have ndY : ys.Nodup := pm8.nodup_iff.mpr ndZ
        have lY : ys.length ≤ 7 := by
          rw [pm8.length_eq]
          omega
        obtain ⟨u8, hu8⟩ := pu8.some
        have nD2 : D2 ≠ a := ne_some hu8 hD2
        have sx78 : SamX a H7 H8 := (SamX.of s9).trans sx8
        have em8 := sx8 _ _ nmA (((Same.new (o := .lst [.str "zz"]) hz).trans (Same.new (o := .lst (KS.map V.str ++ [.str "zz"])) hq)) _ _ (upd_same (H := H7) (a := mA) (o := .lst [.int 0, .int 1, .int 1, .int 1, .int 2, .int 3])))
        refine lc_it (walk_list (xs := ys.map V.str)) (fun i H' => SamX a H8 H' ∧ Pu H' a (n + 51 + 7 + i) ∧ ∃ (ps : List Addr) (S : List (Str × Int)), H' D2 = some (.lst (ps.map V.ref)) ∧ Paired (fun p (kv : Key × V) => p ≠ a ∧ SqT K H' p [kV kv.1, kv.2]) ps (numK S) ∧ S.map (·.1) = ys.take i ∧ ∀ q ∈ S, 0 ≤ q.2 ∧ q.2 ≤ 3)
          ⟨.of (Same.new hD2), (pu8.same (Same.new hD2)).mono (by omega), [], [], upd_same, .nil, rfl, fun q z => nomatch z⟩ (fun i H' _ h => SqL.of (h.1 _ _ np8 e8)) ?_ ?_
        · rintro i v H9 H9' hi ⟨sx9, pu9, ps, S, e9, pr, kS, hS⟩ ⟨rfl, hv⟩
          rw [List.getElem?_map] at hv
          obtain ⟨x, ex, rfl⟩ := Option.map_eq_some_iff.mp hv
          rw [List.length_map] at hi
          refine ⟨rfl, _, rfl, _, rfl, _, rfl, a, mA, _, _, rfl, pu9, by omega, SqL.of (sx9 _ _ nmA em8), nmA, by decide, by decide, fun H10 v sx10 pu10 mv => ⟨two_le, fun t ht => ?_⟩⟩
          obtain ⟨m, rfl, m0, m3⟩ : ∃ m : Int, v = .int m ∧ 0 ≤ m ∧ m ≤ 3 := by
            simp only [List.mem_cons, List.not_mem_nil, or_false] at mv
            rcases mv with h | h | h | h | h | h <;> exact ⟨_, h, by decide, by decide⟩
          obtain ⟨u10, hu10⟩ := pu10.some
          have nta : t ≠ a := ne_some hu10 ht
          have st := Same.new (o := .tup [.str x, .int m]) ht
          have sx11 := sx10.trans (.of st)
          have e11 := sx11 _ _ nD2 e9
          have lp : ps.length = i := by
            have h1 := Paired.length pr
            rw [List.length_map] at h1
            have h2 : S.length = (ys.take i).length := by rw [← kS, List.length_map]
            rw [h1, h2, List.length_take]
            omega
          have hD8 := hD2
          refine ⟨_, e11, ?_, ?_, ?_, ps ++ [t], S ++ [(x, m)], by rw [upd_same, List.map_append]; rfl, ?_, by rw [List.map_append, kS, take_next ex]; rfl, fun q hq2 => ?_⟩
          · rw [List.length_map, lp]
            exact Nat.lt_trans (Nat.lt_of_lt_of_le hi lY) (by decide)
          · intro b u nb hb
            rw [upd_ne (ne_of_none hb hD2)]
            exact sx11 _ _ nb (sx9 _ _ nb hb)
          · obtain ⟨q0, q1, q2, q3, hq', kq⟩ := (pu10.same st).mono (m := n + 51 + 7 + ((i + 1 : Nat) : Int)) (by omega)
            exact ⟨q0, q1, q2, q3, by rw [upd_ne nD2.symm]; exact hq', kq⟩
          · rw [show numK (S ++ [(x, m)]) = numK S ++ [(Sum.inr x, V.int m)] from List.map_append]
            exact Paired.snoc (Paired.mapP pr fun p kv h => ⟨h.1, SqT.updL e11 (sx11.tup h.1 h.2)⟩) ⟨nta, SqT.updL e11 (SqT.of upd_same)⟩
          · rcases List.mem_append.mp hq2 with z1 | z1
            · exact hS q z1
            · rcases List.mem_cons.mp z1 with z2 | z2
              · subst z2
                exact ⟨m0, m3⟩
              · cases z2
        · rintro H9 ⟨sx9, pu9, ps, S, e9, pr, kS, hS⟩
          rw [List.length_map] at pu9 kS
          rw [List.take_length] at kS
          refine ⟨D2, ps, numK S, rfl, SqL.of e9, Paired.mapP pr fun p kv h => h.2, fun c hc => ⟨two_le, fun p hp => ?_⟩⟩
          have ndS : (S.map (·.1)).Nodup := by rw [kS]; exact ndY
          rw [numK_tK, merge_nil (by rw [List.map_map]; exact ndS), ← numK_tK] at hp ⊢
          obtain ⟨u9, hu9⟩ := pu9.some
          have nca : c ≠ a := ne_some hu9 hc
          have sx79 : SamX a H7 H9 := sx78.trans sx9
          have eD9 := sx79 _ _ nDa eD7
          have nDc : D ≠ c := ne_of_none eD9 hc
          have sp := (Same.new (o := .dK (numK S)) hc).trans (Same.new (o := .tup [.ref D, .ref c]) hp)
          refine kk _ p D c W2 S ((sx7.trans sx79).trans (.of sp)) upd_same fD ((sx7.trans sx79).free nca hc) nDc (sp _ _ eD9) (fun q hq => ?_) (Same.new hp _ _ upd_same) ?_ ?_ ?_ ((pu9.same sp).mono (by omega))
          · obtain ⟨w1, w2, _⟩ := hW2 q hq
            have nza : q.2.1 ≠ a := fun e => by rw [e, hua] at w2; cases w2
            exact ⟨sp _ _ (sx79 _ _ nza w1), w2⟩
          · refine ⟨fun q hq => ?_, by rw [kW2]; exact ndN⟩
            obtain ⟨w1, w2, w3, w4⟩ := hW2 q hq
            have hn1 : q.1 ∈ NS := by rw [← kW2]; exact List.mem_map.mpr ⟨q, hq, rfl⟩
            refine ⟨okN _ hn1, fun x hx => okK x (w4 x hx), w3, ?_⟩
            exact Nat.le_trans (sub_len w3 w4) (by omega)
          · refine ⟨fun q hq => ⟨?_, (hS q hq).1⟩, ndS⟩
            have h1 : q.1 ∈ ys := by rw [← kS]; exact List.mem_map.mpr ⟨q, hq, rfl⟩
            rcases List.mem_append.mp (pm8.mem_iff.mp h1) with z1 | z1
            · exact okK _ z1
            · rcases List.mem_cons.mp z1 with z2 | z2
              · rw [z2]
                exact o3
              · cases z2
          · refine ⟨?_, ?_, fun q hq => ⟨(hS q hq).1, by have := (hS q hq).2; omega⟩, ndS, by rw [kW2]; exact ndN⟩
            · have : W2.length = NS.length := by rw [← kW2, List.length_map]
              omega
            · have : S.length = ys.length := by rw [← kS, List.length_map]
              omega
      · refine ⟨_, rfl, by decide, fun p7 hp7 => ?_⟩
        have s7 := Same.new (o := .lst []) hp7
        cases hN : NS with
        | nil =>
          rw [hN] at eN6
          refine ⟨.list [], .list [], .lst (SqL.of (s7 _ _ eN6)) .nil, .lst (SqL.of upd_same) .nil, rfl, rfl, ?_⟩
          rw [eqv_nil]
          refine ⟨_, rfl, iteF (iteF (he _ _ ⟨o6, rfl, sx6.trans (.of s7), (pu6.same s7).mono (by omega), s7 _ _ eK6, W1, kW, s7 _ _ eD6, fun q hq => ?_⟩))⟩
          obtain ⟨w1, w2⟩ := hW q hq
          exact ⟨s7 _ _ w1, w2⟩
        | cons x0 xr =>
          rw [hN] at eN6
          have eN7 := s7 _ _ eN6
          refine ⟨.list ((x0 :: xr).map PyData.str), .list [], .lst (SqL.of eN7) (dp_strs _), .lst (SqL.of upd_same) .nil, strs_shaped (fun y hy => (okN y (by rw [hN]; exact hy)).2.2), rfl, ?_⟩
          rw [show PyData.eqv (.list ((x0 :: xr).map PyData.str)) (.list []) = false from rfl]
          refine ⟨_, rfl, iteT ⟨_, rfl, a, 3, n + 50, rfl, (pu6.same s7).mono (by omega), by decide, by decide, by omega, fun H8 r8 sx8 pu8 r80 r81 => ⟨rfl, _, rfl, ?_⟩⟩⟩
          have sx68 : SamX a H6 H8 := (SamX.of s7).trans sx8
          have eD8 := sx68 _ _ nDa eD6
          by_cases c : r8 = 0
          · rw [decide_eq_true (by rw [c])]
            refine iteT ?_
            have eN8 := sx8 _ _ nnA eN7
            have hx0 : x0 ∈ W1.map (·.1) := by rw [kW, hN]; exact List.mem_cons_self
            obtain ⟨⟨x0, a0, l0⟩, hq0, rfl⟩ := List.mem_map.mp hx0
            obtain ⟨w1, w2, w3, w4⟩ := hW _ hq0
            have na0 : a0 ≠ a := fun e => by
              have w2' : H a0 = none := w2
              rw [e, hua] at w2'
              cases w2'
            have e08 : H8 a0 = some (.lst (l0.map V.str)) := sx68 _ _ na0 w1
            have ndW : (W1.map (·.1)).Nodup := by rw [kW]; exact ndN
            have g := DGet.rd (x := x0) (.inl eD8)
            rw [valV_map (fun (z : Addr × List Str) => V.ref z.1) ndW hq0] at g
            refine ⟨_, rfl, _, rfl, nA, _, _, _, rfl, rfl, SqL.of eN8, at_of (j := 0) rfl rfl, D, _, rfl, g, a0, l0.map V.str, rfl, .inl (SqL.of e08), fun q hq => ?_⟩
            obtain ⟨u8, hu8⟩ := pu8.some
            have nqa : q ≠ a := ne_some hu8 hq
            have nqD : q ≠ D := ne_some eD8 hq
            obtain ⟨xl, hxl⟩ : ∃ xl, (x0 :: xr)[(x0 :: xr).length - 1]? = some xl := ⟨_, List.getElem?_eq_getElem (by simp)⟩
            have hl : xl ∈ W1.map (·.1) := by rw [kW, hN]; exact List.mem_of_getElem? hxl
            have sq := Same.new (o := .lst (l0.map V.str)) hq
            have lW : (refK W1).length < sizeLine := by
              rw [List.length_map, show W1.length = (W1.map (·.1)).length by rw [List.length_map], kW]
              exact Nat.lt_of_le_of_lt lNS (by decide)
            refine ⟨_, rfl, _, rfl, _, rfl, nA, _, _, _, rfl, rfl, SqL.of (sq _ _ eN8), at_neg1 (v := .str xl) (by simp) (by rw [List.length_map, List.getElem?_map, hxl]; rfl), D, _, rfl, .inl ⟨_, Sum.inr xl, sq _ _ eD8, rfl, lW, rfl⟩, ?_⟩
            refine he _ _ ⟨o6, rfl, ?_, ?_, ?_, W1.map (fun z => if z.1 = xl then (z.1, (q, l0)) else z), ?_, ?_, fun z hz => ?_⟩
            · intro b u nb hb
              rw [upd_ne (ne_of_none hb fD)]
              exact sq _ _ (sx68 _ _ nb (sx6 _ _ nb hb))
            · obtain ⟨q0, q1, q2, q3, hq', kq⟩ := (pu8.same sq).mono (m := n + 51) (by omega)
              exact ⟨q0, q1, q2, q3, by rw [upd_ne nDa.symm]; exact hq', kq⟩
            · rw [upd_ne (fun z => by rw [z, eD6] at eK6; cases eK6)]
              exact sq _ _ (sx68 _ _ nkA eK6)
            · rw [List.map_map, ← kW]
              refine List.map_congr_left fun z _ => ?_
              show (if z.1 = xl then (z.1, (q, l0)) else z).1 = z.1
              split <;> rfl
            · rw [upd_same, refK_put hl]
            · obtain ⟨z0, hz0, rfl⟩ := List.mem_map.mp hz
              by_cases cz : z0.1 = xl
              · rw [if_pos cz]
                refine ⟨?_, (sx6.trans sx68).free nqa hq, w3, w4⟩
                show upd (upd H8 q _) D _ q = _
                rw [upd_ne nqD, upd_same]
              · rw [if_neg cz]
                obtain ⟨v1, v2, v3, v4⟩ := hW z0 hz0
                have nza : z0.2.1 ≠ a := fun e => by rw [e, hua] at v2; cases v2
                refine ⟨?_, v2, v3, v4⟩
                rw [upd_ne (fun e => by rw [e, eD6] at v1; cases v1)]
                exact sq _ _ (sx68 _ _ nza v1)
          · rw [decide_eq_false (fun z => c (by cases z; rfl))]
            refine iteF (he _ _ ⟨o6, rfl, sx6.trans sx68, pu8.mono (by omega), sx68 _ _ nkA eK6, W1, by rw [kW, hN], eD8, fun q hq => ?_⟩)
            obtain ⟨v1, v2, v3⟩ := hW q hq
            have nza : q.2.1 ≠ a := fun e => by rw [e, hua] at v2; cases v2
            exact ⟨sx68 _ _ nza v1, v2, v3⟩
end
end K79


set_option Elab.async false
set_option linter.all false
set_option maxRecDepth 100000
set_option maxHeartbeats 4000000
set_option pp.maxSteps 900
namespace Lk
open PySem PyProof.Rows L2 Eat
/-! ### how long a repr may be -/
theorem len_textFrom : ∀ (ts : List Str) (k : Nat) (acc : Str), (textFrom k acc ts).length ≤ acc.length + piled ts
  | [], k, acc => Nat.le_add_right _ _
  | t :: ts, k, acc => by
    have ih := len_textFrom ts (k + 1) (acc ++ (if k > 0 then ", " else "" : String) ++ t)
    rw [strLen_append, strLen_append] at ih
    rw [piled_cons]
    have e : ((if k > 0 then ", " else "" : String) : Str).length ≤ 2 := by split <;> decide
    show (textFrom (k + 1) _ ts).length ≤ _
    omega
theorem len_list (ts : List Str) : (listText ts).length ≤ 2 + piled ts := by
  unfold listText
  rw [strLen_append]
  have := len_textFrom ts 0 "["
  have e1 : ("[" : Str).length = 1 := rfl
  have e2 : ("]" : Str).length = 1 := rfl
  omega
theorem len_join : ∀ ts : List Str, (Str.join ", " ts).length ≤ piled ts
  | [] => Nat.le_refl _
  | [x] => by rw [piled_cons]; show x.length ≤ _; omega
  | x :: y :: r => by
    have ih := len_join (y :: r)
    rw [piled_cons]
    show (x ++ ", " ++ Str.join ", " (y :: r)).length ≤ _
    rw [strLen_append, strLen_append]
    have e1 : (", " : Str).length = 2 := rfl
    omega
theorem len_dict (ts : List Str) : (dictText ts).length ≤ 2 + piled ts := by
  unfold dictText
  rw [strLen_append, strLen_append]
  have := len_join ts
  have e1 : ("{" : Str).length = 1 := rfl
  have e2 : ("}" : Str).length = 1 := rfl
  omega
theorem len_repr {x : Str} (h : ∀ c ∈ x.cps.toList, c < 16 ^ 8) : (reprText x).length ≤ 2 + 10 * x.length := by
  have := StrLaws.reprText_len x h
  omega
theorem piled_le {α : Type} {f : α → Str} {m : Nat} : ∀ {l : List α}, (∀ x ∈ l, (f x).length ≤ m) → piled (l.map f) ≤ l.length * (m + 2)
  | [], _ => Nat.zero_le _
  | x :: l, h => by
    have ih := piled_le (f := f) (l := l) fun y hy => h y (List.mem_cons_of_mem _ hy)
    rw [List.map_cons, piled_cons, List.length_cons, Nat.succ_mul]
    have := h x List.mem_cons_self
    omega
def dW (W : List (Str × Addr × List Str)) : List (PyData × PyData) := W.map fun q => (.str q.1, .list (q.2.2.map .str))
def dS (S : List (Str × Int)) : List (PyData × PyData) := S.map fun q => (.str q.1, .int q.2)
def dD (W : List (Str × Addr × List Str)) (S : List (Str × Int)) : PyData := .list [.dict (dW W), .dict (dS S)]
theorem dq_strs {K : PySem.W.Frag} {H : Hp} : ∀ l : List Str, DqAll K H (l.map V.str) (l.map PyData.str)
  | [] => .nil
  | x :: l => .cons (.str x) (dq_strs l)
theorem dq_W {K : PySem.W.Frag} {H : Hp} : ∀ {W : List (Str × Addr × List Str)}, (∀ q ∈ W, SqL K H q.2.1 (q.2.2.map V.str)) → DqKv K H (refK W) (dW W)
  | [], _ => .nil
  | q :: W, h => .cons (.lst (h q List.mem_cons_self) (dq_strs _)) (dq_W fun z hz => h z (List.mem_cons_of_mem _ hz))
theorem dq_S {K : PySem.W.Frag} {H : Hp} : ∀ S : List (Str × Int), DqKv K H (numK S) (dS S)
  | [] => .nil
  | q :: S => .cons (.int q.2) (dq_S S)
theorem dq_D {K : PySem.W.Frag} {H : Hp} {p d c : Addr} {W : List (Str × Addr × List Str)} {S : List (Str × Int)} (hW : Wis K H d W) (hS : Stk H c S) (hp : H p = some (.lst [.ref d, .ref c])) : Dq K H (.ref p) (dD W S) :=
  .lst (SqL.of hp) (.cons (.dic (.inr hW.1) (dq_W hW.2)) (.cons (.dic (.inr hS) (dq_S S)) .nil))
theorem all_strs : ∀ l : List Str, PyData.showableAll (l.map PyData.str) = true ∧ PyData.depthAll (l.map PyData.str) = 0 ∧ PyData.shownAll (l.map PyData.str) = l.map reprText
  | [] => ⟨rfl, rfl, rfl⟩
  | x :: l => by
    obtain ⟨a, b, c⟩ := all_strs l
    refine ⟨?_, ?_, ?_⟩
    · show (true && _) = true
      rw [Bool.true_and]
      exact a
    · show max 0 _ = 0
      rw [show PyData.depthAll (List.map PyData.str l) = 0 from b]
      rfl
    · show reprText x :: _ = reprText x :: _
      rw [show PyData.shownAll (List.map PyData.str l) = l.map reprText from c]
theorem kv_W : ∀ W : List (Str × Addr × List Str), PyData.showableKv (dW W) = true ∧ PyData.depthKv (dW W) ≤ 1 ∧ PyData.shownKv (dW W) = W.map fun q => reprText q.1 ++ ": " ++ listText (q.2.2.map reprText)
  | [] => ⟨rfl, Nat.zero_le _, rfl⟩
  | q :: W => by
    obtain ⟨a, b, c⟩ := kv_W W
    obtain ⟨d, e, f⟩ := all_strs q.2.2
    refine ⟨?_, ?_, ?_⟩
    · show (true && PyData.showableAll (q.2.2.map PyData.str) && PyData.showableKv (dW W)) = true
      rw [d, a]
      rfl
    · show max (max 0 (PyData.depthAll (q.2.2.map PyData.str) + 1)) (PyData.depthKv (dW W)) ≤ 1
      rw [e]
      omega
    · show (reprText q.1 ++ ": " ++ listText (PyData.shownAll (q.2.2.map PyData.str))) :: PyData.shownKv (dW W) = _
      rw [f, c]
      rfl
theorem kv_S : ∀ S : List (Str × Int), (∀ q ∈ S, 0 ≤ q.2 ∧ q.2 ≤ 30) → PyData.showableKv (dS S) = true ∧ PyData.depthKv (dS S) ≤ 1 ∧ PyData.shownKv (dS S) = S.map fun q => reprText q.1 ++ ": " ++ ((toString q.2 : String) : Str)
  | [], _ => ⟨rfl, Nat.zero_le _, rfl⟩
  | q :: S, h => by
    obtain ⟨a, b, c⟩ := kv_S S fun z hz => h z (List.mem_cons_of_mem _ hz)
    obtain ⟨h0, h1⟩ := h q List.mem_cons_self
    refine ⟨?_, ?_, ?_⟩
    · show (true && decide (q.2.natAbs.log2 < 1920) && PyData.showableKv (dS S)) = true
      have e : q.2.natAbs.log2 < 1920 := by
        refine Nat.lt_of_lt_of_le (PySem.Flt.log2_lt_of (k := 8) (by decide) ?_) (by decide)
        show q.2.natAbs < 256
        omega
      rw [decide_eq_true e, a]
      rfl
    · show max (max 0 0) (PyData.depthKv (dS S)) ≤ 1
      omega
    · show (reprText q.1 ++ ": " ++ ((toString q.2 : String) : Str)) :: PyData.shownKv (dS S) = _
      rw [c]
      rfl
theorem int_len : ∀ n : Nat, n < 31 → (((toString (n : Int) : String) : Str)).length ≤ 4 := by decide +kernel
theorem repr_name {x : Str} (h1 : x.length ≤ 10) (h : ∀ c ∈ x.cps.toList, c ∈ ("abcdefghijklmnopqrstuvwxyz" : Str).cps.toList) : (reprText x).length ≤ 102 := by
  have q : ∀ c ∈ ("abcdefghijklmnopqrstuvwxyz" : Str).cps.toList, c < 16 ^ 8 := by decide +kernel
  have := len_repr (x := x) fun c hc => q c (h c hc)
  omega
theorem dD_ok {W : List (Str × Addr × List Str)} {S : List (Str × Int)} (okW : K79.WisOk W) (okS : K79.StkOk S) (few : Few W S) : (dD W S).showable = true ∧ (dD W S).depth ≤ 60 ∧ (dD W S).shown.length ≤ sizeLine := by
  obtain ⟨a1, a2, a3⟩ := kv_W W
  obtain ⟨b1, b2, b3⟩ := kv_S S few.cnt
  refine ⟨?_, ?_, ?_⟩
  · show (PyData.showableKv (dW W) && (PyData.showableKv (dS S) && true)) = true
    rw [a1, b1]
    rfl
  · show max (PyData.depthKv (dW W) + 1) (max (PyData.depthKv (dS S) + 1) 0) + 1 ≤ 60
    omega
  · show (listText [dictText (PyData.shownKv (dW W)), dictText (PyData.shownKv (dS S))]).length ≤ sizeLine
    rw [a3, b3]
    have h1 := len_list [dictText (W.map fun q => reprText q.1 ++ ": " ++ listText (q.2.2.map reprText)), dictText (S.map fun q => reprText q.1 ++ ": " ++ ((toString q.2 : String) : Str))]
    have h2 := len_dict (W.map fun q => reprText q.1 ++ ": " ++ listText (q.2.2.map reprText))
    have h3 := len_dict (S.map fun q => reprText q.1 ++ ": " ++ ((toString q.2 : String) : Str))
    have e : (": " : Str).length = 2 := rfl
    have h4 := piled_le (l := W) (f := fun q => reprText q.1 ++ ": " ++ listText (q.2.2.map reprText)) (m := 6400) fun q hq => by
      obtain ⟨q1, q2, q3, q4⟩ := okW.1 q hq
      rw [strLen_append, strLen_append]
      have r1 := repr_name q1.2.1 q1.2.2
      have r2 := len_list (q.2.2.map reprText)
      have r3 := piled_le (l := q.2.2) (f := reprText) (m := 102) fun x hx => repr_name (q2 x hx).2.1 (q2 x hx).2.2
      have : q.2.2.length * 104 ≤ 60 * 104 := Nat.mul_le_mul_right _ q4
      omega
    have h5 := piled_le (l := S) (f := fun q => reprText q.1 ++ ": " ++ ((toString q.2 : String) : Str)) (m := 200) fun q hq => by
      obtain ⟨q1, _⟩ := okS.1 q hq
      rw [strLen_append, strLen_append]
      have r1 := repr_name q1.2.1 q1.2.2
      obtain ⟨c0, c1⟩ := few.cnt q hq
      obtain ⟨m, hm⟩ := Int.eq_ofNat_of_zero_le c0
      have r2 := int_len m (by omega)
      rw [← hm] at r2
      omega
    have m1 : W.length * (6400 + 2) ≤ 6 * (6400 + 2) := Nat.mul_le_mul_right _ few.six
    have m2 : S.length * (200 + 2) ≤ 7 * (200 + 2) := Nat.mul_le_mul_right _ few.seven
    rw [piled_cons, piled_cons, piled_nil] at h1
    have : sizeLine = 16777216 := by decide
    omega
end Lk


set_option Elab.async false
set_option linter.all false
set_option maxRecDepth 100000
set_option maxHeartbeats 4000000
set_option pp.maxSteps 900
namespace Lk
open PySem PyProof.Rows L2 Eat
section
variable {K : PySem.W.Frag} {H H' : Hp}
theorem fr_al {n : Nat} {v u : V} {q : Rat} (h1 : Fr K H v q) (h2 : Fr K H u q) : AlV K H (n + 1) v u := by
  obtain ⟨x, rfl, hx⟩ := h1
  obtain ⟨y, rfl, hy⟩ := h2
  exact .inr (.inr (.inr (.inr ⟨.tuple [.int q.num, .int (q.den : Int)], .tup hx (.cons (.int _) (.cons (.int _) .nil)), .tup hy (.cons (.int _) (.cons (.int _) .nil)), rfl, rfl, x, y, rfl, rfl⟩)))
theorem row_keys {R : List (Str × V)} {f : Str → Rat} {ks : List Str} (h2 : Lef K H R f) (h3 : ∀ k ∈ R.map (·.1), 0 < f k ∧ k ∈ ks) (k : Str) : k ∈ R.map (·.1) ↔ 0 < f k :=
  ⟨fun h => (h3 k h).1, fun h => Classical.byContradiction fun c => by
    rw [h2.off k c] at h
    exact absurd h (by decide)⟩
theorem row_al {n : Nat} {a b : Addr} {ks : List Str} {f : Str → Rat} (h : Row K H a ks f) (h' : Row K H b ks f) : AlR K H (AlV K H (n + 1)) (.ref a) (.ref b) := by
  obtain ⟨R, r1, r2, r3⟩ := h
  obtain ⟨R', r1', r2', r3'⟩ := h'
  have kk : ∀ k, k ∈ R.map (·.1) ↔ k ∈ R'.map (·.1) := fun k => (row_keys r2 r3 k).trans (row_keys r2' r3' k).symm
  have pm := (List.perm_ext_iff_of_nodup r2.nd r2'.nd).mpr kk
  refine .inr (.inl ⟨a, b, tK R, tK R', rfl, rfl, .inl r1, .inl r1', ?_, fun z hz => ?_⟩)
  · have := pm.length_eq
    rw [List.length_map, List.length_map] at this
    rw [List.length_map, List.length_map, this]
  · obtain ⟨⟨k, v⟩, hq, rfl⟩ := List.mem_map.mp hz
    have hk : k ∈ R'.map (·.1) := (kk k).mp (List.mem_map.mpr ⟨_, hq, rfl⟩)
    obtain ⟨⟨k, u⟩, hq', rfl⟩ := List.mem_map.mp hk
    exact ⟨u, tK_val r2'.nd hq', fr_al (r2.fr _ hq) (r2'.fr _ hq')⟩
/-- two dicts of the same shares are alike -/
theorem shs_ex {p t : Addr} {M M' : List (Str × Addr)} {ks : List Str} {g : Str → Str → Rat} (hp : Rd H p (.dK (tK (mK M)))) (ht : Rd H t (.dK (tK (mK M')))) (s : Shs K H M ks g) (s' : Shs K H M' ks g) (pm : (M.map (·.1)).Perm (M'.map (·.1))) : Ex K H (.ref p) (.ref t) := by
  refine ⟨p, t, _, _, 3, rfl, rfl, hp, ht, by decide, fun H2 e => .inr (.inl ⟨p, t, _, _, rfl, rfl, rd_same e hp, rd_same e ht, ?_, fun z hz => ?_⟩)⟩
  · have := pm.length_eq
    rw [List.length_map, List.length_map] at this
    rw [List.length_map, List.length_map, List.length_map, List.length_map, this]
  · obtain ⟨q, hq, rfl⟩ := List.mem_map.mp hz
    obtain ⟨⟨n, a⟩, hm, rfl⟩ := List.mem_map.mp hq
    have hn : n ∈ M'.map (·.1) := pm.mem_iff.mp (List.mem_map.mpr ⟨_, hm, rfl⟩)
    obtain ⟨⟨n, b⟩, hm', rfl⟩ := List.mem_map.mp hn
    refine ⟨.ref b, tK_val (by rw [mK_keys]; exact s'.nd) (List.mem_map.mpr ⟨(n, b), hm', rfl⟩), .inr (.inr (row_al (n := 1) ((s.row _ hm).same e) ((s'.row _ hm').same e)))⟩
end
section
variable {W : List (Str × Addr × List Str)} {S : List (Str × Int)}
/-- what holds of the shares -/
structure Fct (W : List (Str × Addr × List Str)) (S : List (Str × Int)) (g : Str → Str → Rat) : Prop where
  nn : ∀ n k, 0 ≤ g n k
  own : ∀ n a l, (n, a, l) ∈ W → ∀ k, ¬ k ∈ l → g n k = 0
  ups : ∀ n a l, (n, a, l) ∈ W → ∀ m j, Sz 64 ((l.take j).map (g m)).sum
  env : ∀ n a l, (n, a, l) ∈ W → ∀ m j, ((l.take j).map (g m)).sum ≤ ((l.take j).map (g n)).sum
  one : ∀ n k, Sz 64 (g n k)
  used : ∀ k i, Sz 64 ((((W.map (·.1)).take i).map fun n => g n k).sum)
  row : ∀ n a l, (n, a, l) ∈ W → ∀ R : List Str, R.Nodup → (∀ k, k ∈ R ↔ 0 < g n k) → (∀ i, Sz 64 ((R.map (g n)).take i).sum) ∧ (R.map (g n)).sum = (l.map (g n)).sum
  fin : ∀ n a l, (n, a, l) ∈ W → (l.map (g n)).sum = 1 ∨ ∀ k ∈ l, ((W.map (·.1)).map fun n => g n k).sum = amt S k
theorem Few.fct (h : Few W S) (okW : K79.WisOk W) : Fct W S (fin (Wl W) (st0 S)).got := by
  have nd : ∀ n ∈ (Wl W).map (·.1), (wl (Wl W) n).Nodup := fun n hn => by
    rw [Wl_names] at hn
    obtain ⟨⟨n, a, l⟩, hq, rfl⟩ := List.mem_map.mp hn
    rw [wl_mem h.nW hq]
    exact (okW.1 _ hq).2.2.1
  have fair0 : Fair (Wl W) (st0 S) := ⟨fun n _ j => .inl (sum_zero _), fun n _ j m => by
    have e : ∀ x l, (st0 S).up x l = 0 := fun x l => sum_zero l
    rw [e, e]
    exact ⟨by decide, by show (0 : Rat) ≤ 0; decide⟩⟩
  obtain ⟨i, hi, A⟩ := run_all (ks := S.map (·.1)) (fun k => h.key k) nd h.six' 40 (st0 S) 0 ⟨h.good, fair0, h.fine, fun _ _ _ => rfl⟩ h.mu
  have dn := (run_ge (ks := S.map (·.1)) (W := Wl W) (fun k => h.key k) 40 (st0 S) h.good (by have := h.mu; omega)).2
  have eF : fin (Wl W) (st0 S) = run (Wl W) 40 (st0 S) := rfl
  rw [eF]
  generalize run (Wl W) 40 (st0 S) = F at A dn
  have mem : ∀ {n a l}, (n, a, l) ∈ W → n ∈ (Wl W).map (·.1) ∧ wl (Wl W) n = l := fun {n a l} hm => ⟨by rw [Wl_names]; exact List.mem_map.mpr ⟨_, hm, rfl⟩, wl_mem h.nW hm⟩
  have h1 := A.good.h1
  have upS : ∀ n a l, (n, a, l) ∈ W → ∀ m j, Sz 64 ((l.take j).map (F.got m)).sum := fun n a l hm m j => by
    obtain ⟨m1, m2⟩ := mem hm
    have q := (A.fair.all n m1 j m).2
    rw [m2] at q
    exact (gr_sum (l.take j) fun k _ => A.fine.got m k).sz (by omega) (sum_nn _ fun k _ => A.good.g0 m k) (by have q' : ((l.take j).map (F.got m)).sum ≤ F.hour := q; grind)
  have usedL : ∀ k, (((W.map (·.1)).map fun n => F.got n k).sum) + F.left k = amt S k := fun k => by
    have := A.good.used k
    rw [Wl_names] at this
    exact this
  refine ⟨A.good.g0, fun n a l hm k hk => A.own n k (by rw [(mem hm).2]; exact hk), upS, fun n a l hm m j => ?_, fun n k => ?_, fun k i => ?_, fun n a l hm R nR hR => ?_, fun n a l hm => ?_⟩
  · obtain ⟨m1, m2⟩ := mem hm
    have q := (A.fair.all n m1 j m).1
    rw [m2] at q
    exact q
  · refine (A.fine.got n k).sz (by omega) (A.good.g0 n k) ?_
    have := A.fine.small n k
    grind
  · have t := sum_take (f := fun n => F.got n k) (W.map (·.1)) (fun n _ => A.good.g0 n k) i
    have e := usedL k
    have l0 := A.good.nn k
    have a3 := (h.amt0 k).2
    exact (gr_sum _ fun n _ => A.fine.got n k).sz (by omega) t.1 (by grind)
  · obtain ⟨m1, m2⟩ := mem hm
    have nl : l.Nodup := by rw [← m2]; exact nd n m1
    have kl : ∀ k ∈ R, k ∈ l := fun k hk => Classical.byContradiction fun c => by
      have := (hR k).mp hk
      rw [A.own n k (by rw [m2]; exact c)] at this
      exact absurd this (by decide)
    have tot : (R.map (F.got n)).sum = (l.map (F.got n)).sum := sum_keys nR nl kl fun k _ hk => by
      have a0 := A.good.g0 n k
      have a1 : ¬ 0 < F.got n k := fun z => hk ((hR k).mpr z)
      grind
    refine ⟨fun i => ?_, tot⟩
    rw [← List.map_take]
    have t := sum_take (f := F.got n) R (fun k _ => A.good.g0 n k) i
    have q := (A.fair.all n m1 l.length n).2
    rw [m2, List.take_length] at q
    have q' : (l.map (F.got n)).sum ≤ F.hour := q
    exact (gr_sum _ fun k _ => A.fine.got n k).sz (by omega) t.1 (by rw [tot] at t; grind)
  · obtain ⟨m1, m2⟩ := mem hm
    have left0 : (∀ k ∈ l, F.left k = 0) → ∀ k ∈ l, ((W.map (·.1)).map fun n => F.got n k).sum = amt S k := fun z k hk => by
      have := usedL k
      rw [z k hk] at this
      grind
    rcases dn with z | z
    · have q := A.fair.own n m1 l.length
      rw [m2, List.take_length] at q
      rcases q with q | q
      · left
        have q' : (l.map (F.got n)).sum = F.hour := q
        grind
      · exact .inr (left0 q)
    · right
      refine left0 fun k hk => ?_
      have q := meal_none (z n m1) k (by rw [m2]; exact hk)
      have := A.good.nn k
      grind
end
end Lk


set_option Elab.async false
set_option linter.all false
set_option maxRecDepth 100000
set_option maxHeartbeats 4000000
set_option pp.maxSteps 900
set_option exponentiation.threshold 9000
namespace Lk
open PySem PySem.Spec PyProof.Rows L2
section
variable {P : Program} {w : World} {K : PySem.W.Frag} {mg : Str → Option Value} {base : Heap}
theorem fnok_mono {CX : CXT} {j k : Nat} {f : Addr} {fd : FuncData} {ps : List Str} {sp : Sp} (F : FnOk P w K mg base CX j f fd ps sp) (h : j ≤ k) : FnOk P w K mg base CX k f fd ps sp :=
  ⟨F.len, fun A outer s H args us vs Q E hr => F.run A outer s H args us vs Q E (hr.mono h)⟩
theorem fnok_or {CX : CXT} {k : Nat} {f : Addr} {fd : FuncData} {ps : List Str} {sp sp' : Sp} (F : FnOk P w K mg base CX k f fd ps sp) (F' : FnOk P w K mg base CX k f fd ps sp') : FnOk P w K mg base CX k f fd ps fun vs H Q E => sp vs H Q E ∨ sp' vs H Q E :=
  ⟨fun vs H Q E h => h.elim (F.len vs H Q E) (F'.len vs H Q E), fun A outer s H args us vs Q E hr e0 hb r h => h.elim (F.run A outer s H args us vs Q E hr e0 hb r) (F'.run A outer s H args us vs Q E hr e0 hb r)⟩
end
section
variable {X : Cx} {CX : CXT} {k : Nat} {f : Addr} {fd : FuncData} {ps ks : List Str} {sp : Sp} {E : XK} {x : Str} {p pos : Pos} {kws : List Keyword} {tk : TA} {g : List Value → List Value → List Value} {gV : List V → List V → List V}
/-- f(k = v, ..) -/
theorem pe_callK0 (F : FnOk X.prog X.w X.K X.mg X.base CX k f fd ps sp) (hr : Room k X.A) (hg : Gl X x) (hm : X.mg x = some (.ref f)) (hk : PySem.W.keepIn X.K (.ref f) = true) (hb : KBinds X.K fd ps ks g gV) (hx : Passes CX X E)
    (hkw : PK X kws tk) (hall : (backToKw pos (keywordEach kws X.env)).all (·.1.isSome) = true := by rfl) (hks : (backToKw pos (keywordEach kws X.env)).filterMap (·.1) = ks := by rfl)
    (hdb : (x == ("__debug__" : Str)) = false := by decide) (hpl : ((backTo pos (starEach [] X.env)).any (·.1) || (backToKw pos (keywordEach kws X.env)).any (·.1.isNone)) = false := by rfl) :
    PE X (.Call (.Name x p) [] kws pos) (tCallK sp gV E tNil tk) := by
  refine ⟨fun pins s σ H Q I h => ?_⟩
  refine wpAny_Call_Name_kw (ld_glob I hg hm ?_ hdb)
  refine PySem.W.callWith_KW0 (h₀ := X.base) I.ok.mod.kin hk hall (thn (hkw.run pos pins s σ H _ I h) fun ws s2 ⟨zs, H2, I2, rz, q2⟩ => ⟨I2.kIn, ?_⟩) hpl
  rw [hks]
  exact run_fnk F hr hb hx I2 .nil rz q2
theorem op_neDQ {K : PySem.W.Frag} (hu : X.A.units + 64 < cLine) (h : X.K = K := by rfl) : OpR X (compareOp .NotEq) (rNeD K) := by
  subst h
  exact op_neD hu
end
section
variable {K : PySem.W.Frag} {H H' : Hp}
theorem fr_samX {r : Addr} {kvs : List (Key × V)} (e : SamX r H H') (hr : H r = some (.dK kvs)) {v : V} {q : Rat} (h : Fr K H v q) : Fr K H' v q := by
  obtain ⟨p, rfl, h⟩ := h
  refine ⟨p, rfl, ?_⟩
  rcases h with (h | ⟨o, h⟩) | h
  · exact .inl (.inl (e _ _ (fun z => by subst z; rw [hr] at h; cases h) h))
  · exact .inl (.inr ⟨o, e _ _ (fun z => by subst z; rw [hr] at h; cases h) h⟩)
  · exact .inr h
theorem fr_updF {r : Addr} {od : Obj} {kvs : List (Key × V)} {o : HO} (hr : H r = some (.frz od (.dK kvs))) {v : V} {q : Rat} (h : Fr K H v q) : Fr K (upd H r o) v q := by
  obtain ⟨p, rfl, h⟩ := h
  refine ⟨p, rfl, ?_⟩
  rcases h with (h | ⟨o, h⟩) | h
  · exact .inl (.inl (by rw [upd_ne (fun z => by subst z; rw [hr] at h; cases h)]; exact h))
  · exact .inl (.inr ⟨o, by rw [upd_ne (fun z => by subst z; rw [hr] at h; cases h)]; exact h⟩)
  · exact .inr h
theorem row_updF {r a : Addr} {od : Obj} {kvs : List (Key × V)} {o : HO} {ks : List Str} {f : Str → Rat} (hr : H r = some (.frz od (.dK kvs))) (h : Row K H a ks f) : Row K (upd H r o) a ks f := by
  obtain ⟨R, h1, h2, h3⟩ := h
  exact ⟨R, by rw [upd_ne (fun z => by subst z; rw [hr] at h1; cases h1)]; exact h1, ⟨h2.nd, fun q hq => fr_updF hr (h2.fr q hq), h2.off, h2.sz⟩, h3⟩
theorem row_congr {a : Addr} {ks : List Str} {f f' : Str → Rat} (e : ∀ k, f k = f' k) (h : Row K H a ks f) : Row K H a ks f' := by
  have : f = f' := funext e
  rw [← this]
  exact h
theorem lef_vals {R : List (Str × V)} {f : Str → Rat} (h : ∀ q ∈ R, Fr K H q.2 (f q.1)) : Paired (Fr K H) ((tK R).map (·.2)) ((R.map (·.1)).map f) := by
  induction R with
  | nil => exact .nil
  | cons q R ih => exact .cons (h q List.mem_cons_self) (ih fun z hz => h z (List.mem_cons_of_mem _ hz))
theorem stk_get {c : Addr} {S : List (Str × Int)} (h : Stk H c S) (hn : (S.map (·.1)).Nodup) (k : Str) : ∃ (o : Option V) (n : Int), DGet H c (.str k) o ∧ o.getD (.int 0) = .int n ∧ amt S k = (n : Rat) := by
  have g := DGet.rd (x := k) (frz_rd h)
  by_cases c1 : k ∈ S.map (·.1)
  · obtain ⟨⟨k, n⟩, hq, rfl⟩ := List.mem_map.mp c1
    rw [valV_map (fun n => V.int n) hn hq] at g
    exact ⟨_, n, g, rfl, amt_mem hn hq⟩
  · rw [valV_none (fun n => V.int n) c1] at g
    exact ⟨_, 0, g, rfl, amt_off c1⟩
end
end Lk
namespace K79
open PySem L2 Lk Eat
def spCase : Sp := fun vs H Q _ => ∃ (a : Addr) (n : Int), vs = [.ref a] ∧ Pu H a n ∧ n < 2 ^ 40 ∧ ∀ H', SamX a H H' → Pu H' a (n + 200) → Q (.bl true) H'
def gSW (us ws : List Value) : List Value := match us, ws with
  | [], [a, b] => [b, a]
  | _, _ => []
def gSWV (us ws : List V) : List V := match us, ws with
  | [], [a, b] => [b, a]
  | _, _ => []
section
variable {P : Program} {w : World} {K : PySem.W.Frag} {mg : Str → Option Value} {base : Heap}
theorem ok__law_case_right (T : Th K mg) (kb_eaten_shares : KBinds K T.d_eaten_shares ["wishes", "stock"] ["stock", "wishes"] gSW gSWV) (hb : ∃ mm, base.Ns sysModules mm) : FnOkG P w K mg base CX0 7 T.f__law_case_right T.d__law_case_right ["purse"] spCase := by
  have G__law_wishes : FnOk P w K mg base CX0 4 T.f__law_wishes T.d__law_wishes ["purse", "most", "wide"] (spWishes K) := ok__law_wishes T
  have G__law_eaten : FnOk P w K mg base CX0 3 T.f__law_eaten T.d__law_eaten ["wishes", "stock"] (spEaten K) := ok__law_eaten T
  have G_eaten_shares : FnOk P w K mg base CX0 6 T.f_eaten_shares T.d_eaten_shares ["wishes", "stock"] (spEaten K) := ok_eaten_shares T
  have G__law_exact : FnOk P w K mg base CX0 2 T.f__law_exact T.d__law_exact ["mine", "theirs"] (fun vs H Q E => spExL K vs H Q E ∨ spExD K vs H Q E) := fnok_or (ok__law_exactL T) (fnok_mono (ok__law_exactD T) (by decide))
  have G__law_add : FnOk P w K mg base CX0 2 T.f__law_add T.d__law_add ["one", "other"] (sp2 K (· + ·)) := ok__law_add T
  have G__law_less : FnOk P w K mg base CX0 1 T.f__law_less T.d__law_less ["one", "other"] (spLess K) := ok__law_less T
  have G__law_up_to : FnOk P w K mg base CX0 3 T.f__law_up_to T.d__law_up_to ["wishes", "name", "share"] (spUp K) := ok__law_up_to T
  have G__law_sum : FnOk P w K mg base CX0 3 T.f__law_sum T.d__law_sum ["some"] (spSum K) := ok__law_sum T
  refine fun_okG T.F__law_case_right sc__law_case_right (fun vs H Q E h => ?_) (fun cdv A outer s H vs Q E hA hr h => ?_)
  · obtain ⟨a, n, rfl, _⟩ := h
    rfl
  · obtain ⟨a, n, rfl, pu, hn, kk⟩ := h
    have hu := hu_of hr
    have hG : (A.deeper (PyProof.Rows.envOfC "_law_case_right" (defScope s__law_case_right) s.heap.objs.size T.f__law_case_right cdv)).guards = some [] := hA
    refine ⟨_, (pss_cons (ps_asg (pe_call G__law_wishes (hr.mono (by decide)) rfl T.g__law_wishes T.F__law_wishes.kp T.b__law_wishes .nil pass0 (pa_cons (pv 0) (pa_cons pe_int (pa_cons pe_int pa_nil)))) (pg_tup rfl (pgs_cons (pg_name (i := 1) sc__law_case_right.nd rfl (Or.inl rfl)) (pgs_cons (pg_name (i := 2) sc__law_case_right.nd rfl (Or.inr rfl)) pgs_nil))))
      (pss_cons (Lk.ps_frz (Lk.ps_frz (ps_par (i := 3) (j := 4) (by rfl) sc__law_case_right.nd rfl rfl (by decide) rfl rfl (pa_cons (pe_callB (Lk.cr_repr hG hb hr.units) (by rfl) T.n_repr (by decide +kernel) (pa_cons (pe_lst (pa_cons (pv 1) (pa_cons (pv 2) pa_nil))) pa_nil)) (pa_cons (pe_call G__law_eaten (hr.mono (by decide)) rfl T.g__law_eaten T.F__law_eaten.kp T.b__law_eaten .nil pass0 (pa_cons (pv 1) (pa_cons (pv 2) pa_nil))) pa_nil)) (by rfl))))
      (pss_cons (ps_set (i := 5) sc__law_case_right.nd rfl (Or.inl rfl) (pe_lst (pa_cons (pe_call G_eaten_shares (hr.mono (by decide)) rfl T.g_eaten_shares T.F_eaten_shares.kp T.b_eaten_shares .nil pass0 (pa_cons (pv 1) (pa_cons (pv 2) pa_nil))) (pa_cons (Lk.pe_callK0 G_eaten_shares (hr.mono (by decide)) rfl T.g_eaten_shares T.F_eaten_shares.kp kb_eaten_shares pass0 (pk_cons (pv 2) (pk_cons (pv 1) pk_nil))) pa_nil))))
      (pss_cons (ps_if (pt_not (pt_val (pe_call G__law_exact (hr.mono (by decide)) rfl T.g__law_exact T.F__law_exact.kp T.b__law_exact .nil pass0 (pa_cons (pe_lst (pa_cons (pv 4) (pa_cons (pv 4) pa_nil))) (pa_cons (pv 5) pa_nil)))))
        (pss_one (ps_ret pe_bl))
        pss_nil)
      (pss_cons (ps_set (i := 6) sc__law_case_right.nd rfl (Or.inr rfl) pe_dnewK)
      (pss_cons (ps_for PassesOwn.never rfl (pi_keys (pv 1)) (pg_name (i := 7) sc__law_case_right.nd rfl (Or.inl rfl))
        (pss_one (ps_lock (ps_for PassesOwn.never rfl (pi_keys (pe_dget hu (pv 4) (pv 7) (fun _ _ => rfl))) (pg_name (i := 8) sc__law_case_right.nd rfl (Or.inl rfl))
          (pss_one (ps_dput hu (pv 6) (pv 8) (pe_call G__law_add (hr.mono (by decide)) rfl T.g__law_add T.F__law_add.kp T.b__law_add .nil pass0 (pa_cons (pe_dget2 hu (pv 6) (pv 8) (pe_tup (pa_cons pe_int (pa_cons pe_int pa_nil))) ⟨rfl, rfl, rfl, rfl⟩) (pa_cons (pe_dget hu (pe_dget hu (pv 4) (pv 7) (fun _ _ => rfl)) (pv 8) (fun _ _ => rfl)) pa_nil))) rfl))))))
      (pss_cons (ps_for PassesOwn.never rfl (pi_keys (pv 1)) (pg_name (i := 7) sc__law_case_right.nd rfl (Or.inl rfl))
        (pss_cons (ps_set (i := 9) sc__law_case_right.nd rfl (Or.inl rfl) (pe_call G__law_up_to (hr.mono (by decide)) rfl T.g__law_up_to T.F__law_up_to.kp T.b__law_up_to .nil pass0 (pa_cons (pv 1) (pa_cons (pv 7) (pa_cons (pe_dget hu (pe_ix ix_list (pv 5) pe_int (fun _ _ => rfl)) (pv 7) (fun _ _ => rfl)) pa_nil)))))
        (pss_cons (ps_for PassesOwn.never rfl (pi_keys (pv 1)) (pg_name (i := 10) sc__law_case_right.nd rfl (Or.inl rfl))
          (pss_one (ps_for PassesOwn.never rfl (pi_zip (by rfl) T.n_zip (pa_cons (pv 9) (pa_cons (pe_call G__law_up_to (hr.mono (by decide)) rfl T.g__law_up_to T.F__law_up_to.kp T.b__law_up_to .nil pass0 (pa_cons (pv 1) (pa_cons (pv 7) (pa_cons (pe_dget hu (pe_ix ix_list (pv 5) pe_int (fun _ _ => rfl)) (pv 10) (fun _ _ => rfl)) pa_nil)))) pa_nil))) (pg_tup rfl (pgs_cons (pg_name (i := 11) sc__law_case_right.nd rfl (Or.inl rfl)) (pgs_cons (pg_name (i := 12) sc__law_case_right.nd rfl (Or.inl rfl)) pgs_nil)))
            (pss_one (ps_if (pt_val (pe_call G__law_less (hr.mono (by decide)) rfl T.g__law_less T.F__law_less.kp T.b__law_less .nil pass0 (pa_cons (pv 11) (pa_cons (pv 12) pa_nil))))
              (pss_one (ps_ret pe_bl))
              pss_nil)))))
        (pss_one (ps_if (pt_cmpR (op_neD hr.units) (pe_call G__law_sum (hr.mono (by decide)) rfl T.g__law_sum T.F__law_sum.kp T.b__law_sum .nil pass0 (pa_cons (Lk.pe_listVals rfl (pe_dget hu (pv 4) (pv 7) (fun _ _ => rfl)) (by rfl) T.n_list (by decide +kernel)) pa_nil)) (pe_tup (pa_cons pe_int (pa_cons pe_int pa_nil))) (nomark _))
          (pss_one (ps_if (pt_cmpR (op_neD hr.units) (pe_lc (own := [("kind", 8)]) rfl sc__law_case_right.nd (pi_list (pe_dget hu (pv 1) (pv 7) (fun _ _ => rfl))) (blkOk_by (own := [("kind", 8)]) (N := N__law_case_right) (sc := defScope s__law_case_right) (by decide +kernel)) (fun _ _ _ _ _ => pg_name (i := 8) sc__law_case_right.nd rfl (Or.inl rfl)) (fun _ _ _ _ _ => pts_one (pt_cmpR (Lk.op_neDQ (K := K) hr.units) (pe_dget2 hu (pv 6) (pv 8) (pe_tup (pa_cons pe_int (pa_cons pe_int pa_nil))) ⟨rfl, rfl, rfl, rfl⟩) (pe_tup (pa_cons (pe_dget2 hu (pv 2) (pv 8) pe_int ⟨rfl, rfl, rfl, rfl⟩) (pa_cons pe_int pa_nil))) (nomark _))) (fun _ _ _ _ _ => pv 8)) (pe_lst pa_nil) (nomark _))
            (pss_one (ps_ret pe_bl))
            pss_nil))
          pss_nil)))))
      (pss_cons (ps_lock (ps_for PassesOwn.never rfl (pi_keys (pe_ix ix_list (pv 5) pe_int (fun _ _ => rfl))) (pg_name (i := 7) sc__law_case_right.nd rfl (Or.inl rfl))
        (pss_one (ps_dput hu (pe_dget hu (pe_ix ix_list (pv 5) pe_int (fun _ _ => rfl)) (pv 7) (fun _ _ => rfl)) pe_str (pe_tup (pa_cons pe_int (pa_cons pe_int pa_nil))) rfl))))
      (pss_cons (ps_dput hu (pe_ix ix_list (pv 5) pe_int (fun _ _ => rfl)) pe_str pe_dnewK rfl)
      (pss_one (ps_ret (pe_and (pe_call G__law_exact (hr.mono (by decide)) rfl T.g__law_exact T.F__law_exact.kp T.b__law_exact .nil pass0 (pa_cons (pv 4) (pa_cons (pe_call G_eaten_shares (hr.mono (by decide)) rfl T.g_eaten_shares T.F_eaten_shares.kp T.b_eaten_shares .nil pass0 (pa_cons (pv 1) (pa_cons (pv 2) pa_nil))) pa_nil))) (pe_one (pe_cmpR op_eq (pe_callB (Lk.cr_repr hG hb hr.units) (by rfl) T.n_repr (by decide +kernel) (pa_cons (pe_lst (pa_cons (pv 1) (pa_cons (pv 2) pa_nil))) pa_nil)) (pv 3) (nomark _))))))))))))))), ?_⟩
    obtain ⟨ua, hua⟩ := pu.some
    refine ⟨_, rfl, a, n, rfl, pu, by omega, fun H1 p d c W S sx1 e1 fd fc ndc ed hW ec okW okS few pu1 => ⟨p, _, rfl, SqT.of e1, rfl, _, _, rfl, _, _, rfl, rfl, ?_⟩⟩
    have nda : d ≠ a := fun z => by rw [z, hua] at fd; cases fd
    have nca : c ≠ a := fun z => by rw [z, hua] at fc; cases fc
    refine ⟨d, _, ed, trivial, fun od => ⟨c, .dK (numK S), by rw [upd_ne ndc.symm]; exact ec, trivial, fun oc => ?_⟩⟩
    have ed2 : (upd (upd H1 d (.frz od (.dK (refK W)))) c (.frz oc (.dK (numK S)))) d = some (.frz od (.dK (refK W))) := by rw [upd_ne ndc, upd_same]
    have ec2 : (upd (upd H1 d (.frz od (.dK (refK W)))) c (.frz oc (.dK (numK S)))) c = some (.frz oc (.dK (numK S))) := upd_same
    have sx2 : SamX a H (upd (upd H1 d (.frz od (.dK (refK W)))) c (.frz oc (.dK (numK S)))) := fun b u nb hb => by
      rw [upd_ne (ne_of_none hb fc), upd_ne (ne_of_none hb fd)]
      exact sx1 b u nb hb
    have hW2 : ∀ q ∈ W, (upd (upd H1 d (.frz od (.dK (refK W)))) c (.frz oc (.dK (numK S)))) q.2.1 = some (.lst (q.2.2.map V.str)) := fun q hq => by
      obtain ⟨w1, _⟩ := hW q hq
      rw [upd_ne (fun z => by rw [z, ec] at w1; cases w1), upd_ne (fun z => by rw [z, ed] at w1; cases w1)]
      exact w1
    have pu2 : Pu (upd (upd H1 d (.frz od (.dK (refK W)))) c (.frz oc (.dK (numK S)))) a (n + 200) := by
      obtain ⟨q0, q1, q2, q3, h, k⟩ := pu1
      exact ⟨q0, q1, q2, q3, by rw [upd_ne nca.symm, upd_ne nda.symm]; exact h, k⟩
    generalize upd (upd H1 d (.frz od (.dK (refK W)))) c (.frz oc (.dK (numK S))) = H2 at ed2 ec2 sx2 hW2 pu2 ⊢
    have wis2 : Wis K H2 d W := ⟨⟨od, ed2⟩, fun q hq => SqL.of (hW2 q hq)⟩
    have stk2 : Stk H2 c S := ⟨oc, ec2⟩
    obtain ⟨dk1, dk2, dk3⟩ := dD_ok okW okS few
    refine ⟨_, rfl, _, rfl, two_le, fun pl hpl => ⟨pl, dD W S, rfl, dq_D (wis2.same (Same.new hpl)) (stk2.same (Same.new hpl)) upd_same, dk1, dk2, dk3, _, rfl, _, rfl, d, c, W, S, rfl, wis2.same (Same.new hpl), okW, stk2.same (Same.new hpl), okS, few, fun H3 dd Md s3 hdd hMd pmd edd shd => ⟨_, _, rfl, ?_⟩⟩⟩
    have s23 := (Same.new (o := .lst [.ref d, .ref c]) hpl).trans s3
    have wis3 := wis2.same s23
    have stk3 := stk2.same s23
    refine ⟨_, rfl, _, rfl, d, c, W, S, rfl, wis3, okW, stk3, okS, few, fun H4 t0 M0 s4 ht0 hM0 pm0 et0 sh0 => ⟨_, rfl, _, rfl, d, c, W, S, rfl, wis3.same s4, okW, stk3.same s4, okS, few, fun H5 t1 M1 s5 ht1 hM1 pm1 et1 sh1 => ⟨two_le, fun tA htA => ?_⟩⟩⟩
    have s56 := s5.trans (Same.new (o := .lst [.ref t0, .ref t1]) htA)
    have s36 := s4.trans s56
    refine ⟨_, rfl, _, rfl, two_le, fun q hq => ⟨_, rfl, .inl ⟨q, tA, [.ref dd, .ref dd], [.ref t0, .ref t1], rfl, SqL.of upd_same, SqL.of (Same.new hq _ _ upd_same), ?_, (show 2 ≤ 60 by decide), fun H7 s7 => ⟨true, rfl, iteF ?_⟩⟩⟩⟩
    · have sq := Same.new (o := .lst [.ref dd, .ref dd]) hq
      have e1 := Rd.of (((s36.trans sq) _ _ edd))
      have ex0 := shs_ex e1 (Rd.of ((s56.trans sq) _ _ et0)) (shd.same (s36.trans sq)) (sh0.same (s56.trans sq)) (pmd.trans pm0.symm)
      have ex1 := shs_ex e1 (Rd.of (((Same.new htA).trans sq) _ _ et1)) (shd.same (s36.trans sq)) (sh1.same ((Same.new htA).trans sq)) (pmd.trans pm1.symm)
      exact .cons ex0 (.cons ex1 .nil)
    have fct := few.fct okW
    generalize hg : (fin (Wl W) (st0 S)).got = g at shd sh0 fct
    have sA7 := (Same.new (o := .lst [.ref dd, .ref dd]) hq).trans s7
    have s37 := s36.trans sA7
    have s47 := s56.trans sA7
    have etA7 := sA7 _ _ (upd_same (H := H5) (a := tA) (o := .lst [.ref t0, .ref t1]))
    have et07 := s47 _ _ et0
    have sh07 := sh0.same s47
    have shd7 := shd.same s37
    have edd7 := s37 _ _ edd
    have wis7 := wis3.same s37
    have stk7 := stk3.same s37
    obtain ⟨od7, ed7⟩ := wis7.1
    have kMd : ∀ x ∈ W.map (·.1), ∃ r, (x, r) ∈ Md := fun x hx => by
      obtain ⟨⟨y, r⟩, h1, rfl⟩ := List.mem_map.mp (pmd.mem_iff.mpr hx)
      exact ⟨r, h1⟩
    have kM0 : ∀ x ∈ W.map (·.1), ∃ r, (x, r) ∈ M0 := fun x hx => by
      obtain ⟨⟨y, r⟩, h1, rfl⟩ := List.mem_map.mp (pm0.mem_iff.mpr hx)
      exact ⟨r, h1⟩
    have lks : (S.map (·.1)).length < 1000 := by rw [List.length_map]; exact Nat.lt_of_le_of_lt few.seven (by decide)
    have t0ne : t0 ≠ tA := ne_of_none ((s5 _ _ et0)) htA
    refine fun uD huD => ?_
    have su := Same.new (o := HO.dK []) huD
    -- what is used
    refine ⟨_, rfl, d, od7, rfl, .inl ⟨_, su _ _ ed7, for_it walk_keys (fun i σ H' => ∃ o7 o8, σ = [some (.ref a), some (.ref d), some (.ref c), some (.str (dD W S).shown), some (.ref dd), some (.ref tA), some (.ref uD), o7, o8, none, none, none, none] ∧ Same H7 H' ∧ Row K H' uD (S.map (·.1)) fun k => (((W.map (·.1)).take i).map fun n => g n k).sum)
      ⟨_, _, rfl, su, Row.nil upd_same⟩ (fun i σ H' _ h => ?_) ?_ ?_⟩⟩
    · obtain ⟨_, _, _, s8, _⟩ := h
      exact s8 _ _ ed7
    · rintro i v σ H8 H8' hi ⟨o7, o8, rfl, s8, ru⟩ ⟨rfl, k', v', hkv, rfl⟩
      obtain ⟨⟨x, ax, l⟩, hqw, rfl, rfl⟩ := key_at (f := fun (z : Addr × List Str) => V.ref z.1) hkv
      have ex : (W.map (·.1))[i]? = some x := by rw [List.getElem?_map, hqw]; rfl
      obtain ⟨r, hr1⟩ := kMd x (List.mem_of_getElem? ex)
      obtain ⟨R, r1, r2, r3⟩ := shd7.row _ hr1
      have r8 : H8' r = some (.dK (tK R)) := s8 _ _ r1
      refine ⟨r, _, r8, trivial, fun orr => ?_⟩
      have nru : uD ≠ r := ne_some r1 huD
      have ndd : dd ≠ r := by
        have := (hMd _ hr1).2
        exact this.symm
      have sl : SamX r H7 (upd H8' r (.frz orr (.dK (tK R)))) := (SamX.of s8).put
      have rul : Row K (upd H8' r (.frz orr (.dK (tK R)))) uD (S.map (·.1)) fun k => (((W.map (·.1)).take i).map fun n => g n k).sum := ru.samD ((SamD.refl _).putA r8) (upd_ne nru)
      have erl : (upd H8' r (.frz orr (.dK (tK R)))) r = some (.frz orr (.dK (tK R))) := upd_same
      generalize upd H8' r (.frz orr (.dK (tK R))) = Hl at sl rul erl ⊢
      refine ⟨_, rfl, _, rfl, dd, .ref r, rfl, mK_get (.inl (sl _ _ ndd edd7)) shd7.nd hr1, r, orr, rfl, .inl ⟨_, erl, for_it walk_keys (fun j σ H' => ∃ o8, σ = [some (.ref a), some (.ref d), some (.ref c), some (.str (dD W S).shown), some (.ref dd), some (.ref tA), some (.ref uD), some (.str x), o8, none, none, none, none] ∧ SamX r H7 H' ∧ H' r = some (.frz orr (.dK (tK R))) ∧ Row K H' uD (S.map (·.1)) fun k => (((W.map (·.1)).take i).map fun n => g n k).sum + if k ∈ (R.map (·.1)).take j then g x k else 0)
        ⟨_, rfl, sl, erl, row_congr (fun k => by rw [List.take_zero, if_neg (fun z => nomatch z)]; grind) rul⟩ (fun j σ H' _ h => ?_) ?_ ?_⟩⟩
      · obtain ⟨_, _, _, h, _⟩ := h
        exact h
      · rintro j v σ H9 H9' hj ⟨o8', rfl, s9, er9, ru9⟩ ⟨rfl, k', v', hkv, rfl⟩
        obtain ⟨⟨k, vk⟩, hqr, rfl, _⟩ := key_at (f := fun v => v) hkv
        have mk := List.mem_of_getElem? hqr
        have ek : (R.map (·.1))[j]? = some k := by rw [List.getElem?_map, hqr]; rfl
        have nt := take_nin r2.nd ek
        have hk2 := r3 k (List.mem_of_getElem? ek)
        refine ⟨_, rfl, uD, rfl, ?_, _, rfl, two_le, fun p hp => ?_⟩
        · obtain ⟨U, u1, _⟩ := ru9
          exact .inl ⟨_, .inl u1⟩
        have sp := Same.new (o := .tup [.int 0, .int 1]) hp
        obtain ⟨o, go, fo⟩ := (ru9.same sp).get (k := k) (fr01 (p := p) upd_same)
        rw [if_neg nt] at fo
        have gv : DGet (upd H9' p (.tup [.int 0, .int 1])) r (.str k) (some vk) := by
          have g1 := DGet.rd (x := k) (.inr ⟨orr, sp _ _ er9⟩)
          rw [tK_val r2.nd mk] at g1
          exact g1
        have fv : Fr K H9' vk (g x k) := fr_samX s9 r1 (r2.fr _ mk)
        have e0 : (((W.map (·.1)).take i).map fun n => g n k).sum + (0 : Rat) + g x k = ((((W.map (·.1)).take (i + 1)).map fun n => g n k).sum) := by
          rw [take_next ex, List.map_append, List.map_cons, List.map_nil, K79.sum_snoc]
          grind
        have zf : Sz 64 ((((W.map (·.1)).take i).map fun n => g n k).sum + (0 : Rat)) := by
          have := fct.used k i
          rw [show (((W.map (·.1)).take i).map fun n => g n k).sum + (0 : Rat) = (((W.map (·.1)).take i).map fun n => g n k).sum by grind]
          exact this
        have yz := fct.used k (i + 1)
        rw [← e0] at yz
        have yp : 0 < (((W.map (·.1)).take i).map fun n => g n k).sum + (0 : Rat) + g x k := by
          have := sum_nn (f := fun n => g n k) ((W.map (·.1)).take i) fun n _ => fct.nn n k
          have := hk2.1
          grind
        refine ⟨o, go, _, rfl, _, rfl, dd, .ref r, rfl, mK_get (.inl (sp _ _ (s9 _ _ ndd edd7))) shd7.nd hr1, _, rfl, r, vk, rfl, gv, o.getD (.ref p), vk, _, g x k, rfl, fo, fv.same sp, zf, fct.one x k, fun H10 t s10 ht e10 => ?_⟩
        have s11 := sp.trans s10
        obtain ⟨H11, h1, h2, h3, h4⟩ := (ru9.same s11).put (Fr.of e10) yp yz hk2.2 lks
        refine ⟨_, rfl, _, rfl, uD, H11, rfl, h1, _, rfl, ?_, ?_, row_congr (fun k2 => ?_) h4⟩
        · intro b u nb hb'
          rw [h3 b (ne_of_none hb' huD)]
          exact s11 _ _ (s9 _ _ nb hb')
        · rw [h3 r nru.symm]
          exact s11 _ _ er9
        · unfold chF
          rw [take_next ek]
          by_cases ck : k2 = k
          · subst ck
            rw [if_pos rfl, if_pos (by simp)]
            grind
          · rw [if_neg ck]
            simp only [List.mem_append, List.mem_singleton, ck, or_false]
      · rintro σ H9 ⟨o8', rfl, s9, er9, ru9⟩
        rw [List.length_map, show R.length = (R.map (·.1)).length by rw [List.length_map], List.take_length] at ru9
        refine ⟨er9, _, _, rfl, fun b u hb' => ?_, row_congr (fun k => ?_) (row_updF er9 ru9)⟩
        · by_cases cb : b = r
          · subst cb
            rw [r1] at hb'
            cases hb'
            exact upd_same
          · rw [upd_ne cb]
            exact s9 _ _ cb hb'
        · rw [take_next ex, List.map_append, List.map_cons, List.map_nil, K79.sum_snoc]
          by_cases ck : k ∈ R.map (·.1)
          · rw [if_pos ck]
          · rw [if_neg ck]
            have := r2.off k ck
            grind
    · rintro σ H8 ⟨o7, o8, rfl, s8, ru⟩
      rw [List.length_map, show W.length = (W.map (·.1)).length by rw [List.length_map], List.take_length] at ru
      -- nobody would rather have another's
      have ed8 := s8 _ _ ed7
      refine ⟨_, rfl, d, od7, rfl, .inl ⟨_, ed8, for_it walk_keys (fun i σ H' => ∃ o7 o8 o9 o10 o11 o12, σ = [some (.ref a), some (.ref d), some (.ref c), some (.str (dD W S).shown), some (.ref dd), some (.ref tA), some (.ref uD), o7, o8, o9, o10, o11, o12] ∧ Same H8 H')
        ⟨_, _, _, _, _, _, rfl, Same.refl _⟩ (fun i σ H' _ h => ?_) ?_ ?_⟩⟩
      · obtain ⟨_, _, _, _, _, _, _, s9⟩ := h
        exact s9 _ _ ed8
      · rintro i v σ H9 H9' hi ⟨o7', o8', o9, o10, o11, o12, rfl, s9⟩ ⟨rfl, k', v', hkv, rfl⟩
        obtain ⟨⟨x, ax, l⟩, hqw, rfl, _⟩ := key_at (f := fun (z : Addr × List Str) => V.ref z.1) hkv
        have mW := List.mem_of_getElem? hqw
        have mx : x ∈ W.map (·.1) := List.mem_map.mpr ⟨_, mW, rfl⟩
        obtain ⟨q1, q2, q3, q4⟩ := okW.1 _ mW
        have s79 := s8.trans s9
        obtain ⟨r0, hr0⟩ := kM0 x mx
        have hlt : ∀ {H' : Hp}, Same H7 H' → SqL K H' tA [.ref t0, .ref t1] := fun {H'} s => SqL.of (s _ _ etA7)
        refine ⟨_, rfl, _, rfl, _, rfl, tA, _, _, _, rfl, rfl, hlt s79, at_of (j := 0) rfl rfl, _, rfl, t0, .ref r0, rfl, mK_get (.inl (s79 _ _ et07)) sh07.nd hr0, d, r0, ax, W, x, l, S.map (·.1), g x, rfl, wis7.same s79, few.nW, mW, (sh07.row _ hr0).same s79, q4, fct.ups x ax l mW x, fun H10 mA xs s10 hmA emA prA => ?_⟩
        have s7A := s79.trans s10
        refine ⟨_, rfl, d, od7, rfl, .inl ⟨_, s7A _ _ ed7, for_it walk_keys (fun j σ H' => ∃ o10 o11 o12, σ = [some (.ref a), some (.ref d), some (.ref c), some (.str (dD W S).shown), some (.ref dd), some (.ref tA), some (.ref uD), some (.str x), o8', some (.ref mA), o10, o11, o12] ∧ Same H10 H')
          ⟨_, _, _, rfl, Same.refl _⟩ (fun j σ H' _ h => ?_) ?_ ?_⟩⟩
        · obtain ⟨_, _, _, _, s11⟩ := h
          exact s11 _ _ (s7A _ _ ed7)
        · rintro j v σ H11 H11' hj ⟨o10', o11', o12', rfl, s11⟩ ⟨rfl, k', v', hkv, rfl⟩
          obtain ⟨⟨y, ay, ly⟩, hqy, rfl, _⟩ := key_at (f := fun (z : Addr × List Str) => V.ref z.1) hkv
          have my : y ∈ W.map (·.1) := List.mem_map.mpr ⟨_, List.mem_of_getElem? hqy, rfl⟩
          obtain ⟨r1, hr1⟩ := kM0 y my
          have s7B := s7A.trans s11
          refine ⟨_, rfl, _, rfl, _, rfl, _, rfl, tA, _, _, _, rfl, rfl, hlt s7B, at_of (j := 0) rfl rfl, _, rfl, t0, .ref r1, rfl, mK_get (.inl (s7B _ _ et07)) sh07.nd hr1, d, r1, ax, W, x, l, S.map (·.1), g y, rfl, wis7.same s7B, few.nW, mW, (sh07.row _ hr1).same s7B, q4, fct.ups x ax l mW y, fun H12 lA ys s12 hlA elA prL => ?_⟩
          have emB := s12 _ _ (s11 _ _ emA)
          have lx : xs.length = l.length := by
            rw [Paired.length prA]
            unfold ups
            rw [List.length_map, List.length_range]
          have lyy : ys.length = l.length := by
            rw [Paired.length prL]
            unfold ups
            rw [List.length_map, List.length_range]
          refine ⟨mA, lA, xs, ys, rfl, SqL.of emB, SqL.of elA, for_it (walk_zip (xs := xs) (ys := ys) (n := l.length) (by rw [lx, lyy]; simp)) (fun jj σ H' => ∃ o11 o12, σ = [some (.ref a), some (.ref d), some (.ref c), some (.str (dD W S).shown), some (.ref dd), some (.ref tA), some (.ref uD), some (.str x), o8', some (.ref mA), some (.str y), o11, o12] ∧ Same H12 H')
            ⟨_, _, rfl, Same.refl _⟩ (fun jj σ H' _ h => ?_) ?_ ?_⟩
          · obtain ⟨_, _, _, s13⟩ := h
            exact ⟨SqL.of (s13 _ _ emB), SqL.of (s13 _ _ elA)⟩
          · rintro jj v σ H13 H13' hjj ⟨o11'', o12'', rfl, s13⟩ ⟨Tp, u1, u2, h1, h2, h3, h4, h5⟩
            subst h1
            subst h3
            have s14 := s13.trans (Same.new (o := .tup [u1, u2]) h2)
            obtain ⟨p1, hp1, f1⟩ := LiI.paired_get prA h4
            obtain ⟨p2, hp2, f2⟩ := LiI.paired_get prL h5
            have e1 : p1 = ((l.take (jj + 1)).map (g x)).sum := by
              unfold ups at hp1
              rw [List.getElem?_map, List.getElem?_range hjj] at hp1
              exact (Option.some.inj hp1).symm
            have e2 : p2 = ((l.take (jj + 1)).map (g y)).sum := by
              unfold ups at hp2
              rw [List.getElem?_map, List.getElem?_range hjj] at hp2
              exact (Option.some.inj hp2).symm
            have z1 := fct.ups x ax l mW x (jj + 1)
            have z2 := fct.ups x ax l mW y (jj + 1)
            have le := fct.env x ax l mW y (jj + 1)
            rw [← e1] at z1
            rw [← e2] at z2
            rw [← e1, ← e2] at le
            refine ⟨Tp, [u1, u2], rfl, SqT.of upd_same, rfl, _, _, rfl, _, _, rfl, rfl, _, rfl, _, rfl, u1, u2, p1, p2, rfl, f1.same (s11.trans (s12.trans s14)), f2.same s14, z1, z2, fun H14 s15 => ⟨_, rfl, ?_⟩⟩
            rw [decide_eq_false (by grind)]
            exact iteF ⟨_, _, rfl, s14.trans s15⟩
          · rintro σ H13 ⟨o11'', o12'', rfl, s13⟩
            exact ⟨_, _, _, rfl, s11.trans (s12.trans s13)⟩
        · rintro σ H11 ⟨o10', o11', o12', rfl, s11⟩
          have s7B := s7A.trans s11
          have s8B := s9.trans (s10.trans s11)
          obtain ⟨rd, hrd⟩ := kMd x mx
          obtain ⟨R, r1, r2, r3⟩ := (shd7.row _ hrd).same s7B
          have rk := row_keys r2 r3
          obtain ⟨zr, tot⟩ := fct.row x ax l mW (R.map (·.1)) r2.nd rk
          refine ⟨_, rfl, _, rfl, dd, .ref rd, rfl, mK_get (.inl (s7B _ _ edd7)) shd7.nd hrd, rd, tK R, rfl, .inl r1, fun q0 hq0 => ⟨q0, (tK R).map (·.2), (R.map (·.1)).map (g x), rfl, SqL.of upd_same, Paired.mapP (lef_vals r2.fr) (fun _ _ h => h.same (Same.new hq0)), ?_, zr, fun H12 v s12 fv => ⟨two_le, fun q2' hq2' => ?_⟩⟩⟩
          · intro z hz
            obtain ⟨k, _, rfl⟩ := List.mem_map.mp hz
            exact fct.one x k
          obtain ⟨vp, rfl, vq⟩ := fv.same (Same.new (o := .tup [.int 1, .int 1]) hq2')
          refine ⟨.tuple [.int ((R.map (·.1)).map (g x)).sum.num, .int (((R.map (·.1)).map (g x)).sum.den : Int)], .tuple [.int 1, .int 1], .tup vq (.cons (.int _) (.cons (.int _) .nil)), .tup (SqT.of upd_same) (.cons (.int _) (.cons (.int _) .nil)), rfl, rfl, _, rfl, ?_⟩
          have s13 := (Same.new (o := .lst ((tK R).map (·.2))) hq0).trans (s12.trans (Same.new (o := .tup [.int 1, .int 1]) hq2'))
          have s7C := s7B.trans s13
          have s8C := s8B.trans s13
          generalize upd H12 q2' (.tup [.int 1, .int 1]) = H13 at s7C s8C ⊢
          cases hE : PyData.eqv (.tuple [.int ((R.map (·.1)).map (g x)).sum.num, .int (((R.map (·.1)).map (g x)).sum.den : Int)]) (.tuple [.int 1, .int 1]) with
          | true => exact iteF ⟨_, _, _, _, _, _, rfl, s8C⟩
          | false =>
            refine iteT ?_
            have ne1 : (l.map (g x)).sum ≠ 1 := fun z => by
              rw [tot, z] at hE
              have q : PyData.eqv (.tuple [.int 1, .int 1]) (.tuple [.int 1, .int 1]) = true := by decide +kernel
              have q2 : PyData.eqv (.tuple [.int (1 : Rat).num, .int (((1 : Rat).den : Nat) : Int)]) (.tuple [.int 1, .int 1]) = true := q
              rw [q2] at hE
              cases hE
            have hu' := (fct.fin x ax l mW).resolve_left ne1
            obtain ⟨⟨od13, ed13⟩, hL13⟩ := wis7.same s7C
            have hs : SqL K H13 ax (l.map V.str) := hL13 _ mW
            have g0 := DGet.rd (x := x) (frz_rd ⟨od13, ed13⟩)
            rw [valV_map (fun (z : Addr × List Str) => V.ref z.1) few.nW mW] at g0
            refine ⟨_, rfl, _, rfl, d, V.ref ax, rfl, g0, ax, rfl, ⟨_, hs⟩, fun D hD => lc_it (walk_list (xs := l.map V.str)) (fun j H' => Same H13 H' ∧ H' D = some (.lst [])) ⟨Same.new hD, upd_same⟩ (fun j H' _ h => h.1.seq hs) ?_ ?_⟩
            · rintro j v H14 H14' hj ⟨s14, e14⟩ ⟨rfl, hv⟩
              rw [List.getElem?_map] at hv
              obtain ⟨k, ek, rfl⟩ := Option.map_eq_some_iff.mp hv
              have ru14 := ru.same (s8C.trans s14)
              refine ⟨rfl, _, rfl, uD, rfl, ?_, _, rfl, two_le, fun p hp => ?_⟩
              · obtain ⟨U, u1, _⟩ := ru14
                exact .inl ⟨_, .inl u1⟩
              have sp := Same.new (o := .tup [.int 0, .int 1]) hp
              obtain ⟨o, go, fo⟩ := (ru14.same sp).get (k := k) (fr01 (p := p) upd_same)
              rw [hu' k (List.mem_of_getElem? ek)] at fo
              have stk14 := stk7.same (s7C.trans (s14.trans sp))
              obtain ⟨o2, nk, go2, gk, ak⟩ := stk_get stk14 few.nS k
              rw [ak] at fo
              refine ⟨o, go, _, rfl, c, rfl, .inl ⟨_, .inr stk14⟩, _, rfl, o2, go2, two_le, fun q hq => ?_⟩
              rw [gk]
              obtain ⟨fp, efp, fsq⟩ := fo.same (Same.new (o := .tup [.int nk, .int 1]) hq)
              rw [efp]
              refine ⟨.tuple [.int nk, .int 1], .tuple [.int nk, .int 1], .tup fsq (.cons (.int _) (.cons (.int _) .nil)), .tup (SqT.of upd_same) (.cons (.int _) (.cons (.int _) .nil)), rfl, rfl, _, rfl, ?_⟩
              rw [SeqAt.eqv_refl _ rfl]
              exact iteF ⟨s14.trans (sp.trans (Same.new hq)), Same.new hq _ _ (sp _ _ e14)⟩
            · rintro H14 ⟨s14, e14⟩
              refine ⟨by decide, fun p hp => ⟨.list [], .list [], .lst (SqL.of (by rw [upd_ne (ne_of_none e14 hp)]; exact e14)) .nil, .lst (SqL.of upd_same) .nil, rfl, rfl, ?_⟩⟩
              rw [eqv_nil]
              exact ⟨_, rfl, iteF ⟨_, _, _, _, _, _, rfl, s8C.trans (s14.trans (Same.new hp))⟩⟩
      · rintro σ H9 ⟨o7', o8', o9, o10, o11, o12, rfl, s9⟩
        have s79 := s8.trans s9
        have et09 := s79 _ _ et07
        have sh09 := sh07.same s79
        have etA9 := s79 _ _ etA7
        have s39 := s37.trans s79
        refine ⟨t0, _, et09, trivial, fun ot => ?_⟩
        have f30 : ∀ q ∈ M0, H3 q.2 = none ∧ q.2 ≠ t0 := hM0
        have nAM : ∀ q ∈ M0, tA ≠ q.2 := fun q hq => by
          obtain ⟨R, r1, _⟩ := sh0.row q hq
          exact (ne_of_none (s5 _ _ r1) htA).symm
        have sT : Same H3 (upd H9 t0 (.frz ot (.dK (tK (mK M0))))) := Same.mut s39 ht0
        have eT : (upd H9 t0 (.frz ot (.dK (tK (mK M0))))) t0 = some (.frz ot (.dK (tK (mK M0)))) := upd_same
        have eA : (upd H9 t0 (.frz ot (.dK (tK (mK M0))))) tA = some (.lst [.ref t0, .ref t1]) := by rw [upd_ne t0ne.symm]; exact etA9
        have eR : ∀ q ∈ M0, ∃ R : List (Key × V), (upd H9 t0 (.frz ot (.dK (tK (mK M0))))) q.2 = some (.dK R) ∧ R.length ≤ 1000 := fun q hq => by
          obtain ⟨R, r1, r2, r3⟩ := sh09.row q hq
          refine ⟨tK R, by rw [upd_ne (hM0 q hq).2]; exact r1, ?_⟩
          have := sub_len r2.nd fun k hk => (r3 k hk).2
          rw [List.length_map] at this ⊢
          omega
        generalize upd H9 t0 (.frz ot (.dK (tK (mK M0)))) = HL at sT eT eA eR ⊢
        refine ⟨_, rfl, tA, _, _, _, rfl, rfl, SqL.of eA, at_of (j := 0) rfl rfl, t0, ot, rfl, .inl ⟨_, eT, for_it walk_keys (fun i σ H' => ∃ o7, σ = [some (.ref a), some (.ref d), some (.ref c), some (.str (dD W S).shown), some (.ref dd), some (.ref tA), some (.ref uD), o7, o8', o9, o10, o11, o12] ∧ Same H3 H' ∧ H' t0 = some (.frz ot (.dK (tK (mK M0)))) ∧ H' tA = some (.lst [.ref t0, .ref t1]) ∧ ∀ q ∈ M0, ∃ R : List (Key × V), H' q.2 = some (.dK R) ∧ R.length ≤ 1000 + i)
          ⟨_, rfl, sT, eT, eA, eR⟩ (fun i σ H' _ h => ?_) ?_ ?_⟩⟩
        · obtain ⟨_, _, _, h, _⟩ := h
          exact h
        · rintro i v σ H10 H10' hi ⟨o7'', rfl, s10, eT0, eA0, eR0⟩ ⟨rfl, k', v', hkv, rfl⟩
          obtain ⟨q, hq, rfl, _⟩ := key_at (f := fun v => v) hkv
          rw [List.getElem?_map] at hq
          obtain ⟨⟨x, r⟩, hqm, rfl⟩ := Option.map_eq_some_iff.mp hq
          have mq := List.mem_of_getElem? hqm
          obtain ⟨R, r1, r2⟩ := eR0 _ mq
          refine ⟨two_le, fun p hp => ?_⟩
          have sp := Same.new (o := .tup [.int 1, .int 1]) hp
          have li : i < 1000 := by
            rw [List.length_map, List.length_map] at hi
            have e1 := pm0.length_eq
            rw [List.length_map, List.length_map] at e1
            have := few.six
            omega
          have put : DPut (upd H10' p (.tup [.int 1, .int 1])) r (.str "more") (.ref p) (upd (upd H10' p (.tup [.int 1, .int 1])) r (.dK (putK R (Sum.inr "more") (.ref p)))) :=
            .inl ⟨R, Sum.inr "more", sp _ _ r1, rfl, Nat.lt_of_le_of_lt r2 (Nat.lt_of_le_of_lt (show 1000 + i ≤ 2000 by omega) (by decide)), rfl⟩
          refine ⟨_, rfl, tA, _, _, _, rfl, rfl, SqL.of (sp _ _ eA0), at_of (j := 0) rfl rfl, _, rfl, t0, .ref r, rfl, mK_get (.inr ⟨ot, sp _ _ eT0⟩) sh09.nd mq, r, _, rfl, put, _, rfl, Same.mut (s10.trans sp) (f30 _ mq).1, ?_, ?_, fun z hz => ?_⟩
          · rw [upd_ne (fun z => (f30 _ mq).2 z.symm)]
            exact sp _ _ eT0
          · rw [upd_ne (nAM _ mq)]
            exact sp _ _ eA0
          · obtain ⟨R2, z1, z2⟩ := eR0 _ hz
            by_cases cz : z.2 = r
            · refine ⟨putK R (Sum.inr "more") (.ref p), by rw [cz, upd_same], ?_⟩
              unfold putK
              split
              · rw [List.length_map]
                omega
              · rw [List.length_append]
                show R.length + 1 ≤ _
                omega
            · refine ⟨R2, by rw [upd_ne cz]; exact sp _ _ z1, by omega⟩
        · rintro σ H10 ⟨o7'', rfl, s10, eT0, eA0, eR0⟩
          refine ⟨eT0, fun q hq => ?_⟩
          have sU : Same H3 (upd H10 t0 (.dK (tK (mK M0)))) := Same.mut s10 ht0
          have eU : (upd H10 t0 (.dK (tK (mK M0)))) t0 = some (.dK (tK (mK M0))) := upd_same
          have eAU : (upd H10 t0 (.dK (tK (mK M0)))) tA = some (.lst [.ref t0, .ref t1]) := by rw [upd_ne t0ne.symm]; exact eA0
          have sq := Same.new (o := .dK []) hq
          have lM : (tK (mK M0)).length < sizeLine := by
            rw [List.length_map, List.length_map]
            have e1 := pm0.length_eq
            rw [List.length_map, List.length_map] at e1
            rw [e1]
            exact Nat.lt_of_le_of_lt few.six (by decide)
          refine ⟨_, rfl, tA, _, _, _, rfl, rfl, SqL.of (sq _ _ eAU), at_of (j := 0) rfl rfl, t0, _, rfl, .inl ⟨_, Sum.inr "more", sq _ _ eU, rfl, lM, rfl⟩, ?_⟩
          have sV : Same H3 (upd (upd (upd H10 t0 (.dK (tK (mK M0)))) q (.dK [])) t0 (.dK (putK (tK (mK M0)) (Sum.inr "more") (.ref q)))) := Same.mut (sU.trans sq) ht0
          generalize upd (upd (upd H10 t0 (.dK (tK (mK M0)))) q (.dK [])) t0 (.dK (putK (tK (mK M0)) (Sum.inr "more") (.ref q))) = HV at sV ⊢
          refine ⟨_, rfl, _, rfl, _, rfl, d, c, W, S, rfl, wis3.same sV, okW, stk3.same sV, okS, few, fun HW t2 M2 sW ht2 hM2 pm2 et2 sh2 => .inr ⟨_, _, rfl, ?_, fun HX sX => ⟨true, rfl, iteT ?_⟩⟩⟩
          · rw [hg] at sh2
            exact shs_ex (.inl (sW _ _ (sV _ _ edd))) (.inl et2) (shd.same (sV.trans sW)) sh2 (pmd.trans pm2.symm)
          · have sF := sV.trans (sW.trans sX)
            refine ⟨_, rfl, _, rfl, two_le, fun pl' hpl' => ⟨pl', dD W S, rfl, dq_D ((wis3.same sF).same (Same.new hpl')) ((stk3.same sF).same (Same.new hpl')) upd_same, dk1, dk2, dk3, _, rfl, rfl, ?_⟩⟩
            rw [decide_eq_true rfl]
            have sG := sF.trans (Same.new (o := .lst [.ref d, .ref c]) hpl')
            exact kk _ (sx2.trans (.of (s23.trans sG))) (pu2.same (s23.trans sG))
end
end K79


set_option Elab.async false
set_option linter.all false
set_option maxRecDepth 100000
set_option maxHeartbeats 4000000
set_option pp.maxSteps 900
set_option exponentiation.threshold 9000
namespace K79
open PySem L2 Lk Eat
abbrev W2 : List (Str × List Str) := [("ann", ["a", "b"]), ("bob", ["a", "c"])]
abbrev S2 : List (Str × Int) := [("a", 1), ("b", 1), ("c", 1)]
theorem two_is : (fin W2 (st0 S2)).got "ann" "a" = mkRat 1 2 ∧ (fin W2 (st0 S2)).got "ann" "b" = mkRat 1 2 ∧ (fin W2 (st0 S2)).got "bob" "a" = mkRat 1 2 ∧ (fin W2 (st0 S2)).got "bob" "c" = mkRat 1 2 := by
  decide +kernel
def spLaw (K : PySem.W.Frag) : Sp := fun vs H Q _ => ∃ (a : Addr) (ns : List Int), vs = [.ref a] ∧ SqL K H a (ns.map V.int) ∧ ns.length ≤ 63 ∧ ∀ H', Q (.bl true) H'
section
variable {P : Program} {w : World} {K : PySem.W.Frag} {mg : Str → Option Value} {base : Heap}
theorem ok_law (T : Th K mg) (kb_eaten_shares : KBinds K T.d_eaten_shares ["wishes", "stock"] ["stock", "wishes"] gSW gSWV) (hb : ∃ mm, base.Ns sysModules mm) : FnOkG P w K mg base CX0 8 T.f_law T.d_law ["script"] (spLaw K) := by
  have G__law_purses : FnOk P w K mg base CX0 2 T.f__law_purses T.d__law_purses ["script", "few"] (spPurses K) := ok__law_purses T
  have G__law_case_right : FnOkG P w K mg base CX0 7 T.f__law_case_right T.d__law_case_right ["purse"] spCase := ok__law_case_right T kb_eaten_shares hb
  have G_eaten_shares : FnOk P w K mg base CX0 6 T.f_eaten_shares T.d_eaten_shares ["wishes", "stock"] (spEaten K) := ok_eaten_shares T
  have G__law_exact : FnOk P w K mg base CX0 2 T.f__law_exact T.d__law_exact ["mine", "theirs"] (spExL K) := ok__law_exactL T
  refine fun_okG T.F_law sc_law (fun vs H Q E h => ?_) (fun cdv A outer s H vs Q E hA hr h => ?_)
  · obtain ⟨a, ns, rfl, _⟩ := h
    rfl
  · obtain ⟨a, ns, rfl, hs, hl, kk⟩ := h
    have hu := hu_of hr
    have hG : (A.deeper (PyProof.Rows.envOfC "law" (defScope s_law) s.heap.objs.size T.f_law cdv)).guards = some [] := hA
    refine ⟨_, (pss_cons (ps_for PassesOwn.never rfl (pi_list (pe_call G__law_purses (hr.mono (by decide)) rfl T.g__law_purses T.F__law_purses.kp T.b__law_purses .nil pass0 (pa_cons (pv 0) (pa_cons pe_int pa_nil)))) (pg_name (i := 1) sc_law.nd rfl (Or.inl rfl))
        (pss_one (ps_for PassesOwn.never rfl (pi_range1 rfl T.n_range (pa_cons pe_int pa_nil)) (pg_name (i := 2) sc_law.nd rfl (Or.inl rfl))
          (pss_one (ps_if (pt_not (pt_val (Lk.pe_callG G__law_case_right hG (hr.mono (by decide)) rfl T.g__law_case_right T.F__law_case_right.kp T.b__law_case_right (pa_cons (pv 1) pa_nil))))
            (pss_one (ps_ret pe_bl))
            pss_nil)))))
      (pss_cons (ps_set (i := 3) sc_law.nd rfl (Or.inl rfl) (pe_disp (pps_cons pe_str (pe_lst (pa_cons pe_str (pa_cons pe_str pa_nil))) (pps_cons pe_str (pe_lst (pa_cons pe_str (pa_cons pe_str pa_nil))) pps_nil)) (by rfl) (by rfl) (fun z => by cases z) (by decide)))
      (pss_cons (Lk.ps_frz (ps_set (i := 4) sc_law.nd rfl (Or.inl rfl) (pe_disp (pps_cons pe_str (pe_disp (pps_cons pe_str (pe_tup (pa_cons pe_int (pa_cons pe_int pa_nil))) (pps_cons pe_str (pe_tup (pa_cons pe_int (pa_cons pe_int pa_nil))) pps_nil)) (by rfl) (by rfl) (fun z => by cases z) (by decide)) (pps_cons pe_str (pe_disp (pps_cons pe_str (pe_tup (pa_cons pe_int (pa_cons pe_int pa_nil))) (pps_cons pe_str (pe_tup (pa_cons pe_int (pa_cons pe_int pa_nil))) pps_nil)) (by rfl) (by rfl) (fun z => by cases z) (by decide)) pps_nil)) (by rfl) (by rfl) (fun z => by cases z) (by decide))))
      (pss_one (ps_ret (pe_call G__law_exact (hr.mono (by decide)) rfl T.g__law_exact T.F__law_exact.kp T.b__law_exact .nil pass0 (pa_cons (pe_lst (pa_cons (pv 4) (pa_cons pe_dnewK pa_nil))) (pa_cons (pe_lst (pa_cons (pe_call G_eaten_shares (hr.mono (by decide)) rfl T.g_eaten_shares T.F_eaten_shares.kp T.b_eaten_shares .nil pass0 (pa_cons (pv 3) (pa_cons (Lk.pe_frzV (pe_disp (pps_cons pe_str pe_int (pps_cons pe_str pe_int (pps_cons pe_str pe_int pps_nil))) (by rfl) (by rfl) (fun z => by cases z) (by decide))) pa_nil))) (pa_cons (pe_call G_eaten_shares (hr.mono (by decide)) rfl T.g_eaten_shares T.F_eaten_shares.kp T.b_eaten_shares .nil pass0 (pa_cons (Lk.pe_frzV pe_dnewK) (pa_cons (Lk.pe_frzV pe_dnewK) pa_nil))) pa_nil))) pa_nil)))))))), ?_⟩
    refine ⟨_, rfl, a, ns, rfl, hs, hl, fun H1 p ps s1 hp e1 nd l3 hps => ⟨p, rfl, ⟨_, SqL.of e1⟩, for_it (walk_list (xs := ps.map V.ref)) (fun i σ H' => ∃ o1 o2, σ = [some (.ref a), o1, o2, none, none] ∧ H' p = some (.lst (ps.map V.ref)) ∧ ∀ j q, i ≤ j → ps[j]? = some q → Pu H' q 0)
      ⟨_, _, rfl, e1, fun j q _ hq => (hps q (List.mem_of_getElem? hq)).1⟩ (fun i σ H' _ h => ?_) ?_ ?_⟩⟩
    · obtain ⟨_, _, _, h, _⟩ := h
      exact SqL.of h
    · rintro i v σ H2 H2' hi ⟨o1, o2, rfl, e2, hpu⟩ ⟨rfl, hv⟩
      rw [List.getElem?_map] at hv
      obtain ⟨q, hq, rfl⟩ := Option.map_eq_some_iff.mp hv
      have nqp := (hps q (List.mem_of_getElem? hq)).2.2
      refine ⟨3, rfl, by decide, by decide, for_it walk_range (fun t σ H' => ∃ o2, σ = [some (.ref a), some (.ref q), o2, none, none] ∧ SamX q H2' H' ∧ Pu H' q (200 * t)) ⟨_, rfl, SamX.refl _ _, (hpu i q (Nat.le_refl _) hq).mono (by omega)⟩ (fun _ _ _ _ _ => trivial) ?_ ?_⟩
      · rintro t v σ H3 H3' ht ⟨o2', rfl, sx, pu⟩ ⟨rfl, rfl⟩
        have ht' : t < 3 := ht
        refine ⟨_, rfl, q, 200 * t, rfl, pu, by omega, fun H4 sx4 pu4 => ⟨true, rfl, iteF ⟨_, rfl, sx.trans sx4, ?_⟩⟩⟩
        have : (200 * (t : Int) + 200) = 200 * ((t + 1 : Nat) : Int) := by omega
        rw [← this]
        exact pu4
      · rintro σ H3 ⟨o2', rfl, sx, pu⟩
        refine ⟨_, _, rfl, sx _ _ nqp.symm e2, fun j q2 hj hq2 => ?_⟩
        have ne : q2 ≠ q := fun z => by
          subst z
          have h1 := List.getElem?_eq_some_iff.mp hq
          have h2 := List.getElem?_eq_some_iff.mp hq2
          obtain ⟨l1, g1⟩ := h1
          obtain ⟨l2, g2⟩ := h2
          have := (List.getElem_inj nd).mp (g1.trans g2.symm)
          omega
        obtain ⟨p0, p1, p2, p3, h, k⟩ := hpu j q2 (by omega) hq2
        exact ⟨p0, p1, p2, p3, sx _ _ ne h, k⟩
    · rintro σ H2 ⟨o1, o2, rfl, e2, _⟩
      refine fun D hD => ⟨two_le, fun p1 hp1 => ⟨two_le, fun p2 hp2 => ⟨?_, [(Sum.inr "ann", .ref p1), (Sum.inr "bob", .ref p2)], rfl, (show 2 ≤ 15 by decide), ?_⟩⟩⟩
      · exact Same.new hp2 _ _ (Same.new hp1 _ _ upd_same)
      have mE : ∀ (u v : V), mergeK [] [((Sum.inr "ann" : Key), u), (Sum.inr "bob", v)] = tK [("ann", u), ("bob", v)] := fun u v => merge_nil (L := [("ann", u), ("bob", v)]) (show (["ann", "bob"] : List Str).Nodup by decide +kernel)
      rw [mE]
      refine ⟨D, _, upd_same, trivial, fun oD => ?_⟩
      have nD1 : p1 ≠ D := ne_some upd_same hp1
      have nD2 : p2 ≠ D := ne_some (Same.new hp1 _ _ upd_same) hp2
      have n12 : p1 ≠ p2 := ne_of_none upd_same hp2
      obtain ⟨okw1, okw2⟩ : (∀ x ∈ (["a", "b", "c", "ann", "bob"] : List Str), NameOk x) ∧ (["a", "b"] : List Str).Nodup ∧ (["a", "c"] : List Str).Nodup ∧ (["ann", "bob"] : List Str).Nodup ∧ (["a", "b", "c"] : List Str).Nodup := by decide +kernel
      have okW : WisOk [("ann", p1, ["a", "b"]), ("bob", p2, ["a", "c"])] := by
        refine ⟨fun q hq => ?_, okw2.2.2.1⟩
        rcases List.mem_cons.mp hq with z | z
        · subst z
          exact ⟨okw1 _ (by simp), fun x hx => okw1 x (by simp at hx ⊢; rcases hx with h | h <;> simp [h]), okw2.1, by show 2 ≤ 60; decide⟩
        · rcases List.mem_cons.mp z with z | z
          · subst z
            exact ⟨okw1 _ (by simp), fun x hx => okw1 x (by simp at hx ⊢; rcases hx with h | h <;> simp [h]), okw2.2.1, by show 2 ≤ 60; decide⟩
          · cases z
      have okS : StkOk S2 := ⟨fun q hq => by
        simp only [List.mem_cons, List.not_mem_nil, or_false] at hq
        rcases hq with h | h | h <;> subst h <;> exact ⟨okw1 _ (by simp), by decide⟩, okw2.2.2.2⟩
      have few : Few [("ann", p1, ["a", "b"]), ("bob", p2, ["a", "c"])] S2 := ⟨by show 2 ≤ 6; decide, by show 3 ≤ 7; decide, fun q hq => by
        simp only [List.mem_cons, List.not_mem_nil, or_false] at hq
        rcases hq with h | h | h <;> subst h <;> exact ⟨by decide, by decide⟩, okw2.2.2.2, okw2.2.2.1⟩
      have fct := few.fct okW
      have ekk : ∀ (u : HO), ∃ HB, HB = upd (upd (upd (upd (upd H2 D (.dK [])) p1 (.lst [.str "a", .str "b"])) p2 (.lst [.str "a", .str "c"])) D (.dK (tK [("ann", .ref p1), ("bob", .ref p2)]))) D u := fun u => ⟨_, rfl⟩
      have wis : Wis K (upd (upd (upd (upd (upd H2 D (.dK [])) p1 (.lst [.str "a", .str "b"])) p2 (.lst [.str "a", .str "c"])) D (.dK (tK [("ann", .ref p1), ("bob", .ref p2)]))) D (.frz oD (.dK (tK [("ann", .ref p1), ("bob", .ref p2)])))) D [("ann", p1, ["a", "b"]), ("bob", p2, ["a", "c"])] := by
        refine ⟨⟨oD, upd_same⟩, fun q hq => ?_⟩
        rcases List.mem_cons.mp hq with z | z
        · subst z
          refine SqL.of ?_
          rw [upd_ne nD1, upd_ne nD1, upd_ne n12, upd_same]
          rfl
        · rcases List.mem_cons.mp z with z | z
          · subst z
            refine SqL.of ?_
            rw [upd_ne nD2, upd_ne nD2, upd_same]
            rfl
          · cases z
      generalize upd (upd (upd (upd (upd H2 D (.dK [])) p1 (.lst [.str "a", .str "b"])) p2 (.lst [.str "a", .str "c"])) D (.dK (tK [("ann", .ref p1), ("bob", .ref p2)]))) D (.frz oD (.dK (tK [("ann", .ref p1), ("bob", .ref p2)]))) = HB at wis ⊢
      refine fun E hE E1 hE1 => ⟨two_le, fun q1 hq1 => ⟨two_le, fun q2 hq2 => ⟨?_, [(Sum.inr "a", .ref q1), (Sum.inr "b", .ref q2)], rfl, (show 2 ≤ 15 by decide), ?_⟩⟩⟩
      · exact Same.new hq2 _ _ (Same.new hq1 _ _ upd_same)
      have mA : ∀ (u v : V), mergeK [] [((Sum.inr "a" : Key), u), (Sum.inr "b", v)] = tK [("a", u), ("b", v)] := fun u v => merge_nil (L := [("a", u), ("b", v)]) (show (["a", "b"] : List Str).Nodup by decide +kernel)
      have mB : ∀ (u v : V), mergeK [] [((Sum.inr "a" : Key), u), (Sum.inr "c", v)] = tK [("a", u), ("c", v)] := fun u v => merge_nil (L := [("a", u), ("c", v)]) (show (["a", "c"] : List Str).Nodup by decide +kernel)
      rw [mA]
      have nE1 : E ≠ E1 := ne_of_none upd_same hE1
      have fE1 : HB E1 = none := (Same.new hE).free hE1
      have sAll : Same HB (upd (upd (upd (upd (upd HB E (.dK [])) E1 (.dK [])) q1 (.tup [.int 1, .int 2])) q2 (.tup [.int 1, .int 2])) E1 (.dK (tK [("a", .ref q1), ("b", .ref q2)]))) := Same.mut ((Same.new hE).trans ((Same.new hE1).trans ((Same.new hq1).trans (Same.new hq2)))) fE1
      have eE : (upd (upd (upd (upd (upd HB E (.dK [])) E1 (.dK [])) q1 (.tup [.int 1, .int 2])) q2 (.tup [.int 1, .int 2])) E1 (.dK (tK [("a", .ref q1), ("b", .ref q2)]))) E = some (.dK []) := by
        rw [upd_ne nE1]
        exact Same.new hq2 _ _ (Same.new hq1 _ _ (Same.new hE1 _ _ upd_same))
      have eE1 : (upd (upd (upd (upd (upd HB E (.dK [])) E1 (.dK [])) q1 (.tup [.int 1, .int 2])) q2 (.tup [.int 1, .int 2])) E1 (.dK (tK [("a", .ref q1), ("b", .ref q2)]))) E1 = some (.dK (tK [("a", .ref q1), ("b", .ref q2)])) := upd_same
      have sd1 : SamD (upd (upd (upd (upd HB E (.dK [])) E1 (.dK [])) q1 (.tup [.int 1, .int 2])) q2 (.tup [.int 1, .int 2])) (upd (upd (upd (upd (upd HB E (.dK [])) E1 (.dK [])) q1 (.tup [.int 1, .int 2])) q2 (.tup [.int 1, .int 2])) E1 (.dK (tK [("a", .ref q1), ("b", .ref q2)]))) := SamD.put1 (Same.new hq2 _ _ (Same.new hq1 _ _ upd_same))
      have t1 : (upd (upd (upd (upd (upd HB E (.dK [])) E1 (.dK [])) q1 (.tup [.int 1, .int 2])) q2 (.tup [.int 1, .int 2])) E1 (.dK (tK [("a", .ref q1), ("b", .ref q2)]))) q1 = some (.tup [.int 1, .int 2]) := sd1 _ _ (Same.new hq2 _ _ upd_same) fun k z => nomatch z
      have t2 : (upd (upd (upd (upd (upd HB E (.dK [])) E1 (.dK [])) q1 (.tup [.int 1, .int 2])) q2 (.tup [.int 1, .int 2])) E1 (.dK (tK [("a", .ref q1), ("b", .ref q2)]))) q2 = some (.tup [.int 1, .int 2]) := sd1 _ _ upd_same fun k z => nomatch z
      generalize upd (upd (upd (upd (upd HB E (.dK [])) E1 (.dK [])) q1 (.tup [.int 1, .int 2])) q2 (.tup [.int 1, .int 2])) E1 (.dK (tK [("a", .ref q1), ("b", .ref q2)])) = He at sAll eE eE1 t1 t2 ⊢
      refine fun E2 hE2 => ⟨two_le, fun q3 hq3 => ⟨two_le, fun q4 hq4 => ⟨?_, [(Sum.inr "a", .ref q3), (Sum.inr "c", .ref q4)], rfl, (show 2 ≤ 15 by decide), ?_⟩⟩⟩
      · exact Same.new hq4 _ _ (Same.new hq3 _ _ upd_same)
      rw [mB]
      have sHe : Same He (upd (upd (upd (upd He E2 (.dK [])) q3 (.tup [.int 1, .int 2])) q4 (.tup [.int 1, .int 2])) E2 (.dK (tK [("a", .ref q3), ("c", .ref q4)]))) := Same.mut ((Same.new hE2).trans ((Same.new hq3).trans (Same.new hq4))) hE2
      have eE2 : (upd (upd (upd (upd He E2 (.dK [])) q3 (.tup [.int 1, .int 2])) q4 (.tup [.int 1, .int 2])) E2 (.dK (tK [("a", .ref q3), ("c", .ref q4)]))) E2 = some (.dK (tK [("a", .ref q3), ("c", .ref q4)])) := upd_same
      have sd2 : SamD (upd (upd (upd He E2 (.dK [])) q3 (.tup [.int 1, .int 2])) q4 (.tup [.int 1, .int 2])) (upd (upd (upd (upd He E2 (.dK [])) q3 (.tup [.int 1, .int 2])) q4 (.tup [.int 1, .int 2])) E2 (.dK (tK [("a", .ref q3), ("c", .ref q4)]))) := SamD.put1 (Same.new hq4 _ _ (Same.new hq3 _ _ upd_same))
      have t3 : (upd (upd (upd (upd He E2 (.dK [])) q3 (.tup [.int 1, .int 2])) q4 (.tup [.int 1, .int 2])) E2 (.dK (tK [("a", .ref q3), ("c", .ref q4)]))) q3 = some (.tup [.int 1, .int 2]) := sd2 _ _ (Same.new hq4 _ _ upd_same) fun k z => nomatch z
      have t4 : (upd (upd (upd (upd He E2 (.dK [])) q3 (.tup [.int 1, .int 2])) q4 (.tup [.int 1, .int 2])) E2 (.dK (tK [("a", .ref q3), ("c", .ref q4)]))) q4 = some (.tup [.int 1, .int 2]) := sd2 _ _ upd_same fun k z => nomatch z
      have nEE2 : E ≠ E2 := ne_of_none eE hE2
      have n1E2 : E1 ≠ E2 := ne_of_none eE1 hE2
      generalize upd (upd (upd (upd He E2 (.dK [])) q3 (.tup [.int 1, .int 2])) q4 (.tup [.int 1, .int 2])) E2 (.dK (tK [("a", .ref q3), ("c", .ref q4)])) = Hf at sHe eE2 t3 t4 ⊢
      refine ⟨sHe _ _ eE, [(Sum.inr "ann", .ref E1), (Sum.inr "bob", .ref E2)], rfl, (show 2 ≤ 15 by decide), ?_⟩
      rw [mE]
      have sd3 : SamD Hf (upd Hf E (.dK (tK [("ann", .ref E1), ("bob", .ref E2)]))) := SamD.put1 (sHe _ _ eE)
      have hEE : (upd Hf E (.dK (tK [("ann", .ref E1), ("bob", .ref E2)]))) E = some (.dK (tK (mK [("ann", E1), ("bob", E2)]))) := upd_same
      have sBg : Same HB (upd Hf E (.dK (tK [("ann", .ref E1), ("bob", .ref E2)]))) := Same.mut (sAll.trans sHe) hE
      obtain ⟨v1, v2, v3, v4⟩ := two_is
      have hg : (fin (Wl [("ann", p1, ["a", "b"]), ("bob", p2, ["a", "c"])]) (st0 S2)).got = (fin W2 (st0 S2)).got := rfl
      have half : ∀ {H' : Hp} {q : Addr}, H' q = some (.tup [.int 1, .int 2]) → Fr K H' (.ref q) (mkRat 1 2) := fun {H' q} h => Fr.of (show H' q = some (.tup [.int (mkRat 1 2).num, .int ((mkRat 1 2).den : Int)]) from h)
      have pos : (0 : Rat) < mkRat 1 2 := by decide +kernel
      rw [hg] at fct
      have m1 : (("ann" : Str), p1, (["a", "b"] : List Str)) ∈ [(("ann" : Str), p1, (["a", "b"] : List Str)), ("bob", p2, ["a", "c"])] := List.mem_cons_self
      have m2 : (("bob" : Str), p2, (["a", "c"] : List Str)) ∈ [(("ann" : Str), p1, (["a", "b"] : List Str)), ("bob", p2, ["a", "c"])] := List.mem_cons_of_mem _ List.mem_cons_self
      have shE : Shs K (upd Hf E (.dK (tK [("ann", .ref E1), ("bob", .ref E2)]))) [("ann", E1), ("bob", E2)] (S2.map (·.1)) (fin W2 (st0 S2)).got := by
        refine ⟨okw2.2.2.1, List.nodup_cons.mpr ⟨fun z => n1E2 (List.mem_singleton.mp z), List.nodup_cons.mpr ⟨(fun z => nomatch z), List.nodup_nil⟩⟩, fun q hq => ?_⟩
        rcases List.mem_cons.mp hq with z | z
        · subst z
          refine ⟨[("a", .ref q1), ("b", .ref q2)], by rw [upd_ne nE1.symm]; exact sHe _ _ eE1, ⟨okw2.1, fun z hz => ?_, fun k hk => fct.own _ _ _ m1 k hk, fun k => fct.one _ k⟩, fun k hk => ?_⟩
          · rcases List.mem_cons.mp hz with y | y
            · subst y
              rw [v1]
              exact half (sd3 _ _ (sHe _ _ t1) fun k z => nomatch z)
            · rcases List.mem_cons.mp y with y | y
              · subst y
                rw [v2]
                exact half (sd3 _ _ (sHe _ _ t2) fun k z => nomatch z)
              · cases y
          · rcases List.mem_cons.mp hk with y | y
            · subst y
              exact ⟨by rw [v1]; exact pos, by simp⟩
            · rcases List.mem_cons.mp y with y | y
              · subst y
                exact ⟨by rw [v2]; exact pos, by simp⟩
              · cases y
        · rcases List.mem_cons.mp z with z | z
          · subst z
            refine ⟨[("a", .ref q3), ("c", .ref q4)], by rw [upd_ne nEE2.symm]; exact eE2, ⟨okw2.2.1, fun z hz => ?_, fun k hk => fct.own _ _ _ m2 k hk, fun k => fct.one _ k⟩, fun k hk => ?_⟩
            · rcases List.mem_cons.mp hz with y | y
              · subst y
                rw [v3]
                exact half (sd3 _ _ t3 fun k z => nomatch z)
              · rcases List.mem_cons.mp y with y | y
                · subst y
                  rw [v4]
                  exact half (sd3 _ _ t4 fun k z => nomatch z)
                · cases y
            · rcases List.mem_cons.mp hk with y | y
              · subst y
                exact ⟨by rw [v3]; exact pos, by simp⟩
              · rcases List.mem_cons.mp y with y | y
                · subst y
                  exact ⟨by rw [v4]; exact pos, by simp⟩
                · cases y
          · cases z
      generalize upd Hf E (.dK (tK [("ann", .ref E1), ("bob", .ref E2)])) = Hg at hEE sBg shE ⊢
      have mS : ∀ (u v x : V), mergeK [] [((Sum.inr "a" : Key), u), (Sum.inr "b", v), (Sum.inr "c", x)] = tK [("a", u), ("b", v), ("c", x)] := fun u v x => merge_nil (L := [("a", u), ("b", v), ("c", x)]) (show (["a", "b", "c"] : List Str).Nodup by decide +kernel)
      refine ⟨_, rfl, fun z hz => ⟨two_le, fun LA hLA => ?_⟩⟩
      have sz := (Same.new (o := HO.dK []) hz).trans (Same.new (o := .lst [.ref E, .ref z]) hLA)
      have eLA : (upd (upd Hg z (.dK [])) LA (.lst [.ref E, .ref z])) LA = some (.lst [.ref E, .ref z]) := upd_same
      have ez : (upd (upd Hg z (.dK [])) LA (.lst [.ref E, .ref z])) z = some (.dK []) := Same.new hLA _ _ upd_same
      generalize upd (upd Hg z (.dK [])) LA (.lst [.ref E, .ref z]) = Hh at sz eLA ez ⊢
      refine ⟨_, rfl, fun SD hSD => ⟨upd_same, [(Sum.inr "a", .int 1), (Sum.inr "b", .int 1), (Sum.inr "c", .int 1)], rfl, (show 3 ≤ 15 by decide), ?_⟩⟩
      rw [mS]
      refine ⟨SD, _, rfl, upd_same, trivial, fun oS => ?_⟩
      have sS : Same Hh (upd (upd (upd Hh SD (.dK [])) SD (.dK (tK [("a", .int 1), ("b", .int 1), ("c", .int 1)]))) SD (.frz oS (.dK (tK [("a", .int 1), ("b", .int 1), ("c", .int 1)])))) := Same.mut (Same.mut (Same.new hSD) hSD) hSD
      have stk : Stk (upd (upd (upd Hh SD (.dK [])) SD (.dK (tK [("a", .int 1), ("b", .int 1), ("c", .int 1)]))) SD (.frz oS (.dK (tK [("a", .int 1), ("b", .int 1), ("c", .int 1)])))) SD S2 := ⟨oS, upd_same⟩
      generalize upd (upd (upd Hh SD (.dK [])) SD (.dK (tK [("a", .int 1), ("b", .int 1), ("c", .int 1)]))) SD (.frz oS (.dK (tK [("a", .int 1), ("b", .int 1), ("c", .int 1)]))) = Hi at sS stk ⊢
      refine ⟨D, SD, _, S2, rfl, wis.same (sBg.trans (sz.trans sS)), okW, stk, okS, few, fun Hj t0 M0 s0 ht0 hM0 pm0 et0 sh0 => fun x hx => ⟨x, _, rfl, upd_same, trivial, fun ox => fun y hy => ⟨y, _, rfl, upd_same, trivial, fun oy => ?_⟩⟩⟩
      rw [hg] at sh0
      have sx : Same Hj (upd (upd (upd (upd Hj x (.dK [])) x (.frz ox (.dK []))) y (.dK [])) y (.frz oy (.dK []))) := by
        have s1 : Same Hj (upd (upd Hj x (.dK [])) x (.frz ox (.dK []))) := Same.mut (Same.new hx) hx
        exact s1.trans (Same.mut (Same.new hy) hy)
      have exy : (upd (upd (upd (upd Hj x (.dK [])) x (.frz ox (.dK []))) y (.dK [])) y (.frz oy (.dK []))) x = some (.frz ox (.dK [])) := (Same.mut (Same.new hy) hy : Same (upd (upd Hj x (.dK [])) x (.frz ox (.dK []))) _) _ _ upd_same
      have eyy : (upd (upd (upd (upd Hj x (.dK [])) x (.frz ox (.dK []))) y (.dK [])) y (.frz oy (.dK []))) y = some (.frz oy (.dK [])) := upd_same
      generalize upd (upd (upd (upd Hj x (.dK [])) x (.frz ox (.dK []))) y (.dK [])) y (.frz oy (.dK [])) = Hk at sx exy eyy ⊢
      refine ⟨x, y, [], [], rfl, ⟨⟨ox, exy⟩, fun q hq => nomatch hq⟩, ⟨(fun q hq => nomatch hq), List.nodup_nil⟩, ⟨oy, eyy⟩, ⟨(fun q hq => nomatch hq), List.nodup_nil⟩, ⟨Nat.zero_le _, Nat.zero_le _, (fun q hq => nomatch hq), List.nodup_nil, List.nodup_nil⟩, fun Hl t1 M1 s1' ht1 hM1 pm1 et1 sh1 => ⟨two_le, fun LB hLB => ?_⟩⟩
      have M1n : M1 = [] := by
        have := pm1.length_eq
        rw [List.length_map] at this
        exact List.length_eq_zero_iff.mp this
      subst M1n
      have sb := Same.new (o := .lst [.ref t0, .ref t1]) hLB
      have sjl := sx.trans (s1'.trans sb)
      have shl := sz.trans (sS.trans (s0.trans sjl))
      refine ⟨LA, LB, [.ref E, .ref z], [.ref t0, .ref t1], rfl, SqL.of ((sS.trans (s0.trans sjl)) _ _ eLA), SqL.of upd_same, .cons ?_ (.cons ?_ .nil), (show 2 ≤ 60 by decide), fun HF _ => kk HF⟩
      · exact shs_ex (.inl (shl _ _ hEE)) (.inl (sjl _ _ et0)) (shE.same shl) (sh0.same sjl) pm0.symm
      · exact shs_ex (M := []) (.inl ((sS.trans (s0.trans sjl)) _ _ ez)) (.inl (sb _ _ et1)) ⟨List.nodup_nil, List.nodup_nil, fun q hq => nomatch hq⟩ (sh1.same sb) .nil
end
end K79


set_option Elab.async false
set_option linter.all false
set_option maxRecDepth 100000
set_option maxHeartbeats 4000000
namespace K79
open PySem PyProof.Rows L2 Lk
theorem kb_mk {K : PySem.W.Frag} {fd : FuncData} (h : ∀ a b : Value, bindArgs fd ⟨[], [(("stock" : Str), a), (("wishes" : Str), b)]⟩ = pure [(("wishes" : Str), b), (("stock" : Str), a)]) : KBinds K fd ["wishes", "stock"] ["stock", "wishes"] gSW gSWV := by
  refine ⟨fun s us ws _ hl => ?_, fun r rz => ?_⟩
  · match us, ws, hl with
    | [], [a, b], _ => exact .of_eq (h a b)
    | [], [], hl => cases hl
    | [], [_], hl => cases hl
    | [], _ :: _ :: _ :: _, hl => cases hl
    | _ :: _, _, hl => cases hl
  · cases r with
    | cons _ _ => exact .nil
    | nil =>
      cases rz with
      | nil => exact .nil
      | cons r1 rz =>
        cases rz with
        | nil => exact .nil
        | cons r2 rz =>
          cases rz with
          | nil => exact .cons r2 (.cons r1 .nil)
          | cons _ _ => exact .nil
theorem all_mk {l : PySem.W.OpenLaw} {w : World} {K : PySem.W.Frag} {h : Heap} {mg : Str → Option Value} {fa f0 f1 f2 f3 f4 f5 f6 f7 f8 f9 f10 f11 f12 f13 f14 f15 f16 f17 f18 f19 f20 f21 f22 f23 f24 f25 f26 f27 f28 f29 f30 f31 f32 f33 f34 : Addr} (X : K.In h) (G : h.Ns mainGlobals mg) (hfa : mg "law" = some (.ref fa))
    {od0 an0 od1 an1 od2 an2 od3 an3 od4 an4 od5 an5 od6 an6 od7 an7 od8 an8 od9 an9 od10 an10 od11 an11 od12 an12 od13 an13 od14 an14 od15 an15 od16 an16 od17 an17 od18 an18 od19 an19 od20 an20 od21 an21 od22 an22 od23 an23 od24 an24 od25 an25 od26 an26 od27 an27 od28 an28 od29 an29 od30 an30 od31 an31 od32 an32 od33 an33 od34 an34 : Option Addr} {sl0 sl1 sl2 sl3 sl4 sl5 sl6 sl7 sl8 sl9 sl10 sl11 sl12 sl13 sl14 sl15 sl16 sl17 sl18 sl19 sl20 sl21 sl22 sl23 sl24 sl25 sl26 sl27 sl28 sl29 sl30 sl31 sl32 sl33 sl34 : Array (Option Value)} {oc0 kV0 dc0 pm0 cd0 ct0 oc1 kV1 dc1 pm1 cd1 ct1 oc2 kV2 dc2 pm2 cd2 ct2 oc3 kV3 dc3 pm3 cd3 ct3 oc4 kV4 dc4 pm4 cd4 ct4 oc5 kV5 dc5 pm5 cd5 ct5 oc6 kV6 dc6 pm6 cd6 ct6 oc7 kV7 dc7 pm7 cd7 ct7 oc8 kV8 dc8 pm8 cd8 ct8 oc9 kV9 dc9 pm9 cd9 ct9 oc10 kV10 dc10 pm10 cd10 ct10 oc11 kV11 dc11 pm11 cd11 ct11 oc12 kV12 dc12 pm12 cd12 ct12 oc13 kV13 dc13 pm13 cd13 ct13 oc14 kV14 dc14 pm14 cd14 ct14 oc15 kV15 dc15 pm15 cd15 ct15 oc16 kV16 dc16 pm16 cd16 ct16 oc17 kV17 dc17 pm17 cd17 ct17 oc18 kV18 dc18 pm18 cd18 ct18 oc19 kV19 dc19 pm19 cd19 ct19 oc20 kV20 dc20 pm20 cd20 ct20 oc21 kV21 dc21 pm21 cd21 ct21 oc22 kV22 dc22 pm22 cd22 ct22 oc23 kV23 dc23 pm23 cd23 ct23 oc24 kV24 dc24 pm24 cd24 ct24 oc25 kV25 dc25 pm25 cd25 ct25 oc26 kV26 dc26 pm26 cd26 ct26 oc27 kV27 dc27 pm27 cd27 ct27 oc28 kV28 dc28 pm28 cd28 ct28 oc29 kV29 dc29 pm29 cd29 ct29 oc30 kV30 dc30 pm30 cd30 ct30 oc31 kV31 dc31 pm31 cd31 ct31 oc32 kV32 dc32 pm32 cd32 ct32 oc33 kV33 dc33 pm33 cd33 ct33 oc34 kV34 dc34 pm34 cd34 ct34 : Value} {tL : Tok}
    (a0 : PySem.W.nsIn K mainGlobals "is_name" = some (some (.ref f0))) (l0 : K.lookup f0 = some ⟨oc0, od0, .func (PySem.W.fnOf "is_name" "is_name" (defArgs s_is_name) (defBody s_is_name) (defScope s_is_name) .none kV0 dc0 pm0 an0 cd0 ct0), sl0⟩) (c0 : PySem.W.codeIn K cd0 "is_name" = true) (k0 : PySem.W.keepIn K (.ref f0) = true)
    (a1 : PySem.W.nsIn K mainGlobals "is_count" = some (some (.ref f1))) (l1 : K.lookup f1 = some ⟨oc1, od1, .func (PySem.W.fnOf "is_count" "is_count" (defArgs s_is_count) (defBody s_is_count) (defScope s_is_count) .none kV1 dc1 pm1 an1 cd1 ct1), sl1⟩) (c1 : PySem.W.codeIn K cd1 "is_count" = true) (k1 : PySem.W.keepIn K (.ref f1) = true)
    (a2 : PySem.W.nsIn K mainGlobals "are_names" = some (some (.ref f2))) (l2 : K.lookup f2 = some ⟨oc2, od2, .func (PySem.W.fnOf "are_names" "are_names" (defArgs s_are_names) (defBody s_are_names) (defScope s_are_names) .none kV2 dc2 pm2 an2 cd2 ct2), sl2⟩) (c2 : PySem.W.codeIn K cd2 "are_names" = true) (k2 : PySem.W.keepIn K (.ref f2) = true)
    (a3 : PySem.W.nsIn K mainGlobals "is_stock" = some (some (.ref f3))) (l3 : K.lookup f3 = some ⟨oc3, od3, .func (PySem.W.fnOf "is_stock" "is_stock" (defArgs s_is_stock) (defBody s_is_stock) (defScope s_is_stock) .none kV3 dc3 pm3 an3 cd3 ct3), sl3⟩) (c3 : PySem.W.codeIn K cd3 "is_stock" = true) (k3 : PySem.W.keepIn K (.ref f3) = true)
    (a4 : PySem.W.nsIn K mainGlobals "check_stock" = some (some (.ref f4))) (l4 : K.lookup f4 = some ⟨oc4, od4, .func (PySem.W.fnOf "check_stock" "check_stock" (defArgs s_check_stock) (defBody s_check_stock) (defScope s_check_stock) .none kV4 dc4 pm4 an4 cd4 ct4), sl4⟩) (c4 : PySem.W.codeIn K cd4 "check_stock" = true) (k4 : PySem.W.keepIn K (.ref f4) = true)
    (a5 : PySem.W.nsIn K mainGlobals "are_wishes" = some (some (.ref f5))) (l5 : K.lookup f5 = some ⟨oc5, od5, .func (PySem.W.fnOf "are_wishes" "are_wishes" (defArgs s_are_wishes) (defBody s_are_wishes) (defScope s_are_wishes) .none kV5 dc5 pm5 an5 cd5 ct5), sl5⟩) (c5 : PySem.W.codeIn K cd5 "are_wishes" = true) (k5 : PySem.W.keepIn K (.ref f5) = true)
    (a6 : PySem.W.nsIn K mainGlobals "check_wishes" = some (some (.ref f6))) (l6 : K.lookup f6 = some ⟨oc6, od6, .func (PySem.W.fnOf "check_wishes" "check_wishes" (defArgs s_check_wishes) (defBody s_check_wishes) (defScope s_check_wishes) .none kV6 dc6 pm6 an6 cd6 ct6), sl6⟩) (c6 : PySem.W.codeIn K cd6 "check_wishes" = true) (k6 : PySem.W.keepIn K (.ref f6) = true)
    (a7 : PySem.W.nsIn K mainGlobals "check_asked" = some (some (.ref f7))) (l7 : K.lookup f7 = some ⟨oc7, od7, .func (PySem.W.fnOf "check_asked" "check_asked" (defArgs s_check_asked) (defBody s_check_asked) (defScope s_check_asked) .none kV7 dc7 pm7 an7 cd7 ct7), sl7⟩) (c7 : PySem.W.codeIn K cd7 "check_asked" = true) (k7 : PySem.W.keepIn K (.ref f7) = true)
    (a8 : PySem.W.nsIn K mainGlobals "least_terms" = some (some (.ref f8))) (l8 : K.lookup f8 = some ⟨oc8, od8, .func (PySem.W.fnOf "least_terms" "least_terms" (defArgs s_least_terms) (defBody s_least_terms) (defScope s_least_terms) .none kV8 dc8 pm8 an8 cd8 ct8), sl8⟩) (c8 : PySem.W.codeIn K cd8 "least_terms" = true) (k8 : PySem.W.keepIn K (.ref f8) = true)
    (a9 : PySem.W.nsIn K mainGlobals "plus" = some (some (.ref f9))) (l9 : K.lookup f9 = some ⟨oc9, od9, .func (PySem.W.fnOf "plus" "plus" (defArgs s_plus) (defBody s_plus) (defScope s_plus) .none kV9 dc9 pm9 an9 cd9 ct9), sl9⟩) (c9 : PySem.W.codeIn K cd9 "plus" = true) (k9 : PySem.W.keepIn K (.ref f9) = true)
    (a10 : PySem.W.nsIn K mainGlobals "minus" = some (some (.ref f10))) (l10 : K.lookup f10 = some ⟨oc10, od10, .func (PySem.W.fnOf "minus" "minus" (defArgs s_minus) (defBody s_minus) (defScope s_minus) .none kV10 dc10 pm10 an10 cd10 ct10), sl10⟩) (c10 : PySem.W.codeIn K cd10 "minus" = true) (k10 : PySem.W.keepIn K (.ref f10) = true)
    (a11 : PySem.W.nsIn K mainGlobals "times" = some (some (.ref f11))) (l11 : K.lookup f11 = some ⟨oc11, od11, .func (PySem.W.fnOf "times" "times" (defArgs s_times) (defBody s_times) (defScope s_times) .none kV11 dc11 pm11 an11 cd11 ct11), sl11⟩) (c11 : PySem.W.codeIn K cd11 "times" = true) (k11 : PySem.W.keepIn K (.ref f11) = true)
    (a12 : PySem.W.nsIn K mainGlobals "is_below" = some (some (.ref f12))) (l12 : K.lookup f12 = some ⟨oc12, od12, .func (PySem.W.fnOf "is_below" "is_below" (defArgs s_is_below) (defBody s_is_below) (defScope s_is_below) .none kV12 dc12 pm12 an12 cd12 ct12), sl12⟩) (c12 : PySem.W.codeIn K cd12 "is_below" = true) (k12 : PySem.W.keepIn K (.ref f12) = true)
    (a13 : PySem.W.nsIn K mainGlobals "least_of" = some (some (.ref f13))) (l13 : K.lookup f13 = some ⟨oc13, od13, .func (PySem.W.fnOf "least_of" "least_of" (defArgs s_least_of) (defBody s_least_of) (defScope s_least_of) .none kV13 dc13 pm13 an13 cd13 ct13), sl13⟩) (c13 : PySem.W.codeIn K cd13 "least_of" = true) (k13 : PySem.W.keepIn K (.ref f13) = true)
    (a14 : PySem.W.nsIn K mainGlobals "in_order" = some (some (.ref f14))) (l14 : K.lookup f14 = some ⟨oc14, od14, .func (PySem.W.fnOf "in_order" "in_order" (defArgs s_in_order) (defBody s_in_order) (defScope s_in_order) .none kV14 dc14 pm14 an14 cd14 ct14), sl14⟩) (c14 : PySem.W.codeIn K cd14 "in_order" = true) (k14 : PySem.W.keepIn K (.ref f14) = true)
    (a15 : PySem.W.nsIn K mainGlobals "meal_of" = some (some (.ref f15))) (l15 : K.lookup f15 = some ⟨oc15, od15, .func (PySem.W.fnOf "meal_of" "meal_of" (defArgs s_meal_of) (defBody s_meal_of) (defScope s_meal_of) .none kV15 dc15 pm15 an15 cd15 ct15), sl15⟩) (c15 : PySem.W.codeIn K cd15 "meal_of" = true) (k15 : PySem.W.keepIn K (.ref f15) = true)
    (a16 : PySem.W.nsIn K mainGlobals "eaten_shares" = some (some (.ref f16))) (l16 : K.lookup f16 = some ⟨oc16, od16, .func (PySem.W.fnOf "eaten_shares" "eaten_shares" (defArgs s_eaten_shares) (defBody s_eaten_shares) (defScope s_eaten_shares) .none kV16 dc16 pm16 an16 cd16 ct16), sl16⟩) (c16 : PySem.W.codeIn K cd16 "eaten_shares" = true) (k16 : PySem.W.keepIn K (.ref f16) = true)
    (a17 : PySem.W.nsIn K mainGlobals "_law_purse" = some (some (.ref f17))) (l17 : K.lookup f17 = some ⟨oc17, od17, .func (PySem.W.fnOf "_law_purse" "_law_purse" (defArgs s__law_purse) (defBody s__law_purse) (defScope s__law_purse) .none kV17 dc17 pm17 an17 cd17 ct17), sl17⟩) (c17 : PySem.W.codeIn K cd17 "_law_purse" = true) (k17 : PySem.W.keepIn K (.ref f17) = true)
    (a18 : PySem.W.nsIn K mainGlobals "_law_mixed" = some (some (.ref f18))) (l18 : K.lookup f18 = some ⟨oc18, od18, .func (PySem.W.fnOf "_law_mixed" "_law_mixed" (defArgs s__law_mixed) (defBody s__law_mixed) (defScope s__law_mixed) .none kV18 dc18 pm18 an18 cd18 ct18), sl18⟩) (c18 : PySem.W.codeIn K cd18 "_law_mixed" = true) (k18 : PySem.W.keepIn K (.ref f18) = true)
    (a19 : PySem.W.nsIn K mainGlobals "_law_draw" = some (some (.ref f19))) (l19 : K.lookup f19 = some ⟨oc19, od19, .func (PySem.W.fnOf "_law_draw" "_law_draw" (defArgs s__law_draw) (defBody s__law_draw) (defScope s__law_draw) .none kV19 dc19 pm19 an19 cd19 ct19), sl19⟩) (c19 : PySem.W.codeIn K cd19 "_law_draw" = true) (k19 : PySem.W.keepIn K (.ref f19) = true)
    (a20 : PySem.W.nsIn K mainGlobals "_law_purses" = some (some (.ref f20))) (l20 : K.lookup f20 = some ⟨oc20, od20, .func (PySem.W.fnOf "_law_purses" "_law_purses" (defArgs s__law_purses) (defBody s__law_purses) (defScope s__law_purses) .none kV20 dc20 pm20 an20 cd20 ct20), sl20⟩) (c20 : PySem.W.codeIn K cd20 "_law_purses" = true) (k20 : PySem.W.keepIn K (.ref f20) = true)
    (a21 : PySem.W.nsIn K mainGlobals "_law_one_of" = some (some (.ref f21))) (l21 : K.lookup f21 = some ⟨oc21, od21, .func (PySem.W.fnOf "_law_one_of" "_law_one_of" (defArgs s__law_one_of) (defBody s__law_one_of) (defScope s__law_one_of) .none kV21 dc21 pm21 an21 cd21 ct21), sl21⟩) (c21 : PySem.W.codeIn K cd21 "_law_one_of" = true) (k21 : PySem.W.keepIn K (.ref f21) = true)
    (a22 : PySem.W.nsIn K mainGlobals "_law_shuffled" = some (some (.ref f22))) (l22 : K.lookup f22 = some ⟨oc22, od22, .func (PySem.W.fnOf "_law_shuffled" "_law_shuffled" (defArgs s__law_shuffled) (defBody s__law_shuffled) (defScope s__law_shuffled) .none kV22 dc22 pm22 an22 cd22 ct22), sl22⟩) (c22 : PySem.W.codeIn K cd22 "_law_shuffled" = true) (k22 : PySem.W.keepIn K (.ref f22) = true)
    (a23 : PySem.W.nsIn K mainGlobals "_law_exact" = some (some (.ref f23))) (l23 : K.lookup f23 = some ⟨oc23, od23, .func (PySem.W.fnOf "_law_exact" "_law_exact" (defArgs s__law_exact) (defBody s__law_exact) (defScope s__law_exact) .none kV23 dc23 pm23 an23 cd23 ct23), sl23⟩) (c23 : PySem.W.codeIn K cd23 "_law_exact" = true) (k23 : PySem.W.keepIn K (.ref f23) = true)
    (a24 : PySem.W.nsIn K mainGlobals "_law_wishes" = some (some (.ref f24))) (l24 : K.lookup f24 = some ⟨oc24, od24, .func (PySem.W.fnOf "_law_wishes" "_law_wishes" (defArgs s__law_wishes) (defBody s__law_wishes) (defScope s__law_wishes) .none kV24 dc24 pm24 an24 cd24 ct24), sl24⟩) (c24 : PySem.W.codeIn K cd24 "_law_wishes" = true) (k24 : PySem.W.keepIn K (.ref f24) = true)
    (a25 : PySem.W.nsIn K mainGlobals "_law_low" = some (some (.ref f25))) (l25 : K.lookup f25 = some ⟨oc25, od25, .func (PySem.W.fnOf "_law_low" "_law_low" (defArgs s__law_low) (defBody s__law_low) (defScope s__law_low) .none kV25 dc25 pm25 an25 cd25 ct25), sl25⟩) (c25 : PySem.W.codeIn K cd25 "_law_low" = true) (k25 : PySem.W.keepIn K (.ref f25) = true)
    (a26 : PySem.W.nsIn K mainGlobals "_law_add" = some (some (.ref f26))) (l26 : K.lookup f26 = some ⟨oc26, od26, .func (PySem.W.fnOf "_law_add" "_law_add" (defArgs s__law_add) (defBody s__law_add) (defScope s__law_add) .none kV26 dc26 pm26 an26 cd26 ct26), sl26⟩) (c26 : PySem.W.codeIn K cd26 "_law_add" = true) (k26 : PySem.W.keepIn K (.ref f26) = true)
    (a27 : PySem.W.nsIn K mainGlobals "_law_sub" = some (some (.ref f27))) (l27 : K.lookup f27 = some ⟨oc27, od27, .func (PySem.W.fnOf "_law_sub" "_law_sub" (defArgs s__law_sub) (defBody s__law_sub) (defScope s__law_sub) .none kV27 dc27 pm27 an27 cd27 ct27), sl27⟩) (c27 : PySem.W.codeIn K cd27 "_law_sub" = true) (k27 : PySem.W.keepIn K (.ref f27) = true)
    (a28 : PySem.W.nsIn K mainGlobals "_law_mul" = some (some (.ref f28))) (l28 : K.lookup f28 = some ⟨oc28, od28, .func (PySem.W.fnOf "_law_mul" "_law_mul" (defArgs s__law_mul) (defBody s__law_mul) (defScope s__law_mul) .none kV28 dc28 pm28 an28 cd28 ct28), sl28⟩) (c28 : PySem.W.codeIn K cd28 "_law_mul" = true) (k28 : PySem.W.keepIn K (.ref f28) = true)
    (a29 : PySem.W.nsIn K mainGlobals "_law_less" = some (some (.ref f29))) (l29 : K.lookup f29 = some ⟨oc29, od29, .func (PySem.W.fnOf "_law_less" "_law_less" (defArgs s__law_less) (defBody s__law_less) (defScope s__law_less) .none kV29 dc29 pm29 an29 cd29 ct29), sl29⟩) (c29 : PySem.W.codeIn K cd29 "_law_less" = true) (k29 : PySem.W.keepIn K (.ref f29) = true)
    (a30 : PySem.W.nsIn K mainGlobals "_law_sum" = some (some (.ref f30))) (l30 : K.lookup f30 = some ⟨oc30, od30, .func (PySem.W.fnOf "_law_sum" "_law_sum" (defArgs s__law_sum) (defBody s__law_sum) (defScope s__law_sum) .none kV30 dc30 pm30 an30 cd30 ct30), sl30⟩) (c30 : PySem.W.codeIn K cd30 "_law_sum" = true) (k30 : PySem.W.keepIn K (.ref f30) = true)
    (a31 : PySem.W.nsIn K mainGlobals "_law_eaten" = some (some (.ref f31))) (l31 : K.lookup f31 = some ⟨oc31, od31, .func (PySem.W.fnOf "_law_eaten" "_law_eaten" (defArgs s__law_eaten) (defBody s__law_eaten) (defScope s__law_eaten) .none kV31 dc31 pm31 an31 cd31 ct31), sl31⟩) (c31 : PySem.W.codeIn K cd31 "_law_eaten" = true) (k31 : PySem.W.keepIn K (.ref f31) = true)
    (a32 : PySem.W.nsIn K mainGlobals "_law_up_to" = some (some (.ref f32))) (l32 : K.lookup f32 = some ⟨oc32, od32, .func (PySem.W.fnOf "_law_up_to" "_law_up_to" (defArgs s__law_up_to) (defBody s__law_up_to) (defScope s__law_up_to) .none kV32 dc32 pm32 an32 cd32 ct32), sl32⟩) (c32 : PySem.W.codeIn K cd32 "_law_up_to" = true) (k32 : PySem.W.keepIn K (.ref f32) = true)
    (a33 : PySem.W.nsIn K mainGlobals "_law_case_right" = some (some (.ref f33))) (l33 : K.lookup f33 = some ⟨oc33, od33, .func (PySem.W.fnOf "_law_case_right" "_law_case_right" (defArgs s__law_case_right) (defBody s__law_case_right) (defScope s__law_case_right) .none kV33 dc33 pm33 an33 cd33 ct33), sl33⟩) (c33 : PySem.W.codeIn K cd33 "_law_case_right" = true) (k33 : PySem.W.keepIn K (.ref f33) = true)
    (a34 : PySem.W.nsIn K mainGlobals "law" = some (some (.ref f34))) (l34 : K.lookup f34 = some ⟨oc34, od34, .func (PySem.W.fnOf "law" "law" (defArgs s_law) (defBody s_law) (defScope s_law) .none kV34 dc34 pm34 an34 cd34 ct34), sl34⟩) (c34 : PySem.W.codeIn K cd34 "law" = true) (k34 : PySem.W.keepIn K (.ref f34) = true)
    (z_len : PySem.W.nsIn K mainGlobals "len" = some none)
    (z_isinstance : PySem.W.nsIn K mainGlobals "isinstance" = some none)
    (z_str : PySem.W.nsIn K mainGlobals "str" = some none)
    (z_int : PySem.W.nsIn K mainGlobals "int" = some none)
    (z_bool : PySem.W.nsIn K mainGlobals "bool" = some none)
    (z_list : PySem.W.nsIn K mainGlobals "list" = some none)
    (z_dict : PySem.W.nsIn K mainGlobals "dict" = some none)
    (z_tuple : PySem.W.nsIn K mainGlobals "tuple" = some none)
    (z_set : PySem.W.nsIn K mainGlobals "set" = some none)
    (z_sorted : PySem.W.nsIn K mainGlobals "sorted" = some none)
    (z_abs : PySem.W.nsIn K mainGlobals "abs" = some none)
    (z_sum : PySem.W.nsIn K mainGlobals "sum" = some none)
    (z_max : PySem.W.nsIn K mainGlobals "max" = some none)
    (z_min : PySem.W.nsIn K mainGlobals "min" = some none)
    (z_range : PySem.W.nsIn K mainGlobals "range" = some none)
    (z_zip : PySem.W.nsIn K mainGlobals "zip" = some none)
    (z_all : PySem.W.nsIn K mainGlobals "all" = some none)
    (z_repr : PySem.W.nsIn K mainGlobals "repr" = some none)
    (z_enumerate : PySem.W.nsIn K mainGlobals "enumerate" = some none)
    (aL : PySem.W.nsIn K mainGlobals "LOWER" = some (some (.str "abcdefghijklmnopqrstuvwxyz" tL))) :
    ∃ fd : FuncData, (∀ (s : Shared) (v : Value), BindsTo s fd ⟨[v], []⟩ [("script", v)]) ∧ ∀ base : Heap, K.In base → base.Ns mainGlobals mg → (∃ mm, base.Ns sysModules mm) → FnOkG l.prog w K mg base CX0 8 fa fd ["script"] (spLaw K) := by
  have e := hfa.symm.trans (PySem.W.mg_of X G a34)
  cases e
  have F0 := fun_mk (st := s_is_name) l0 c0 k0
  have b0 := F0.binds (ps := ["value"]) fun _ _ _ _ _ _ us hl => match us, hl with | [_], _ => rfl
  have F1 := fun_mk (st := s_is_count) l1 c1 k1
  have b1 := F1.binds (ps := ["value"]) fun _ _ _ _ _ _ us hl => match us, hl with | [_], _ => rfl
  have F2 := fun_mk (st := s_are_names) l2 c2 k2
  have b2 := F2.binds (ps := ["value"]) fun _ _ _ _ _ _ us hl => match us, hl with | [_], _ => rfl
  have F3 := fun_mk (st := s_is_stock) l3 c3 k3
  have b3 := F3.binds (ps := ["value"]) fun _ _ _ _ _ _ us hl => match us, hl with | [_], _ => rfl
  have F4 := fun_mk (st := s_check_stock) l4 c4 k4
  have b4 := F4.binds (ps := ["value"]) fun _ _ _ _ _ _ us hl => match us, hl with | [_], _ => rfl
  have F5 := fun_mk (st := s_are_wishes) l5 c5 k5
  have b5 := F5.binds (ps := ["value"]) fun _ _ _ _ _ _ us hl => match us, hl with | [_], _ => rfl
  have F6 := fun_mk (st := s_check_wishes) l6 c6 k6
  have b6 := F6.binds (ps := ["value"]) fun _ _ _ _ _ _ us hl => match us, hl with | [_], _ => rfl
  have F7 := fun_mk (st := s_check_asked) l7 c7 k7
  have b7 := F7.binds (ps := ["wishes", "stock"]) fun _ _ _ _ _ _ us hl => match us, hl with | [_, _], _ => rfl
  have F8 := fun_mk (st := s_least_terms) l8 c8 k8
  have b8 := F8.binds (ps := ["above", "below"]) fun _ _ _ _ _ _ us hl => match us, hl with | [_, _], _ => rfl
  have F9 := fun_mk (st := s_plus) l9 c9 k9
  have b9 := F9.binds (ps := ["one", "other"]) fun _ _ _ _ _ _ us hl => match us, hl with | [_, _], _ => rfl
  have F10 := fun_mk (st := s_minus) l10 c10 k10
  have b10 := F10.binds (ps := ["one", "other"]) fun _ _ _ _ _ _ us hl => match us, hl with | [_, _], _ => rfl
  have F11 := fun_mk (st := s_times) l11 c11 k11
  have b11 := F11.binds (ps := ["one", "other"]) fun _ _ _ _ _ _ us hl => match us, hl with | [_, _], _ => rfl
  have F12 := fun_mk (st := s_is_below) l12 c12 k12
  have b12 := F12.binds (ps := ["one", "other"]) fun _ _ _ _ _ _ us hl => match us, hl with | [_, _], _ => rfl
  have F13 := fun_mk (st := s_least_of) l13 c13 k13
  have b13 := F13.binds (ps := ["some"]) fun _ _ _ _ _ _ us hl => match us, hl with | [_], _ => rfl
  have F14 := fun_mk (st := s_in_order) l14 c14 k14
  have b14 := F14.binds (ps := ["row"]) fun _ _ _ _ _ _ us hl => match us, hl with | [_], _ => rfl
  have F15 := fun_mk (st := s_meal_of) l15 c15 k15
  have b15 := F15.binds (ps := ["wishes", "left", "name"]) fun _ _ _ _ _ _ us hl => match us, hl with | [_, _, _], _ => rfl
  have F16 := fun_mk (st := s_eaten_shares) l16 c16 k16
  have b16 := F16.binds (ps := ["wishes", "stock"]) fun _ _ _ _ _ _ us hl => match us, hl with | [_, _], _ => rfl
  have F17 := fun_mk (st := s__law_purse) l17 c17 k17
  have b17 := F17.binds (ps := ["script", "at"]) fun _ _ _ _ _ _ us hl => match us, hl with | [_, _], _ => rfl
  have F18 := fun_mk (st := s__law_mixed) l18 c18 k18
  have b18 := F18.binds (ps := ["seed", "spin", "at"]) fun _ _ _ _ _ _ us hl => match us, hl with | [_, _, _], _ => rfl
  have F19 := fun_mk (st := s__law_draw) l19 c19 k19
  have b19 := F19.binds (ps := ["purse", "many"]) fun _ _ _ _ _ _ us hl => match us, hl with | [_, _], _ => rfl
  have F20 := fun_mk (st := s__law_purses) l20 c20 k20
  have b20 := F20.binds (ps := ["script", "few"]) fun _ _ _ _ _ _ us hl => match us, hl with | [_, _], _ => rfl
  have F21 := fun_mk (st := s__law_one_of) l21 c21 k21
  have b21 := F21.binds (ps := ["purse", "some"]) fun _ _ _ _ _ _ us hl => match us, hl with | [_, _], _ => rfl
  have F22 := fun_mk (st := s__law_shuffled) l22 c22 k22
  have b22 := F22.binds (ps := ["purse", "some"]) fun _ _ _ _ _ _ us hl => match us, hl with | [_, _], _ => rfl
  have F23 := fun_mk (st := s__law_exact) l23 c23 k23
  have b23 := F23.binds (ps := ["mine", "theirs"]) fun _ _ _ _ _ _ us hl => match us, hl with | [_, _], _ => rfl
  have F24 := fun_mk (st := s__law_wishes) l24 c24 k24
  have b24 := F24.binds (ps := ["purse", "most", "wide"]) fun _ _ _ _ _ _ us hl => match us, hl with | [_, _, _], _ => rfl
  have F25 := fun_mk (st := s__law_low) l25 c25 k25
  have b25 := F25.binds (ps := ["above", "below"]) fun _ _ _ _ _ _ us hl => match us, hl with | [_, _], _ => rfl
  have F26 := fun_mk (st := s__law_add) l26 c26 k26
  have b26 := F26.binds (ps := ["one", "other"]) fun _ _ _ _ _ _ us hl => match us, hl with | [_, _], _ => rfl
  have F27 := fun_mk (st := s__law_sub) l27 c27 k27
  have b27 := F27.binds (ps := ["one", "other"]) fun _ _ _ _ _ _ us hl => match us, hl with | [_, _], _ => rfl
  have F28 := fun_mk (st := s__law_mul) l28 c28 k28
  have b28 := F28.binds (ps := ["one", "other"]) fun _ _ _ _ _ _ us hl => match us, hl with | [_, _], _ => rfl
  have F29 := fun_mk (st := s__law_less) l29 c29 k29
  have b29 := F29.binds (ps := ["one", "other"]) fun _ _ _ _ _ _ us hl => match us, hl with | [_, _], _ => rfl
  have F30 := fun_mk (st := s__law_sum) l30 c30 k30
  have b30 := F30.binds (ps := ["some"]) fun _ _ _ _ _ _ us hl => match us, hl with | [_], _ => rfl
  have F31 := fun_mk (st := s__law_eaten) l31 c31 k31
  have b31 := F31.binds (ps := ["wishes", "stock"]) fun _ _ _ _ _ _ us hl => match us, hl with | [_, _], _ => rfl
  have F32 := fun_mk (st := s__law_up_to) l32 c32 k32
  have b32 := F32.binds (ps := ["wishes", "name", "share"]) fun _ _ _ _ _ _ us hl => match us, hl with | [_, _, _], _ => rfl
  have F33 := fun_mk (st := s__law_case_right) l33 c33 k33
  have b33 := F33.binds (ps := ["purse"]) fun _ _ _ _ _ _ us hl => match us, hl with | [_], _ => rfl
  have F34 := fun_mk (st := s_law) l34 c34 k34
  have b34 := F34.binds (ps := ["script"]) fun _ _ _ _ _ _ us hl => match us, hl with | [_], _ => rfl
  have kb : KBinds K (PySem.W.fnOf "eaten_shares" "eaten_shares" (defArgs s_eaten_shares) (defBody s_eaten_shares) (defScope s_eaten_shares) .none kV16 dc16 pm16 an16 cd16 ct16) ["wishes", "stock"] ["stock", "wishes"] gSW gSWV := kb_mk fun a b => rfl
  let T : Th K mg := {
    f_is_name := f0
    d_is_name := _
    F_is_name := F0
    b_is_name := b0
    g_is_name := PySem.W.mg_of X G a0
    f_is_count := f1
    d_is_count := _
    F_is_count := F1
    b_is_count := b1
    g_is_count := PySem.W.mg_of X G a1
    f_are_names := f2
    d_are_names := _
    F_are_names := F2
    b_are_names := b2
    g_are_names := PySem.W.mg_of X G a2
    f_is_stock := f3
    d_is_stock := _
    F_is_stock := F3
    b_is_stock := b3
    g_is_stock := PySem.W.mg_of X G a3
    f_check_stock := f4
    d_check_stock := _
    F_check_stock := F4
    b_check_stock := b4
    g_check_stock := PySem.W.mg_of X G a4
    f_are_wishes := f5
    d_are_wishes := _
    F_are_wishes := F5
    b_are_wishes := b5
    g_are_wishes := PySem.W.mg_of X G a5
    f_check_wishes := f6
    d_check_wishes := _
    F_check_wishes := F6
    b_check_wishes := b6
    g_check_wishes := PySem.W.mg_of X G a6
    f_check_asked := f7
    d_check_asked := _
    F_check_asked := F7
    b_check_asked := b7
    g_check_asked := PySem.W.mg_of X G a7
    f_least_terms := f8
    d_least_terms := _
    F_least_terms := F8
    b_least_terms := b8
    g_least_terms := PySem.W.mg_of X G a8
    f_plus := f9
    d_plus := _
    F_plus := F9
    b_plus := b9
    g_plus := PySem.W.mg_of X G a9
    f_minus := f10
    d_minus := _
    F_minus := F10
    b_minus := b10
    g_minus := PySem.W.mg_of X G a10
    f_times := f11
    d_times := _
    F_times := F11
    b_times := b11
    g_times := PySem.W.mg_of X G a11
    f_is_below := f12
    d_is_below := _
    F_is_below := F12
    b_is_below := b12
    g_is_below := PySem.W.mg_of X G a12
    f_least_of := f13
    d_least_of := _
    F_least_of := F13
    b_least_of := b13
    g_least_of := PySem.W.mg_of X G a13
    f_in_order := f14
    d_in_order := _
    F_in_order := F14
    b_in_order := b14
    g_in_order := PySem.W.mg_of X G a14
    f_meal_of := f15
    d_meal_of := _
    F_meal_of := F15
    b_meal_of := b15
    g_meal_of := PySem.W.mg_of X G a15
    f_eaten_shares := f16
    d_eaten_shares := _
    F_eaten_shares := F16
    b_eaten_shares := b16
    g_eaten_shares := PySem.W.mg_of X G a16
    f__law_purse := f17
    d__law_purse := _
    F__law_purse := F17
    b__law_purse := b17
    g__law_purse := PySem.W.mg_of X G a17
    f__law_mixed := f18
    d__law_mixed := _
    F__law_mixed := F18
    b__law_mixed := b18
    g__law_mixed := PySem.W.mg_of X G a18
    f__law_draw := f19
    d__law_draw := _
    F__law_draw := F19
    b__law_draw := b19
    g__law_draw := PySem.W.mg_of X G a19
    f__law_purses := f20
    d__law_purses := _
    F__law_purses := F20
    b__law_purses := b20
    g__law_purses := PySem.W.mg_of X G a20
    f__law_one_of := f21
    d__law_one_of := _
    F__law_one_of := F21
    b__law_one_of := b21
    g__law_one_of := PySem.W.mg_of X G a21
    f__law_shuffled := f22
    d__law_shuffled := _
    F__law_shuffled := F22
    b__law_shuffled := b22
    g__law_shuffled := PySem.W.mg_of X G a22
    f__law_exact := f23
    d__law_exact := _
    F__law_exact := F23
    b__law_exact := b23
    g__law_exact := PySem.W.mg_of X G a23
    f__law_wishes := f24
    d__law_wishes := _
    F__law_wishes := F24
    b__law_wishes := b24
    g__law_wishes := PySem.W.mg_of X G a24
    f__law_low := f25
    d__law_low := _
    F__law_low := F25
    b__law_low := b25
    g__law_low := PySem.W.mg_of X G a25
    f__law_add := f26
    d__law_add := _
    F__law_add := F26
    b__law_add := b26
    g__law_add := PySem.W.mg_of X G a26
    f__law_sub := f27
    d__law_sub := _
    F__law_sub := F27
    b__law_sub := b27
    g__law_sub := PySem.W.mg_of X G a27
    f__law_mul := f28
    d__law_mul := _
    F__law_mul := F28
    b__law_mul := b28
    g__law_mul := PySem.W.mg_of X G a28
    f__law_less := f29
    d__law_less := _
    F__law_less := F29
    b__law_less := b29
    g__law_less := PySem.W.mg_of X G a29
    f__law_sum := f30
    d__law_sum := _
    F__law_sum := F30
    b__law_sum := b30
    g__law_sum := PySem.W.mg_of X G a30
    f__law_eaten := f31
    d__law_eaten := _
    F__law_eaten := F31
    b__law_eaten := b31
    g__law_eaten := PySem.W.mg_of X G a31
    f__law_up_to := f32
    d__law_up_to := _
    F__law_up_to := F32
    b__law_up_to := b32
    g__law_up_to := PySem.W.mg_of X G a32
    f__law_case_right := f33
    d__law_case_right := _
    F__law_case_right := F33
    b__law_case_right := b33
    g__law_case_right := PySem.W.mg_of X G a33
    f_law := fa
    d_law := _
    F_law := F34
    b_law := b34
    g_law := PySem.W.mg_of X G a34
    n_len := PySem.W.mg_none_of X G z_len
    n_isinstance := PySem.W.mg_none_of X G z_isinstance
    n_str := PySem.W.mg_none_of X G z_str
    n_int := PySem.W.mg_none_of X G z_int
    n_bool := PySem.W.mg_none_of X G z_bool
    n_list := PySem.W.mg_none_of X G z_list
    n_dict := PySem.W.mg_none_of X G z_dict
    n_tuple := PySem.W.mg_none_of X G z_tuple
    n_set := PySem.W.mg_none_of X G z_set
    n_sorted := PySem.W.mg_none_of X G z_sorted
    n_abs := PySem.W.mg_none_of X G z_abs
    n_sum := PySem.W.mg_none_of X G z_sum
    n_max := PySem.W.mg_none_of X G z_max
    n_min := PySem.W.mg_none_of X G z_min
    n_range := PySem.W.mg_none_of X G z_range
    n_zip := PySem.W.mg_none_of X G z_zip
    n_all := PySem.W.mg_none_of X G z_all
    n_repr := PySem.W.mg_none_of X G z_repr
    n_enumerate := PySem.W.mg_none_of X G z_enumerate
    t_LOWER := tL
    c_LOWER := PySem.W.mg_of X G aL }
  exact ⟨PySem.W.fnOf "law" "law" (defArgs s_law) (defBody s_law) (defScope s_law) .none kV34 dc34 pm34 an34 cd34 ct34, fun s v => .of_eq rfl, fun base _ _ hm => ok_law T kb hm⟩
theorem walk {l : PySem.W.OpenLaw} {q : Program} {loose : List Str} {XP : (Str → Option Value) → Heap → Prop} {YP : World → Heap → Prop} {d : DefRec} {K : Params → PySem.W.Frag} (hq : importsNone q = true) (hn : l.most = some 63) (hdf : d.params.defaults = [])
    (hY : ∀ (w : World) (h : Heap), YP w h → (K w.params).In h)
    (F : ∀ (w : World) (mg : Str → Option Value) (fa : Addr) (h : Heap), (K w.params).In h → h.Ns mainGlobals mg → mg d.name = some (.ref fa) →
      ∃ fd : FuncData, (∀ (s : Shared) (u : Value), BindsTo s fd ⟨[u], []⟩ [("script", u)]) ∧ ∀ base : Heap, (K w.params).In base → base.Ns mainGlobals mg → (∃ mm, base.Ns sysModules mm) → FnOkG l.prog w (K w.params) mg base CX0 8 fa fd ["script"] (spLaw (K w.params))) :
    PySem.W.WalkO q loose XP YP l.row.toRowW d [] (fun f vs => PySem.call f vs) :=
  walk_ofG (n := 63) (k := 8) (x := "script") (sp := spLaw) hq hn (by decide) hdf ⟨rfl, by decide, by decide⟩ hY F fun K H a ns hl _ hS => ⟨a, ns, rfl, hS, hl, fun _ => rfl⟩
end K79
open PySem PySem.W PyProof.Rows
set_option maxRecDepth 100000 in
set_option maxHeartbeats 0 in
theorem PySem.Challenge.cw_likedbest_k79_whole_eaten_shares_holds : PySem.Challenge.rw_likedbest_k79_whole_eaten_shares.Holds := by
  w_on; o_law; k_head; (case hw => w_witness2)
  k_fill
  refine K79.walk (l := PySem.Challenge.rw_likedbest_k79_whole_eaten_shares) ?hq rfl rfl (fun w h Y => PySem.W.kIn_of Y) ?F
  case hq => rfl
  case F =>
    intro w mg fa h KX G hmg
    refine' K79.all_mk KX G hmg ?a0 ?l0 ?c0 ?k0 ?a1 ?l1 ?c1 ?k1 ?a2 ?l2 ?c2 ?k2 ?a3 ?l3 ?c3 ?k3 ?a4 ?l4 ?c4 ?k4 ?a5 ?l5 ?c5 ?k5 ?a6 ?l6 ?c6 ?k6 ?a7 ?l7 ?c7 ?k7 ?a8 ?l8 ?c8 ?k8 ?a9 ?l9 ?c9 ?k9 ?a10 ?l10 ?c10 ?k10 ?a11 ?l11 ?c11 ?k11 ?a12 ?l12 ?c12 ?k12 ?a13 ?l13 ?c13 ?k13 ?a14 ?l14 ?c14 ?k14 ?a15 ?l15 ?c15 ?k15 ?a16 ?l16 ?c16 ?k16 ?a17 ?l17 ?c17 ?k17 ?a18 ?l18 ?c18 ?k18 ?a19 ?l19 ?c19 ?k19 ?a20 ?l20 ?c20 ?k20 ?a21 ?l21 ?c21 ?k21 ?a22 ?l22 ?c22 ?k22 ?a23 ?l23 ?c23 ?k23 ?a24 ?l24 ?c24 ?k24 ?a25 ?l25 ?c25 ?k25 ?a26 ?l26 ?c26 ?k26 ?a27 ?l27 ?c27 ?k27 ?a28 ?l28 ?c28 ?k28 ?a29 ?l29 ?c29 ?k29 ?a30 ?l30 ?c30 ?k30 ?a31 ?l31 ?c31 ?k31 ?a32 ?l32 ?c32 ?k32 ?a33 ?l33 ?c33 ?k33 ?a34 ?l34 ?c34 ?k34 ?z_len ?z_isinstance ?z_str ?z_int ?z_bool ?z_list ?z_dict ?z_tuple ?z_set ?z_sorted ?z_abs ?z_sum ?z_max ?z_min ?z_range ?z_zip ?z_all ?z_repr ?z_enumerate ?aL
    (case a0 => k_is)
    (case l0 => k_is)
    (case c0 => k_is)
    (case k0 => k_is)
    (case a1 => k_is)
    (case l1 => k_is)
    (case c1 => k_is)
    (case k1 => k_is)
    (case a2 => k_is)
    (case l2 => k_is)
    (case c2 => k_is)
    (case k2 => k_is)
    (case a3 => k_is)
    (case l3 => k_is)
    (case c3 => k_is)
    (case k3 => k_is)
    (case a4 => k_is)
    (case l4 => k_is)
    (case c4 => k_is)
    (case k4 => k_is)
    (case a5 => k_is)
    (case l5 => k_is)
    (case c5 => k_is)
    (case k5 => k_is)
    (case a6 => k_is)
    (case l6 => k_is)
    (case c6 => k_is)
    (case k6 => k_is)
    (case a7 => k_is)
    (case l7 => k_is)
    (case c7 => k_is)
    (case k7 => k_is)
    (case a8 => k_is)
    (case l8 => k_is)
    (case c8 => k_is)
    (case k8 => k_is)
    (case a9 => k_is)
    (case l9 => k_is)
    (case c9 => k_is)
    (case k9 => k_is)
    (case a10 => k_is)
    (case l10 => k_is)
    (case c10 => k_is)
    (case k10 => k_is)
    (case a11 => k_is)
    (case l11 => k_is)
    (case c11 => k_is)
    (case k11 => k_is)
    (case a12 => k_is)
    (case l12 => k_is)
    (case c12 => k_is)
    (case k12 => k_is)
    (case a13 => k_is)
    (case l13 => k_is)
    (case c13 => k_is)
    (case k13 => k_is)
    (case a14 => k_is)
    (case l14 => k_is)
    (case c14 => k_is)
    (case k14 => k_is)
    (case a15 => k_is)
    (case l15 => k_is)
    (case c15 => k_is)
    (case k15 => k_is)
    (case a16 => k_is)
    (case l16 => k_is)
    (case c16 => k_is)
    (case k16 => k_is)
    (case a17 => k_is)
    (case l17 => k_is)
    (case c17 => k_is)
    (case k17 => k_is)
    (case a18 => k_is)
    (case l18 => k_is)
    (case c18 => k_is)
    (case k18 => k_is)
    (case a19 => k_is)
    (case l19 => k_is)
    (case c19 => k_is)
    (case k19 => k_is)
    (case a20 => k_is)
    (case l20 => k_is)
    (case c20 => k_is)
    (case k20 => k_is)
    (case a21 => k_is)
    (case l21 => k_is)
    (case c21 => k_is)
    (case k21 => k_is)
    (case a22 => k_is)
    (case l22 => k_is)
    (case c22 => k_is)
    (case k22 => k_is)
    (case a23 => k_is)
    (case l23 => k_is)
    (case c23 => k_is)
    (case k23 => k_is)
    (case a24 => k_is)
    (case l24 => k_is)
    (case c24 => k_is)
    (case k24 => k_is)
    (case a25 => k_is)
    (case l25 => k_is)
    (case c25 => k_is)
    (case k25 => k_is)
    (case a26 => k_is)
    (case l26 => k_is)
    (case c26 => k_is)
    (case k26 => k_is)
    (case a27 => k_is)
    (case l27 => k_is)
    (case c27 => k_is)
    (case k27 => k_is)
    (case a28 => k_is)
    (case l28 => k_is)
    (case c28 => k_is)
    (case k28 => k_is)
    (case a29 => k_is)
    (case l29 => k_is)
    (case c29 => k_is)
    (case k29 => k_is)
    (case a30 => k_is)
    (case l30 => k_is)
    (case c30 => k_is)
    (case k30 => k_is)
    (case a31 => k_is)
    (case l31 => k_is)
    (case c31 => k_is)
    (case k31 => k_is)
    (case a32 => k_is)
    (case l32 => k_is)
    (case c32 => k_is)
    (case k32 => k_is)
    (case a33 => k_is)
    (case l33 => k_is)
    (case c33 => k_is)
    (case k33 => k_is)
    (case a34 => k_is)
    (case l34 => k_is)
    (case c34 => k_is)
    (case k34 => k_is)
    (case z_len => k_is)
    (case z_isinstance => k_is)
    (case z_str => k_is)
    (case z_int => k_is)
    (case z_bool => k_is)
    (case z_list => k_is)
    (case z_dict => k_is)
    (case z_tuple => k_is)
    (case z_set => k_is)
    (case z_sorted => k_is)
    (case z_abs => k_is)
    (case z_sum => k_is)
    (case z_max => k_is)
    (case z_min => k_is)
    (case z_range => k_is)
    (case z_zip => k_is)
    (case z_all => k_is)
    (case z_repr => k_is)
    (case z_enumerate => k_is)
    (case aL => k_is)

